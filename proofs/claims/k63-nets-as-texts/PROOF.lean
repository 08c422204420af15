import PyProof.Rows.All
import Wide.All
import OpenK.AllK
import Wide.FinOn
import HandS.ForMost
import HandS.ForExc
import KE.DataEq
import KE.DataCmp
import HandS.Wide
import HandS.TupAny
import HandS.Star
import HandS.FStr
import HandS.Property
import HandS.Zip
import HandS.IsInst
import HandS.Deep
import HandS.TupLen
import HandS.Style
import PyProof.ReprReads
import HandS.OwnEq
import PyProof.SeqIndex
import HandS.TupSets
import KE.KDictKeyed
import KE.SortData
import KE.GoesZip
import KE.GoesEnum
import HandS.EndBits
import PySem.Challenge.RW_quietturns_k63_nets_as_texts
set_option Elab.async false
set_option linter.all false
set_option maxRecDepth 100000
section
set_option maxHeartbeats 4000000
/-! The data layer, part a: deep data D, the store Sto of cells that may change, what a value stands for (Rp), lifted readings. -/
namespace DL
open PySem PySem.Spec L2

/-- deep data: lists, tuples, dicts, instances by what they hold; ref: by address (a cell of the store, a class, a def) -/
inductive D where
  | non | bl (b : Bool) | int (i : Int) | str (x : Str) | ty (n : String) | ref (a : Addr)
  | scr (ns : List Int) | ktp (xs : List D)
  | tup (xs : List D) | lst (xs : List D)
  | obj (C : Addr) (fs : List (Str × D))
  | dK (kvs : List (Key × D)) | dT (kvs : List (List Key × D))
/-- cells that may change -/
abbrev Sto := Addr → Option D
def Sto.put (S : Sto) (a : Addr) (d : D) : Sto := fun b => if b = a then some d else S b
def Sto.del (S : Sto) (a : Addr) : Sto := fun b => if b = a then none else S b
theorem put_same {S : Sto} {a : Addr} {d : D} : S.put a d a = some d := by unfold Sto.put; rw [if_pos rfl]
theorem put_ne {S : Sto} {a b : Addr} {d : D} (h : b ≠ a) : S.put a d b = S b := by unfold Sto.put; rw [if_neg h]
theorem put_put {S : Sto} {a : Addr} {d e : D} : (S.put a d).put a e = S.put a e := by
  funext b; unfold Sto.put; split <;> rfl
theorem del_same {S : Sto} {a : Addr} : S.del a a = none := by unfold Sto.del; rw [if_pos rfl]
theorem del_ne {S : Sto} {a b : Addr} (h : b ≠ a) : S.del a b = S b := by unfold Sto.del; rw [if_neg h]
theorem del_put {S : Sto} {a : Addr} {d : D} (h : S a = none) : (S.put a d).del a = S := by
  funext b
  by_cases e : b = a
  · rw [e, del_same, h]
  · rw [del_ne e, put_ne e]

/-- a tuple that stands still -/
def TupAt (K : PySem.W.Frag) (H : Hp) (S : Sto) (a : Addr) (vs : List V) : Prop :=
  (S a = none ∧ Rd H a (.tup vs)) ∨ ∃ (o : Obj) (its : Array Value) (n : Nat), K.lookup a = some o ∧ o.cls = .type "tuple" ∧ o.data = .seq its n ∧ its.size ≤ sizeLine ∧ Vals vs its.toList
def ScrAt (K : PySem.W.Frag) (H : Hp) (S : Sto) (a : Addr) (vs : List V) : Prop :=
  (S a = none ∧ Rd H a (.lst vs)) ∨ ∃ (o : Obj) (its : Array Value) (n : Nat), K.lookup a = some o ∧ o.cls = .type "list" ∧ o.dict = none ∧ o.data = .seq its n ∧ its.size ≤ sizeLine ∧ Vals vs its.toList
theorem TupAt.sq {K : PySem.W.Frag} {H : Hp} {S : Sto} {a : Addr} {vs : List V} (h : TupAt K H S a vs) : SqT K H a vs := h.imp (·.2) id
theorem ScrAt.sq {K : PySem.W.Frag} {H : Hp} {S : Sto} {a : Addr} {vs : List V} (h : ScrAt K H S a vs) : SqL K H a vs := h.imp (·.2) id

/-- what a value stands for -/
inductive Rp (K : PySem.W.Frag) (H : Hp) (S : Sto) : V → D → Prop
  | non : Rp K H S .non .non
  | bl (b : Bool) : Rp K H S (.bl b) (.bl b)
  | int (i : Int) : Rp K H S (.int i) (.int i)
  | str (x : Str) : Rp K H S (.str x) (.str x)
  | ty (n : String) : Rp K H S (.ty n) (.ty n)
  | ref (a : Addr) : Rp K H S (.ref a) (.ref a)
  | scr {a : Addr} {ns : List Int} : ScrAt K H S a (ns.map V.int) → Rp K H S (.ref a) (.scr ns)
  | ktp {a : Addr} {vs : List V} {ds : List D} : TupAt K H S a vs → vs.length = ds.length → (∀ (i : Nat) v d, vs[i]? = some v → ds[i]? = some d → Rp K H S v d) → Rp K H S (.ref a) (.ktp ds)
  | tup {a : Addr} {vs : List V} {ds : List D} : H a = some (.tup vs) → S a = none → vs.length = ds.length → (∀ (i : Nat) v d, vs[i]? = some v → ds[i]? = some d → Rp K H S v d) → Rp K H S (.ref a) (.tup ds)
  | lst {a : Addr} {vs : List V} {ds : List D} : H a = some (.lst vs) → S a = none → vs.length = ds.length → (∀ (i : Nat) v d, vs[i]? = some v → ds[i]? = some d → Rp K H S v d) → Rp K H S (.ref a) (.lst ds)
  | obj {a C dx : Addr} {vs : List (Str × V)} {fs : List (Str × D)} : H a = some (.ins C dx vs) → S a = none → vs.map (·.1) = fs.map (·.1) → (∀ (i : Nat) v d, vs[i]? = some v → fs[i]? = some d → Rp K H S v.2 d.2) → Rp K H S (.ref a) (.obj C fs)
  | dK {a : Addr} {vs : List (Key × V)} {kvs : List (Key × D)} : H a = some (.dK vs) → S a = none → vs.map (·.1) = kvs.map (·.1) → (∀ (i : Nat) v d, vs[i]? = some v → kvs[i]? = some d → Rp K H S v.2 d.2) → Rp K H S (.ref a) (.dK kvs)
  | dT {a : Addr} {vs : List (List Key × V)} {kvs : List (List Key × D)} : H a = some (.dT vs) → S a = none → vs.map (·.1) = kvs.map (·.1) → (∀ (i : Nat) v d, vs[i]? = some v → kvs[i]? = some d → Rp K H S v.2 d.2) → Rp K H S (.ref a) (.dT kvs)

/-- the frame: what stood and was no cell stands, and is none -/
def Fr (H : Hp) (S : Sto) (H' : Hp) (S' : Sto) : Prop := ∀ a o, H a = some o → S a = none → H' a = some o ∧ S' a = none
theorem Fr.refl (H : Hp) (S : Sto) : Fr H S H S := fun _ _ h s => ⟨h, s⟩
theorem Fr.trans {H H1 H2 : Hp} {S S1 S2 : Sto} (a : Fr H S H1 S1) (b : Fr H1 S1 H2 S2) : Fr H S H2 S2 := fun x o h s =>
  let ⟨h1, s1⟩ := a x o h s
  b x o h1 s1
section
variable {K : PySem.W.Frag} {H H' : Hp} {S S' : Sto}
theorem Fr.rd {a : Addr} {u : HO} (f : Fr H S H' S') (s : S a = none) (h : Rd H a u) : S' a = none ∧ Rd H' a u := by
  rcases h with h | ⟨o, h⟩
  · obtain ⟨h1, s1⟩ := f a _ h s
    exact ⟨s1, .inl h1⟩
  · obtain ⟨h1, s1⟩ := f a _ h s
    exact ⟨s1, .inr ⟨o, h1⟩⟩
theorem Fr.tup {a : Addr} {vs : List V} (f : Fr H S H' S') (h : TupAt K H S a vs) : TupAt K H' S' a vs := h.imp (fun h => f.rd h.1 h.2) id
theorem Fr.scr {a : Addr} {vs : List V} (f : Fr H S H' S') (h : ScrAt K H S a vs) : ScrAt K H' S' a vs := h.imp (fun h => f.rd h.1 h.2) id
theorem Rp.fr {v : V} {d : D} (f : Fr H S H' S') (h : Rp K H S v d) : Rp K H' S' v d := by
  induction h with
  | non => exact .non
  | bl b => exact .bl b
  | int i => exact .int i
  | str x => exact .str x
  | ty n => exact .ty n
  | ref a => exact .ref a
  | scr t => exact .scr (f.scr t)
  | ktp t l _ ih => exact .ktp (f.tup t) l ih
  | tup t s l _ ih => exact .tup (f _ _ t s).1 (f _ _ t s).2 l ih
  | lst t s l _ ih => exact .lst (f _ _ t s).1 (f _ _ t s).2 l ih
  | obj t s l _ ih => exact .obj (f _ _ t s).1 (f _ _ t s).2 l ih
  | dK t s l _ ih => exact .dK (f _ _ t s).1 (f _ _ t s).2 l ih
  | dT t s l _ ih => exact .dT (f _ _ t s).1 (f _ _ t s).2 l ih
/-- lists of values that stand for lists of data -/
def RpL (K : PySem.W.Frag) (H : Hp) (S : Sto) (vs : List V) (ds : List D) : Prop := vs.length = ds.length ∧ ∀ (i : Nat) v d, vs[i]? = some v → ds[i]? = some d → Rp K H S v d
def RpP {κ : Type} (K : PySem.W.Frag) (H : Hp) (S : Sto) (vs : List (κ × V)) (ds : List (κ × D)) : Prop := vs.map (·.1) = ds.map (·.1) ∧ ∀ (i : Nat) v d, vs[i]? = some v → ds[i]? = some d → Rp K H S v.2 d.2
theorem RpL.fr {vs : List V} {ds : List D} (f : Fr H S H' S') (h : RpL K H S vs ds) : RpL K H' S' vs ds := ⟨h.1, fun i v d a b => (h.2 i v d a b).fr f⟩
theorem RpP.fr {κ : Type} {vs : List (κ × V)} {ds : List (κ × D)} (f : Fr H S H' S') (h : RpP K H S vs ds) : RpP K H' S' vs ds := ⟨h.1, fun i v d a b => (h.2 i v d a b).fr f⟩
theorem RpL.nil : RpL K H S [] [] := ⟨rfl, fun i v d h _ => by simp at h⟩
theorem RpL.cons {v : V} {d : D} {vs : List V} {ds : List D} (h : Rp K H S v d) (t : RpL K H S vs ds) : RpL K H S (v :: vs) (d :: ds) := by
  refine ⟨by simp [t.1], fun i w e h1 h2 => ?_⟩
  cases i with
  | zero =>
    simp at h1 h2
    subst h1 h2
    exact h
  | succ i => exact t.2 i w e (by simpa using h1) (by simpa using h2)
theorem RpL.head {v : V} {vs : List V} {d : D} {ds : List D} (h : RpL K H S (v :: vs) (d :: ds)) : Rp K H S v d := h.2 0 v d (by simp) (by simp)
theorem RpL.tail {v : V} {vs : List V} {d : D} {ds : List D} (h : RpL K H S (v :: vs) (d :: ds)) : RpL K H S vs ds :=
  ⟨by simpa using h.1, fun i w e h1 h2 => h.2 (i + 1) w e (by simpa using h1) (by simpa using h2)⟩
theorem RpL.inv_nil {vs : List V} (h : RpL K H S vs []) : vs = [] := List.eq_nil_of_length_eq_zero h.1
theorem RpL.inv_cons {vs : List V} {d : D} {ds : List D} (h : RpL K H S vs (d :: ds)) : ∃ v r, vs = v :: r ∧ Rp K H S v d ∧ RpL K H S r ds := by
  cases vs with
  | nil => have := h.1; simp at this
  | cons v r => exact ⟨v, r, rfl, h.head, h.tail⟩
theorem RpL.get {vs : List V} {ds : List D} {i : Nat} {d : D} (h : RpL K H S vs ds) (e : ds[i]? = some d) : ∃ v, vs[i]? = some v ∧ Rp K H S v d := by
  have hi : i < vs.length := by
    rw [h.1]
    exact (List.getElem?_eq_some_iff.mp e).1
  exact ⟨vs[i], List.getElem?_eq_getElem hi, h.2 i _ d (List.getElem?_eq_getElem hi) e⟩
theorem RpL.get' {vs : List V} {ds : List D} {i : Nat} {v : V} (h : RpL K H S vs ds) (e : vs[i]? = some v) : ∃ d, ds[i]? = some d ∧ Rp K H S v d := by
  have hi : i < ds.length := by
    rw [← h.1]
    exact (List.getElem?_eq_some_iff.mp e).1
  exact ⟨ds[i], List.getElem?_eq_getElem hi, h.2 i v _ e (List.getElem?_eq_getElem hi)⟩
theorem RpL.append {vs ws : List V} {ds es : List D} (h : RpL K H S vs ds) (k : RpL K H S ws es) : RpL K H S (vs ++ ws) (ds ++ es) := by
  refine ⟨by rw [List.length_append, List.length_append, h.1, k.1], fun i v d h1 h2 => ?_⟩
  by_cases hi : i < vs.length
  · rw [List.getElem?_append_left hi] at h1
    rw [List.getElem?_append_left (by rw [← h.1]; exact hi)] at h2
    exact h.2 i v d h1 h2
  · rw [List.getElem?_append_right (by omega)] at h1
    rw [List.getElem?_append_right (by rw [← h.1]; omega), ← h.1] at h2
    exact k.2 _ v d h1 h2
theorem RpL.drop {vs : List V} {ds : List D} (n : Nat) (h : RpL K H S vs ds) : RpL K H S (vs.drop n) (ds.drop n) := by
  refine ⟨by rw [List.length_drop, List.length_drop, h.1], fun i v d h1 h2 => ?_⟩
  rw [List.getElem?_drop] at h1 h2
  exact h.2 _ v d h1 h2
theorem RpL.take {vs : List V} {ds : List D} (n : Nat) (h : RpL K H S vs ds) : RpL K H S (vs.take n) (ds.take n) := by
  refine ⟨by rw [List.length_take, List.length_take, h.1], fun i v d h1 h2 => ?_⟩
  rw [List.getElem?_take] at h1 h2
  split at h1
  · rename_i hi
    rw [if_pos hi] at h2
    exact h.2 _ v d h1 h2
  · cases h1
theorem RpL.set {vs : List V} {ds : List D} {v : V} {d : D} (n : Nat) (h : RpL K H S vs ds) (r : Rp K H S v d) : RpL K H S (vs.set n v) (ds.set n d) := by
  refine ⟨by rw [List.length_set, List.length_set, h.1], fun i w e h1 h2 => ?_⟩
  by_cases hi : n = i
  · subst hi
    have hl : n < vs.length := by
      have := (List.getElem?_eq_some_iff.mp h1).1
      rwa [List.length_set] at this
    rw [List.getElem?_set_self hl] at h1
    rw [List.getElem?_set_self (by rw [← h.1]; exact hl)] at h2
    cases h1
    cases h2
    exact r
  · rw [List.getElem?_set_ne hi] at h1 h2
    exact h.2 i w e h1 h2
theorem RpL.reverse {vs : List V} {ds : List D} (h : RpL K H S vs ds) : RpL K H S vs.reverse ds.reverse := by
  refine ⟨by rw [List.length_reverse, List.length_reverse, h.1], fun i v d h1 h2 => ?_⟩
  have hi : i < vs.length := by
    have := (List.getElem?_eq_some_iff.mp h1).1
    rwa [List.length_reverse] at this
  rw [List.getElem?_reverse hi] at h1
  rw [List.getElem?_reverse (by rw [← h.1]; exact hi), ← h.1] at h2
  exact h.2 _ v d h1 h2
theorem RpL.snoc {vs : List V} {ds : List D} {v : V} {d : D} (h : RpL K H S vs ds) (r : Rp K H S v d) : RpL K H S (vs ++ [v]) (ds ++ [d]) := h.append (.cons r .nil)
theorem RpL.dropLast {vs : List V} {ds : List D} (h : RpL K H S vs ds) : RpL K H S vs.dropLast ds.dropLast := by
  rw [List.dropLast_eq_take, List.dropLast_eq_take, h.1]
  exact h.take _
theorem RpL.ints (ns : List Int) : RpL K H S (ns.map V.int) (ns.map D.int) := by
  refine ⟨by simp, fun i v d h1 h2 => ?_⟩
  rw [List.getElem?_map] at h1 h2
  cases e : ns[i]? with
  | none => rw [e] at h1; cases h1
  | some n =>
    rw [e] at h1 h2
    cases h1
    cases h2
    exact .int n

/-- what a cell holds -/
def Cl (K : PySem.W.Frag) (H : Hp) (S : Sto) (a : Addr) : D → Prop
  | .lst ds => ∃ vs, H a = some (.lst vs) ∧ RpL K H S vs ds
  | .obj C fs => ∃ dx vs, H a = some (.ins C dx vs) ∧ RpP K H S vs fs
  | .dK kvs => ∃ vs, H a = some (.dK vs) ∧ RpP K H S vs kvs
  | .dT kvs => ∃ vs, H a = some (.dT vs) ∧ RpP K H S vs kvs
  | _ => False
/-- the store is held -/
def RS (K : PySem.W.Frag) (H : Hp) (S : Sto) : Prop := ∀ a d, S a = some d → Cl K H S a d
theorem Cl.some {a : Addr} {d : D} (h : Cl K H S a d) : ∃ o, H a = Option.some o := by
  cases d <;> first | exact h.elim | (obtain ⟨vs, h, _⟩ := h; exact ⟨_, h⟩) | (obtain ⟨_, vs, h, _⟩ := h; exact ⟨_, h⟩)
theorem Cl.fr {a : Addr} {d : D} (f : Fr H S H' S') (e : H' a = H a) (h : Cl K H S a d) : Cl K H' S' a d := by
  cases d <;> first
    | exact h.elim
    | (obtain ⟨vs, h, r⟩ := h; exact ⟨vs, e.trans h, r.fr f⟩)
    | (obtain ⟨dx, vs, h, r⟩ := h; exact ⟨dx, vs, e.trans h, r.fr f⟩)
theorem RS.free {a : Addr} (h : RS K H S) (e : H a = none) : S a = none := by
  cases q : S a with
  | none => rfl
  | some d =>
    obtain ⟨o, z⟩ := (h a d q).some
    rw [e] at z
    cases z
/-- a new thing at p -/
theorem Fr.new {p : Addr} {o : HO} (h : H p = none) : Fr H S (upd H p o) S := fun a u e s => ⟨by rw [upd_ne (ne_of_none e h)]; exact e, s⟩
theorem RS.new {p : Addr} {o : HO} (h : RS K H S) (e : H p = none) : RS K (upd H p o) S := fun a d q => by
  obtain ⟨u, z⟩ := (h a d q).some
  exact (h a d q).fr (Fr.new e) (upd_ne (ne_of_none z e))
/-- a new cell at p -/
theorem Fr.newc {p : Addr} {o : HO} {d : D} (h : H p = none) : Fr H S (upd H p o) (S.put p d) := fun a u e s =>
  have n := ne_of_none e h
  ⟨by rw [upd_ne n]; exact e, by rw [put_ne n]; exact s⟩
theorem Fr.cell {a : Addr} {o : HO} {d d' : D} (h : S a = some d) : Fr H S (upd H a o) (S.put a d') := fun b u e s => by
  have n : b ≠ a := fun z => by rw [z, h] at s; cases s
  exact ⟨by rw [upd_ne n]; exact e, by rw [put_ne n]; exact s⟩
theorem RS.put {a : Addr} {o : HO} {d : D} (h : RS K H S) (f : Fr H S (upd H a o) (S.put a d)) (c : Cl K (upd H a o) (S.put a d) a d) : RS K (upd H a o) (S.put a d) := fun b e q => by
  by_cases n : b = a
  · subst n
    rw [put_same] at q
    cases q
    exact c
  · rw [put_ne n] at q
    exact (h b e q).fr f (upd_ne n)
/-- some cells are forgotten -/
def Sub (S' S : Sto) : Prop := ∀ a d, S' a = some d → S a = some d
theorem Sub.refl (S : Sto) : Sub S S := fun _ _ h => h
theorem Sub.trans {S1 S2 S3 : Sto} (a : Sub S1 S2) (b : Sub S2 S3) : Sub S1 S3 := fun x d h => b x d (a x d h)
theorem Sub.none {a : Addr} (h : Sub S' S) (e : S a = none) : S' a = none := by
  cases q : S' a with
  | none => rfl
  | some d => rw [h a d q] at e; cases e
theorem Sub.fr (h : Sub S' S) : Fr H S H S' := fun _ _ e s => ⟨e, h.none s⟩
theorem Sub.rs (h : Sub S' S) (r : RS K H S) : RS K H S' := fun a d q => (r a d (h a d q)).fr h.fr rfl
theorem Sub.del (S : Sto) (a : Addr) : Sub (S.del a) S := fun b d h => by
  unfold Sto.del at h
  split at h
  · cases h
  · exact h
end

/-! ### readings free of the heap -/
abbrev DSt := List (Option D)
abbrev DK := D → Sto → Prop
abbrev DTE := DSt → Sto → DK → Prop
abbrev DTT := DSt → Sto → (Bool → Sto → Prop) → Prop
abbrev DTA := DSt → Sto → (List D → Sto → Prop) → Prop
structure DEnds where
  nx : DSt → Sto → Prop
  rt : DK
  bk : DSt → Sto → Prop := fun _ _ => False
  ct : DSt → Sto → Prop := fun _ _ => False
abbrev DTS := DEnds → DSt → Sto → Prop

/-- the slots -/
def SL (K : PySem.W.Frag) (H : Hp) (S : Sto) (σ : St) (ρ : DSt) : Prop := σ.length = ρ.length ∧ ∀ (i : Nat) d, ρ[i]? = some (some d) → ∃ v, σ[i]? = some (some v) ∧ Rp K H S v d
theorem SL.fr {K : PySem.W.Frag} {H H' : Hp} {S S' : Sto} {σ : St} {ρ : DSt} (f : Fr H S H' S') (h : SL K H S σ ρ) : SL K H' S' σ ρ := ⟨h.1, fun i d e => let ⟨v, a, b⟩ := h.2 i d e; ⟨v, a, b.fr f⟩⟩
theorem SL.set {K : PySem.W.Frag} {H : Hp} {S : Sto} {σ : St} {ρ : DSt} {v : V} {d : D} (i : Nat) (h : SL K H S σ ρ) (r : Rp K H S v d) : SL K H S (σ.set i (some v)) (ρ.set i (some d)) := by
  refine ⟨by simp [h.1], fun j e q => ?_⟩
  by_cases hi : i = j
  · subst hi
    have hl : i < ρ.length := by
      have := (List.getElem?_eq_some_iff.mp q).1
      rwa [List.length_set] at this
    rw [List.getElem?_set_self hl] at q
    cases q
    exact ⟨v, List.getElem?_set_self (by rw [h.1]; exact hl), r⟩
  · rw [List.getElem?_set_ne hi] at q
    obtain ⟨w, a, b⟩ := h.2 j e q
    exact ⟨w, by rw [List.getElem?_set_ne hi]; exact a, b⟩
theorem SL.unset {K : PySem.W.Frag} {H : Hp} {S : Sto} {σ : St} {ρ : DSt} (i : Nat) (h : SL K H S σ ρ) : SL K H S (σ.set i none) (ρ.set i none) := by
  refine ⟨by simp [h.1], fun j e q => ?_⟩
  by_cases hi : i = j
  · subst hi
    have hl : i < ρ.length := by
      have := (List.getElem?_eq_some_iff.mp q).1
      rwa [List.length_set] at this
    rw [List.getElem?_set_self hl] at q
    cases q
  · rw [List.getElem?_set_ne hi] at q
    obtain ⟨w, a, b⟩ := h.2 j e q
    exact ⟨w, by rw [List.getElem?_set_ne hi]; exact a, b⟩
/-- what a reading at data says of the values and the heap -/
def Nxt (K : PySem.W.Frag) (H : Hp) (S : Sto) (R : DK) (Q : VK) : Prop := ∀ d S', R d S' → ∀ v H', Rp K H' S' v d → RS K H' S' → Fr H S H' S' → Q v H'
theorem Nxt.same {K : PySem.W.Frag} {H : Hp} {S : Sto} {R : DK} {Q : VK} {v : V} {d : D} (n : Nxt K H S R Q) (h : R d S) (r : Rp K H S v d) (rs : RS K H S) : Q v H := n d S h v H r rs (Fr.refl H S)
theorem Nxt.new {K : PySem.W.Frag} {H : Hp} {S : Sto} {R : DK} {Q : VK} {v : V} {d : D} {p : Addr} {o : HO} (n : Nxt K H S R Q) (h : R d S) (e : H p = none) (rs : RS K H S) (r : Rp K (upd H p o) S v d) : Q v (upd H p o) :=
  n d S h v _ r (rs.new e) (Fr.new e)
theorem Nxt.from {K : PySem.W.Frag} {H H1 : Hp} {S S1 : Sto} {R : DK} {Q : VK} (n : Nxt K H S R Q) (f : Fr H S H1 S1) : Nxt K H1 S1 R Q := fun d S' h v H' r rs f' => n d S' h v H' r rs (f.trans f')
def lE (K : PySem.W.Frag) (t : DTE) : TE := fun σ H Q => ∃ ρ S R, SL K H S σ ρ ∧ RS K H S ∧ t ρ S R ∧ Nxt K H S R Q
def lT (K : PySem.W.Frag) (t : DTT) : TT := fun σ H Q => ∃ ρ S R, SL K H S σ ρ ∧ RS K H S ∧ t ρ S R ∧ ∀ b S', R b S' → ∀ H', RS K H' S' → Fr H S H' S' → Q b H'
def lA (K : PySem.W.Frag) (t : DTA) : TA := fun σ H Q => ∃ ρ S R, SL K H S σ ρ ∧ RS K H S ∧ t ρ S R ∧ ∀ ds S', R ds S' → ∀ vs H', RpL K H' S' vs ds → RS K H' S' → Fr H S H' S' → Q vs H'
/-- the ends of a statement -/
def NxS (K : PySem.W.Frag) (H : Hp) (S : Sto) (R : DSt → Sto → Prop) (Q : St → Hp → Prop) : Prop := ∀ ρ' S', R ρ' S' → ∀ σ' H', SL K H' S' σ' ρ' → RS K H' S' → Fr H S H' S' → Q σ' H'
structure NxE (K : PySem.W.Frag) (H : Hp) (S : Sto) (E : DEnds) (D : Ends) : Prop where
  nx : NxS K H S E.nx D.nx
  rt : Nxt K H S E.rt D.rt
  bk : NxS K H S E.bk D.bk
  ct : NxS K H S E.ct D.ct
theorem NxS.from {K : PySem.W.Frag} {H H1 : Hp} {S S1 : Sto} {R : DSt → Sto → Prop} {Q : St → Hp → Prop} (n : NxS K H S R Q) (f : Fr H S H1 S1) : NxS K H1 S1 R Q := fun ρ' S' h σ' H' r rs f' => n ρ' S' h σ' H' r rs (f.trans f')
theorem NxE.from {K : PySem.W.Frag} {H H1 : Hp} {S S1 : Sto} {E : DEnds} {D : Ends} (n : NxE K H S E D) (f : Fr H S H1 S1) : NxE K H1 S1 E D := ⟨n.nx.from f, n.rt.from f, n.bk.from f, n.ct.from f⟩
def lS (K : PySem.W.Frag) (t : DTS) : TS := fun D σ H => ∃ ρ S E, SL K H S σ ρ ∧ RS K H S ∧ t E ρ S ∧ NxE K H S E D

/-! ### judgements over data -/
section
variable {X : Cx}
theorem _root_.L2.PE.weak {e : Expr} {t t' : TE} (h : PE X e t) (w : ∀ σ H Q, t' σ H Q → t σ H Q) : PE X e t' := ⟨fun pins s σ H Q I q => h.run pins s σ H Q I (w σ H Q q)⟩
theorem _root_.L2.PT.weak {e : Expr} {t t' : TT} (h : PT X e t) (w : ∀ σ H Q, t' σ H Q → t σ H Q) : PT X e t' := ⟨fun pins s σ H Q I q => h.run pins s σ H Q I (w σ H Q q)⟩
theorem _root_.L2.PW.weak {e : Expr} {t t' : TT} (h : PW X e t) (w : ∀ σ H Q, t' σ H Q → t σ H Q) : PW X e t' := ⟨fun wh pins s σ H Q I q => h.run wh pins s σ H Q I (w σ H Q q)⟩
theorem _root_.L2.PA.weak {es : List Expr} {t t' : TA} (h : PA X es t) (w : ∀ σ H Q, t' σ H Q → t σ H Q) : PA X es t' := ⟨fun p pins s σ H Q I q => h.run p pins s σ H Q I (w σ H Q q)⟩
theorem _root_.L2.PS.weak {st : Stmt} {t t' : TS} (h : PS X st t) (w : ∀ D σ H, t' D σ H → t D σ H) : PS X st t' := ⟨fun pins s σ H D I q => h.run pins s σ H D I (w D σ H q)⟩
theorem _root_.L2.PSs.weak {st : List Stmt} {t t' : TS} (h : PSs X st t) (w : ∀ D σ H, t' D σ H → t D σ H) : PSs X st t' := ⟨fun pins s σ H D I q => h.run pins s σ H D I (w D σ H q)⟩
end
abbrev DE (X : Cx) (e : Expr) (t : DTE) : Prop := PE X e (lE X.K t)
abbrev DT (X : Cx) (e : Expr) (t : DTT) : Prop := PT X e (lT X.K t)
abbrev DW (X : Cx) (e : Expr) (t : DTT) : Prop := PW X e (lT X.K t)
abbrev DA (X : Cx) (es : List Expr) (t : DTA) : Prop := PA X es (lA X.K t)
abbrev DS (X : Cx) (st : Stmt) (t : DTS) : Prop := PS X st (lS X.K t)
abbrev DSs (X : Cx) (st : List Stmt) (t : DTS) : Prop := PSs X st (lS X.K t)

section
variable {X : Cx} {K : PySem.W.Frag}
/-! ### names, constants -/
def dVar (i : Nat) : DTE := fun ρ S R => ∃ d, ρ[i]? = some (some d) ∧ R d S
def dC (d : D) : DTE := fun _ S R => R d S
/-- a constant -/
inductive Flat : V → D → Prop
  | non : Flat .non .non
  | bl (b : Bool) : Flat (.bl b) (.bl b)
  | int (i : Int) : Flat (.int i) (.int i)
  | str (x : Str) : Flat (.str x) (.str x)
  | ty (n : String) : Flat (.ty n) (.ty n)
  | ref (a : Addr) : Flat (.ref a) (.ref a)
theorem Flat.rp {H : Hp} {S : Sto} {v : V} {d : D} (h : Flat v d) : Rp K H S v d := by
  cases h
  · exact .non
  · exact .bl _
  · exact .int _
  · exact .str _
  · exact .ty _
  · exact .ref _
theorem de_c {e : Expr} {v : V} {d : D} (h : PE X e (tC v)) (f : Flat v d) : DE X e (dC d) := h.weak fun σ H Q ⟨ρ, S, R, sl, rs, q, n⟩ => n.same q f.rp rs
theorem dv (i : Nat) {x : Str} {pos : Pos} (hN : X.N[i]? = some x := by rfl) (hv : Vis X.env.scope x := by first | exact Or.inl rfl | exact Or.inr (Or.inl rfl) | exact Or.inr (Or.inr rfl)) (hd : (x == ("__debug__" : Str)) = false := by decide)
    (hcd : (x == ("__classdict__" : Str)) = false := by decide) : DE X (.Name x pos) (dVar i) := (pe_var hN hv hd hcd).weak fun σ H Q ⟨ρ, S, R, sl, rs, ⟨d, e, q⟩, n⟩ =>
  let ⟨v, h1, h2⟩ := sl.2 i d e
  ⟨v, h1, n.same q h2 rs⟩
theorem de_int {i : Int} {j pos} : DE X (.Constant (.int i) j pos) (dC (.int i)) := de_c pe_int (.int i)
theorem de_bl {b : Bool} {j pos} : DE X (.Constant (.bool b) j pos) (dC (.bl b)) := de_c pe_bl (.bl b)
theorem de_non {j pos} : DE X (.Constant .none j pos) (dC .non) := de_c pe_non .non
theorem de_str {x : Str} {j pos} : DE X (.Constant (.str x) j pos) (dC (.str x)) := de_c pe_str (.str x)
end
end DL
end
section
set_option maxHeartbeats 4000000
/-! The data layer, part b: views, data as PyData, operators, comparisons, tests. -/
namespace DL
open PySem PySem.Spec L2

/-! ### a value looked at through the store -/
def vw (S : Sto) : D → D
  | .ref a => (S a).getD (.ref a)
  | d => d
section
variable {K : PySem.W.Frag} {H : Hp} {S : Sto} {v : V} {d : D}
/-- a view is the thing itself, or what the cell at its address holds -/
theorem vw_cases (r : Rp K H S v d) (rs : RS K H S) : vw S d = d ∨ ∃ a, v = .ref a ∧ d = .ref a ∧ Cl K H S a (vw S d) := by
  cases d with
  | ref a =>
    cases r
    show (S a).getD (.ref a) = _ ∨ _
    cases e : S a with
    | none => exact .inl rfl
    | some c =>
      refine .inr ⟨a, rfl, rfl, ?_⟩
      show Cl K H S a ((S a).getD (.ref a))
      rw [e]
      exact rs a c e
  | _ => exact .inl rfl
theorem vw_non (r : Rp K H S v d) (rs : RS K H S) (e : vw S d = .non) : v = .non := by
  rcases vw_cases r rs with q | ⟨a, _, _, c⟩
  · rw [← q, e] at r; cases r; rfl
  · rw [e] at c; exact c.elim
theorem vw_bl {b : Bool} (r : Rp K H S v d) (rs : RS K H S) (e : vw S d = .bl b) : v = .bl b := by
  rcases vw_cases r rs with q | ⟨a, _, _, c⟩
  · rw [← q, e] at r; cases r; rfl
  · rw [e] at c; exact c.elim
theorem vw_int {i : Int} (r : Rp K H S v d) (rs : RS K H S) (e : vw S d = .int i) : v = .int i := by
  rcases vw_cases r rs with q | ⟨a, _, _, c⟩
  · rw [← q, e] at r; cases r; rfl
  · rw [e] at c; exact c.elim
theorem vw_str {x : Str} (r : Rp K H S v d) (rs : RS K H S) (e : vw S d = .str x) : v = .str x := by
  rcases vw_cases r rs with q | ⟨a, _, _, c⟩
  · rw [← q, e] at r; cases r; rfl
  · rw [e] at c; exact c.elim
theorem vw_ty {x : String} (r : Rp K H S v d) (rs : RS K H S) (e : vw S d = .ty x) : v = .ty x := by
  rcases vw_cases r rs with q | ⟨a, _, _, c⟩
  · rw [← q, e] at r; cases r; rfl
  · rw [e] at c; exact c.elim
theorem vw_tup {ds : List D} (r : Rp K H S v d) (rs : RS K H S) (e : vw S d = .tup ds) : d = .tup ds ∧ ∃ a vs, v = .ref a ∧ H a = some (.tup vs) ∧ S a = none ∧ RpL K H S vs ds := by
  rcases vw_cases r rs with q | ⟨a, _, _, c⟩
  · rw [e] at q
    subst q
    cases r with
    | tup t s l h => exact ⟨rfl, _, _, rfl, t, s, l, h⟩
  · rw [e] at c; exact c.elim
theorem vw_ktp {ds : List D} (r : Rp K H S v d) (rs : RS K H S) (e : vw S d = .ktp ds) : ∃ a vs, v = .ref a ∧ SqT K H a vs ∧ RpL K H S vs ds := by
  rcases vw_cases r rs with q | ⟨a, _, _, c⟩
  · rw [e] at q
    subst q
    cases r with
    | ktp t l h => exact ⟨_, _, rfl, t.sq, l, h⟩
  · rw [e] at c; exact c.elim
theorem vw_scr {ns : List Int} (r : Rp K H S v d) (rs : RS K H S) (e : vw S d = .scr ns) : ∃ a, v = .ref a ∧ SqL K H a (ns.map V.int) := by
  rcases vw_cases r rs with q | ⟨a, _, _, c⟩
  · rw [e] at q
    subst q
    cases r with
    | scr t => exact ⟨_, rfl, t.sq⟩
  · rw [e] at c; exact c.elim
theorem vw_lst {ds : List D} (r : Rp K H S v d) (rs : RS K H S) (e : vw S d = .lst ds) : ∃ a vs, v = .ref a ∧ H a = some (.lst vs) ∧ RpL K H S vs ds := by
  rcases vw_cases r rs with q | ⟨a, h, _, c⟩
  · rw [e] at q
    subst q
    cases r with
    | lst t s l h => exact ⟨_, _, rfl, t, l, h⟩
  · rw [e] at c
    obtain ⟨vs, q, r⟩ := c
    exact ⟨a, vs, h, q, r⟩
theorem vw_obj {C : Addr} {fs : List (Str × D)} (r : Rp K H S v d) (rs : RS K H S) (e : vw S d = .obj C fs) : ∃ a dx vs, v = .ref a ∧ H a = some (.ins C dx vs) ∧ RpP K H S vs fs := by
  rcases vw_cases r rs with q | ⟨a, h, _, c⟩
  · rw [e] at q
    subst q
    cases r with
    | obj t s l h => exact ⟨_, _, _, rfl, t, l, h⟩
  · rw [e] at c
    obtain ⟨dx, vs, q, r⟩ := c
    exact ⟨a, dx, vs, h, q, r⟩
theorem vw_dK {kvs : List (Key × D)} (r : Rp K H S v d) (rs : RS K H S) (e : vw S d = .dK kvs) : ∃ a vs, v = .ref a ∧ H a = some (.dK vs) ∧ RpP K H S vs kvs := by
  rcases vw_cases r rs with q | ⟨a, h, _, c⟩
  · rw [e] at q
    subst q
    cases r with
    | dK t s l h => exact ⟨_, _, rfl, t, l, h⟩
  · rw [e] at c
    obtain ⟨vs, q, r⟩ := c
    exact ⟨a, vs, h, q, r⟩
theorem vw_dT {kvs : List (List Key × D)} (r : Rp K H S v d) (rs : RS K H S) (e : vw S d = .dT kvs) : ∃ a vs, v = .ref a ∧ H a = some (.dT vs) ∧ RpP K H S vs kvs := by
  rcases vw_cases r rs with q | ⟨a, h, _, c⟩
  · rw [e] at q
    subst q
    cases r with
    | dT t s l h => exact ⟨_, _, rfl, t, l, h⟩
  · rw [e] at c
    obtain ⟨vs, q, r⟩ := c
    exact ⟨a, vs, h, q, r⟩
end

/-! ### data without addresses -/
mutual
def toPy : D → PyData
  | .non => .none
  | .bl b => .bool b
  | .int i => .int i
  | .str x => .str x
  | .tup xs => .tuple (toPyL xs)
  | .lst xs => .list (toPyL xs)
  | .ktp xs => .tuple (toPyL xs)
  | .ty _ => .none
  | .ref _ => .none
  | .scr _ => .none
  | .obj _ _ => .none
  | .dK _ => .none
  | .dT _ => .none
def toPyL : List D → List PyData
  | [] => []
  | x :: xs => toPy x :: toPyL xs
end
theorem toPyL_map : ∀ xs : List D, toPyL xs = xs.map toPy
  | [] => by rw [toPyL]; rfl
  | x :: xs => by rw [toPyL, toPyL_map xs, List.map_cons]
/-- data of at most so many levels -/
def datk : Nat → D → Bool
  | _, .non => true
  | _, .bl _ => true
  | _, .int _ => true
  | _, .str _ => true
  | k + 1, .tup xs => xs.all (datk k)
  | k + 1, .ktp xs => xs.all (datk k)
  | k + 1, .lst xs => xs.all (datk k)
  | _, _ => false
theorem plainAll_iff (xs : List PyData) : PyData.plainAll xs = xs.all PyData.plain := by
  induction xs with
  | nil => rfl
  | cons x xs ih => rw [PyData.plainAll, ih, List.all_cons]
theorem datk_plain : ∀ (k : Nat) (d : D), datk k d = true → (toPy d).plain = true := by
  intro k
  induction k with
  | zero =>
    intro d h
    cases d <;> first | rfl | (simp [datk] at h)
  | succ k ih =>
    intro d h
    have go : ∀ xs : List D, xs.all (datk k) = true → PyData.plainAll (toPyL xs) = true := fun xs h => by
      rw [plainAll_iff, toPyL_map, List.all_map]
      rw [List.all_eq_true] at h ⊢
      exact fun x hx => ih x (h x hx)
    cases d with
    | tup xs => simp only [toPy, PyData.plain]; exact go xs (by simpa only [datk] using h)
    | lst xs => simp only [toPy, PyData.plain]; exact go xs (by simpa only [datk] using h)
    | ktp xs => simp only [toPy, PyData.plain]; exact go xs (by simpa only [datk] using h)
    | _ => first | rfl | (simp [datk] at h)
theorem depthAll_le {n : Nat} : ∀ xs : List PyData, (∀ x ∈ xs, x.depth ≤ n) → PyData.depthAll xs ≤ n
  | [], _ => by simp [PyData.depthAll]
  | x :: xs, h => by
    rw [PyData.depthAll]
    exact Nat.max_le.mpr ⟨h x List.mem_cons_self, depthAll_le xs fun y hy => h y (List.mem_cons_of_mem _ hy)⟩
theorem datk_depth : ∀ (k : Nat) (d : D), datk k d = true → (toPy d).depth ≤ k := by
  intro k
  induction k with
  | zero =>
    intro d h
    cases d <;> first | (simp [toPy, PyData.depth]; done) | (simp [datk] at h)
  | succ k ih =>
    intro d h
    have go : ∀ xs : List D, xs.all (datk k) = true → PyData.depthAll (toPyL xs) ≤ k := fun xs h => by
      rw [toPyL_map]
      refine depthAll_le _ fun x hx => ?_
      obtain ⟨y, hy, rfl⟩ := List.mem_map.mp hx
      exact ih y (List.all_eq_true.mp h y hy)
    cases d with
    | tup xs => have := go xs (by simpa only [datk] using h); simp only [toPy, PyData.depth]; omega
    | lst xs => have := go xs (by simpa only [datk] using h); simp only [toPy, PyData.depth]; omega
    | ktp xs => have := go xs (by simpa only [datk] using h); simp only [toPy, PyData.depth]; omega
    | _ => first | (simp [toPy, PyData.depth]; done) | (simp [datk] at h)
theorem dpAll_of {K : PySem.W.Frag} {H : Hp} : ∀ {vs : List V} {ds : List PyData}, vs.length = ds.length → (∀ (i : Nat) v d, vs[i]? = some v → ds[i]? = some d → Dp K H v d) → DpAll K H vs ds
  | [], [], _, _ => .nil
  | v :: vs, d :: ds, l, h => .cons (h 0 v d (by simp) (by simp)) (dpAll_of (by simpa using l) fun i w e h1 h2 => h (i + 1) w e (by simpa using h1) (by simpa using h2))
  | [], _ :: _, l, _ => by simp at l
  | _ :: _, [], l, _ => by simp at l
theorem dpL_of {K : PySem.W.Frag} {H : Hp} {S : Sto} {vs : List V} {ds : List D} {k : Nat} (r : RpL K H S vs ds) (h : ds.all (datk k) = true) (ih : ∀ v d, Rp K H S v d → datk k d = true → Dp K H v (toPy d)) : DpAll K H vs (toPyL ds) := by
  rw [toPyL_map]
  refine dpAll_of (by rw [List.length_map]; exact r.1) fun i v p h1 h2 => ?_
  rw [List.getElem?_map] at h2
  cases e : ds[i]? with
  | none => rw [e] at h2; cases h2
  | some d =>
    rw [e] at h2
    cases h2
    exact ih v d (r.2 i v d h1 e) (List.all_eq_true.mp h d (List.mem_of_getElem? e))
theorem dp_of {K : PySem.W.Frag} {H : Hp} {S : Sto} : ∀ (k : Nat) (v : V) (d : D), Rp K H S v d → datk k d = true → Dp K H v (toPy d) := by
  intro k
  induction k with
  | zero =>
    intro v d r h
    cases r <;> first | (simp [datk] at h; done) | skip
    · simp only [toPy]; exact .non
    · simp only [toPy]; exact .bl _
    · simp only [toPy]; exact .int _
    · simp only [toPy]; exact .str _
  | succ k ih =>
    intro v d r h
    cases r with
    | non => simp only [toPy]; exact .non
    | bl b => simp only [toPy]; exact .bl _
    | int b => simp only [toPy]; exact .int _
    | str b => simp only [toPy]; exact .str _
    | tup t s l hh => simp only [toPy]; exact .tup (SqT.of t) (dpL_of ⟨l, hh⟩ (by simpa only [datk] using h) ih)
    | ktp t l hh => simp only [toPy]; exact .tup t.sq (dpL_of ⟨l, hh⟩ (by simpa only [datk] using h) ih)
    | lst t s l hh => simp only [toPy]; exact .lst (SqL.of t) (dpL_of ⟨l, hh⟩ (by simpa only [datk] using h) ih)
    | _ => simp [datk] at h
theorem dp_vw {K : PySem.W.Frag} {H : Hp} {S : Sto} {v : V} {d : D} (r : Rp K H S v d) (rs : RS K H S) {k : Nat} (h : datk k (vw S d) = true) : Dp K H v (toPy (vw S d)) := by
  rcases vw_cases r rs with q | ⟨a, e1, e2, c⟩
  · rw [q] at h ⊢
    exact dp_of k v d r h
  · cases e : vw S d with
    | lst ds =>
      rw [e] at c h
      obtain ⟨vs, q, rl⟩ := c
      subst e1
      cases k with
      | zero => simp [datk] at h
      | succ k =>
        simp only [toPy]
        exact .lst (SqL.of q) (dpL_of rl (by simpa only [datk] using h) (dp_of k))
    | obj _ _ => rw [e] at h; cases k <;> simp [datk] at h
    | dK _ => rw [e] at h; cases k <;> simp [datk] at h
    | dT _ => rw [e] at h; cases k <;> simp [datk] at h
    | _ => rw [e] at c; exact c.elim

/-! ### operators by data -/
abbrev DOp := D → D → Sto → DK → Prop
def lO (K : PySem.W.Frag) (r : DOp) : R2 := fun x y H Q => ∃ d e S R, Rp K H S x d ∧ Rp K H S y e ∧ RS K H S ∧ r d e S R ∧ Nxt K H S R Q
def dBin (r : DOp) (ta tb : DTE) : DTE := fun ρ S R => ta ρ S fun d S1 => tb ρ S1 fun e S2 => r d e S2 R
section
variable {X : Cx} {a b c : Expr} {ta tb tc : DTE} {pos : Pos} {r r' : DOp}
/-- two parts, one behind the other -/
theorem lE_bin {σ : St} {H : Hp} {Q : VK} (h : lE X.K (dBin r ta tb) σ H Q) : tOp (lO X.K r) (lE X.K ta) (lE X.K tb) σ H Q := by
  obtain ⟨ρ, S, R, sl, rs, h, n⟩ := h
  exact ⟨ρ, S, _, sl, rs, h, fun d S1 h1 v H1 rv rs1 f1 => ⟨ρ, S1, _, sl.fr f1, rs1, h1, fun e S2 h2 u H2 ru rs2 f2 => ⟨d, e, S2, R, rv.fr f2, ru, rs2, h2, n.from (f1.trans f2)⟩⟩⟩
theorem de_op {op : Operator} (ho : OpR X (binaryOp op) (lO X.K r)) (ha : DE X a ta) (hb : DE X b tb) : DE X (.BinOp a op b pos) (dBin r ta tb) := (pe_op ho ha hb).weak fun _ _ _ => lE_bin
theorem de_cmp {op : CmpOp} (ho : OpR X (compareOp op) (lO X.K r)) (ha : DE X a ta) (hb : DE X b tb) (hm : behindInMarks op b = false) : DE X (.Compare a [op] [b] pos) (dBin r ta tb) := (pe_cmpR ho ha hb hm).weak fun _ _ _ => lE_bin
/-- a value that is True or False, as a test -/
def dTest (t : DTE) : DTT := fun ρ S R => t ρ S fun d S1 => ∃ k, d = .bl k ∧ R k S1
theorem dt_cmp {op : CmpOp} (ho : OpR X (compareOp op) (lO X.K r)) (ha : DE X a ta) (hb : DE X b tb) (hm : behindInMarks op b = false) : DT X (.Compare a [op] [b] pos) (dTest (dBin r ta tb)) := (pt_cmpR ho ha hb hm).weak fun σ H Q h => by
  obtain ⟨ρ, S, R, sl, rs, h, n⟩ := h
  refine lE_bin (r := r) ⟨ρ, S, _, sl, rs, h, fun d S' h' v H' rv rs' f => ?_⟩
  obtain ⟨k, rfl, h'⟩ := h'
  cases rv
  exact ⟨k, rfl, n k S' h' H' rs' f⟩
theorem dt_val {e : Expr} {t : DTE} (h : DE X e t) (he : ∀ whole, isTrue e X.env whole = (do let v ← whole; standAt e.pos; holding [v] (truthy v)) := by intro _; rfl) : DT X e (dTest t) := (pt_val h he).weak fun σ H Q h => by
  obtain ⟨ρ, S, R, sl, rs, h, n⟩ := h
  refine ⟨ρ, S, _, sl, rs, h, fun d S' h' v H' rv rs' f => ?_⟩
  obtain ⟨k, rfl, h'⟩ := h'
  cases rv
  exact ⟨k, rfl, n k S' h' H' rs' f⟩
/-- two comparisons in a row -/
def dChain (r r' : DOp) (ta tb tc : DTE) : DTE := fun ρ S R => ta ρ S fun d S1 => tb ρ S1 fun e S2 => r d e S2 fun z S3 => ∃ k, z = .bl k ∧ if k = true then tc ρ S3 fun g S4 => r' e g S4 R else R (.bl false) S3
/-! ### tests -/
def dAnd (t u : DTT) : DTT := fun ρ S R => t ρ S fun c S1 => if c = true then u ρ S1 R else R false S1
def dOr (t u : DTT) : DTT := fun ρ S R => t ρ S fun c S1 => if c = true then R true S1 else u ρ S1 R
def dNot (t : DTT) : DTT := fun ρ S R => t ρ S fun c S1 => R (!c) S1
variable {tA tB : DTT} {rest : List Expr}
theorem dw_and1 (ha : DT X a tA) : DW X (.BoolOp .And [a] pos) tA := pw_and1 ha
theorem dw_or1 (ha : DT X a tA) : DW X (.BoolOp .Or [a] pos) tA := pw_or1 ha
theorem dw_and (ha : DT X a tA) (hb : DW X (.BoolOp .And (b :: rest) pos) tB) : DW X (.BoolOp .And (a :: b :: rest) pos) (dAnd tA tB) := (pw_and ha hb).weak fun σ H Q ⟨ρ, S, R, sl, rs, h, n⟩ =>
  ⟨ρ, S, _, sl, rs, h, fun k S1 h1 H1 rs1 f1 => by
    cases k with
    | true => exact ⟨ρ, S1, R, sl.fr f1, rs1, h1, fun b S' hb H' rs' f => n b S' hb H' rs' (f1.trans f)⟩
    | false => exact n false S1 h1 H1 rs1 f1⟩
theorem dw_or (ha : DT X a tA) (hb : DW X (.BoolOp .Or (b :: rest) pos) tB) : DW X (.BoolOp .Or (a :: b :: rest) pos) (dOr tA tB) := (pw_or ha hb).weak fun σ H Q ⟨ρ, S, R, sl, rs, h, n⟩ =>
  ⟨ρ, S, _, sl, rs, h, fun k S1 h1 H1 rs1 f1 => by
    cases k with
    | false => exact ⟨ρ, S1, R, sl.fr f1, rs1, h1, fun b S' hb H' rs' f => n b S' hb H' rs' (f1.trans f)⟩
    | true => exact n true S1 h1 H1 rs1 f1⟩
theorem dt_w {e : Expr} (h : DW X e tA) : DT X e tA := PW.pt h
theorem dt_not (ha : DT X a tA) : DT X (.UnaryOp .Not a pos) (dNot tA) := (pt_not ha).weak fun σ H Q ⟨ρ, S, R, sl, rs, h, n⟩ => ⟨ρ, S, _, sl, rs, h, fun k S1 h1 H1 rs1 f1 => n _ S1 h1 H1 rs1 f1⟩
/-- .. as values -/
def dAndV (ta tb : DTE) : DTE := fun ρ S R => ta ρ S fun d S1 => ∃ c, d = .bl c ∧ if c = true then tb ρ S1 R else R (.bl false) S1
def dOrV (ta tb : DTE) : DTE := fun ρ S R => ta ρ S fun d S1 => ∃ c, d = .bl c ∧ if c = true then R (.bl true) S1 else tb ρ S1 R
def dNotV (ta : DTE) : DTE := fun ρ S R => ta ρ S fun d S1 => ∃ c, d = .bl c ∧ R (.bl (!c)) S1
theorem de_one {op} {t : DTE} (h : DE X a t) : DE X (.BoolOp op [a] pos) t := pe_one h
theorem de_and (ha : DE X a ta) (hb : DE X (.BoolOp .And (b :: rest) pos) tb) : DE X (.BoolOp .And (a :: b :: rest) pos) (dAndV ta tb) := (pe_and ha hb).weak fun σ H Q ⟨ρ, S, R, sl, rs, h, n⟩ =>
  ⟨ρ, S, _, sl, rs, h, fun d S1 h1 v H1 rv rs1 f1 => by
    obtain ⟨k, rfl, h1⟩ := h1
    cases rv
    refine ⟨k, rfl, ?_⟩
    cases k with
    | true => exact ⟨ρ, S1, R, sl.fr f1, rs1, h1, n.from f1⟩
    | false => exact n _ S1 h1 _ H1 (.bl false) rs1 f1⟩
theorem de_or (ha : DE X a ta) (hb : DE X (.BoolOp .Or (b :: rest) pos) tb) : DE X (.BoolOp .Or (a :: b :: rest) pos) (dOrV ta tb) := (pe_or ha hb).weak fun σ H Q ⟨ρ, S, R, sl, rs, h, n⟩ =>
  ⟨ρ, S, _, sl, rs, h, fun d S1 h1 v H1 rv rs1 f1 => by
    obtain ⟨k, rfl, h1⟩ := h1
    cases rv
    refine ⟨k, rfl, ?_⟩
    cases k with
    | false => exact ⟨ρ, S1, R, sl.fr f1, rs1, h1, n.from f1⟩
    | true => exact n _ S1 h1 _ H1 (.bl true) rs1 f1⟩
theorem de_not (ha : DE X a ta) : DE X (.UnaryOp .Not a pos) (dNotV ta) := (pe_not ha).weak fun σ H Q ⟨ρ, S, R, sl, rs, h, n⟩ =>
  ⟨ρ, S, _, sl, rs, h, fun d S1 h1 v H1 rv rs1 f1 => by
    obtain ⟨k, rfl, h1⟩ := h1
    cases rv
    exact ⟨k, rfl, n _ S1 h1 _ H1 (.bl _) rs1 f1⟩⟩
/-- a if t else b -/
def dIfE (t : DTT) (ta tb : DTE) : DTE := fun ρ S R => t ρ S fun c S1 => if c = true then ta ρ S1 R else tb ρ S1 R
theorem de_if (hc : DT X c tA) (ha : DE X a ta) (hb : DE X b tb) : DE X (.IfExp c a b pos) (dIfE tA ta tb) := (pe_ifExp hc ha hb).weak fun σ H Q ⟨ρ, S, R, sl, rs, h, n⟩ =>
  ⟨ρ, S, _, sl, rs, h, fun k S1 h1 H1 rs1 f1 => by
    cases k with
    | true => exact ⟨ρ, S1, R, sl.fr f1, rs1, h1, n.from f1⟩
    | false => exact ⟨ρ, S1, R, sl.fr f1, rs1, h1, n.from f1⟩⟩
/-- any value by its truth -/
def truD : D → Option Bool
  | .non => some false
  | .bl b => some b
  | .int i => some (i != 0)
  | .str x => if x.length ≤ sizeLine then some ((x.length : Int) != 0) else none
  | .lst xs => some !xs.isEmpty
  | .tup xs => some !xs.isEmpty
  | .ktp xs => some !xs.isEmpty
  | .scr xs => some !xs.isEmpty
  | .dK kvs => some !kvs.isEmpty
  | _ => none
def dTru (t : DTE) : DTT := fun ρ S R => t ρ S fun d S1 => ∃ k, truD (vw S1 d) = some k ∧ R k S1
theorem isEmpty_len {α β : Type} {xs : List α} {ys : List β} (h : xs.length = ys.length) : xs.isEmpty = ys.isEmpty := by
  cases xs <;> cases ys <;> simp_all
theorem tru_vw {K : PySem.W.Frag} {H : Hp} {S : Sto} {v : V} {d : D} {k : Bool} (r : Rp K H S v d) (rs : RS K H S) (h : truD (vw S d) = some k) : TruV K v H k := by
  cases e : vw S d with
  | non => rw [e] at h; cases vw_non r rs e; exact (Option.some.inj h).symm
  | bl b => rw [e] at h; cases vw_bl r rs e; exact (Option.some.inj h).symm
  | int i => rw [e] at h; cases vw_int r rs e; exact (Option.some.inj h).symm
  | str x =>
    rw [e] at h
    cases vw_str r rs e
    simp only [truD] at h
    split at h
    · rename_i hz
      exact ⟨hz, (Option.some.inj h).symm⟩
    · cases h
  | lst xs =>
    rw [e] at h
    obtain ⟨a, vs, rfl, q, l⟩ := vw_lst r rs e
    exact .inl ⟨vs, SqL.of q, by rw [isEmpty_len l.1]; exact (Option.some.inj h).symm⟩
  | tup xs =>
    rw [e] at h
    obtain ⟨_, a, vs, rfl, q, _, l⟩ := vw_tup r rs e
    exact .inr (.inl ⟨vs, SqT.of q, by rw [isEmpty_len l.1]; exact (Option.some.inj h).symm⟩)
  | ktp xs =>
    rw [e] at h
    obtain ⟨a, vs, rfl, q, l⟩ := vw_ktp r rs e
    exact .inr (.inl ⟨vs, q, by rw [isEmpty_len l.1]; exact (Option.some.inj h).symm⟩)
  | scr xs =>
    rw [e] at h
    obtain ⟨a, rfl, q⟩ := vw_scr r rs e
    exact .inl ⟨_, q, by rw [← Option.some.inj h]; cases xs <;> rfl⟩
  | dK kvs =>
    rw [e] at h
    obtain ⟨a, vs, rfl, q, l⟩ := vw_dK r rs e
    exact .inr (.inr ⟨vs, q, by rw [isEmpty_len (by simpa using congrArg List.length l.1)]; exact (Option.some.inj h).symm⟩)
  | _ => rw [e] at h; cases h
theorem dt_tru {e : Expr} {t : DTE} (h : DE X e t) (he : ∀ whole, isTrue e X.env whole = (do let v ← whole; standAt e.pos; holding [v] (truthy v)) := by intro _; rfl) : DT X e (dTru t) := (pt_truth h he).weak fun σ H Q h => by
  obtain ⟨ρ, S, R, sl, rs, h, n⟩ := h
  refine ⟨ρ, S, _, sl, rs, h, fun d S' h' v H' rv rs' f => ?_⟩
  obtain ⟨k, hk, h'⟩ := h'
  exact ⟨k, tru_vw rv rs' hk, n k S' h' H' rs' f⟩
end
end DL
end
section
set_option maxHeartbeats 4000000
/-! The data layer, part c: the operators and comparisons one by one, subscripts, slices. -/
namespace DL
open PySem PySem.Spec L2
section
variable {K : PySem.W.Frag} {H : Hp} {S : Sto}
theorem rp_tup {p : Addr} {vs : List V} {ds : List D} (h : H p = none) (rs : RS K H S) (r : RpL K H S vs ds) : Rp K (upd H p (.tup vs)) S (.ref p) (.tup ds) :=
  have q := r.fr (Fr.new (o := .tup vs) h)
  .tup upd_same (rs.free h) q.1 q.2
theorem rp_lst {p : Addr} {vs : List V} {ds : List D} (h : H p = none) (rs : RS K H S) (r : RpL K H S vs ds) : Rp K (upd H p (.lst vs)) S (.ref p) (.lst ds) :=
  have q := r.fr (Fr.new (o := .lst vs) h)
  .lst upd_same (rs.free h) q.1 q.2
theorem RpL.len {vs : List V} {ds : List D} (r : RpL K H S vs ds) : vs.length = ds.length := r.1
theorem RpL.nil_iff {vs : List V} {ds : List D} (r : RpL K H S vs ds) : vs = [] ↔ ds = [] := by
  have := r.1
  refine ⟨fun h => List.eq_nil_of_length_eq_zero ?_, fun h => List.eq_nil_of_length_eq_zero ?_⟩
  · rw [← this, h]; rfl
  · rw [this, h]; rfl
end
section
variable {X : Cx}
/-- a + b -/
def dAdd : DOp := fun d e S R => match vw S d, vw S e with
  | .int i, .int j => R (.int (i + j)) S
  | .str x, .str y => x.length + y.length ≤ sizeLine ∧ R (.str (x ++ y)) S
  | .tup xs, .tup ys => xs.length + ys.length ≤ sizeLine ∧ R (.tup (xs ++ ys)) S
  | .lst xs, .lst ys => xs.length + ys.length ≤ sizeLine ∧ R (.lst (xs ++ ys)) S
  | _, _ => False
theorem od_add : OpR X (binaryOp .Add) (lO X.K dAdd) := by
  intro pins s σ H x y v u Q I rx ry h
  obtain ⟨d, e, S, R, rd, re, rs, h, n⟩ := h
  unfold dAdd at h
  split at h
  · rename_i i j e1 e2
    cases vw_int rd rs e1
    cases vw_int re rs e2
    exact op_add pins s σ H _ _ v u Q I rx ry ⟨_, _, rfl, rfl, n.same h (.int _) rs⟩
  · rename_i i j e1 e2
    cases vw_str rd rs e1
    cases vw_str re rs e2
    exact op_add_str pins s σ H _ _ v u Q I rx ry ⟨_, _, rfl, rfl, h.1, n.same h.2 (.str _) rs⟩
  · rename_i xs ys e1 e2
    obtain ⟨rfl, a, vs, rfl, ha, sa, la⟩ := vw_tup rd rs e1
    obtain ⟨rfl, b, ws, rfl, hb, sb, lb⟩ := vw_tup re rs e2
    refine op_catA pins s σ H _ _ v u Q I rx ry ⟨a, b, vs, ws, rfl, rfl, SqT.of ha, SqT.of hb, by rw [la.len, lb.len]; exact h.1, fun z => ?_, fun _ z => ?_, fun _ _ p hp => ?_⟩
    · refine n.same h.2 ?_ rs
      rw [la.nil_iff.mp z]
      exact re
    · refine n.same h.2 ?_ rs
      rw [lb.nil_iff.mp z, List.append_nil]
      exact rd
    · exact n.new h.2 hp rs (rp_tup hp rs (la.append lb))
  · rename_i xs ys e1 e2
    obtain ⟨a, vs, rfl, ha, la⟩ := vw_lst rd rs e1
    obtain ⟨b, ws, rfl, hb, lb⟩ := vw_lst re rs e2
    exact op_cat pins s σ H _ _ v u Q I rx ry ⟨a, b, vs, ws, rfl, rfl, ha, hb, by rw [la.len, lb.len]; exact h.1, fun p hp => n.new h.2 hp rs (rp_lst hp rs (la.append lb))⟩
  · exact h.elim
/-- a - b -/
def dSub : DOp := fun d e S R => match vw S d, vw S e with
  | .int i, .int j => R (.int (i - j)) S
  | _, _ => False
theorem od_sub : OpR X (binaryOp .Sub) (lO X.K dSub) := by
  intro pins s σ H x y v u Q I rx ry h
  obtain ⟨d, e, S, R, rd, re, rs, h, n⟩ := h
  unfold dSub at h
  split at h
  · rename_i i j e1 e2
    cases vw_int rd rs e1
    cases vw_int re rs e2
    exact op_sub pins s σ H _ _ v u Q I rx ry ⟨_, _, rfl, rfl, n.same h (.int _) rs⟩
  · exact h.elim
/-- a * b -/
def dMul : DOp := fun d e S R => match vw S d, vw S e with
  | .int i, .int j => (CMul i j ∨ CMulW i j) ∧ R (.int (i * j)) S
  | .lst xs, .int k => (-(2 ^ 63) ≤ k ∧ k < 2 ^ 63 ∧ xs.length * k.toNat ≤ sizeLine) ∧ R (.lst (List.replicate k.toNat xs).flatten) S
  | _, _ => False
theorem RpL.rep {K : PySem.W.Frag} {H : Hp} {S : Sto} {vs : List V} {ds : List D} (h : RpL K H S vs ds) : ∀ k : Nat, RpL K H S (List.replicate k vs).flatten (List.replicate k ds).flatten
  | 0 => .nil
  | k + 1 => by
    rw [List.replicate_succ, List.replicate_succ, List.flatten_cons, List.flatten_cons]
    exact h.append (RpL.rep h k)
theorem od_mul : OpR X (binaryOp .Mult) (lO X.K dMul) := by
  intro pins s σ H x y v u Q I rx ry h
  obtain ⟨d, e, S, R, rd, re, rs, h, n⟩ := h
  unfold dMul at h
  split at h
  · rename_i i j e1 e2
    cases vw_int rd rs e1
    cases vw_int re rs e2
    rcases h.1 with c | c
    · exact op_mul pins s σ H _ _ v u Q I rx ry ⟨_, _, rfl, rfl, c, n.same h.2 (.int _) rs⟩
    · exact op_mulW pins s σ H _ _ v u Q I rx ry ⟨_, _, rfl, rfl, c, n.same h.2 (.int _) rs⟩
  · rename_i xs k e1 e2
    obtain ⟨a, vs, rfl, ha, la⟩ := vw_lst rd rs e1
    cases vw_int re rs e2
    exact op_rep pins s σ H _ _ v u Q I rx ry ⟨a, k, vs, rfl, rfl, ha, h.1.1, h.1.2.1, by rw [la.len]; exact h.1.2.2, fun p hp => n.new h.2 hp rs (rp_lst hp rs (la.rep _))⟩
  · exact h.elim
/-- a // b, a % b -/
def dFdiv : DOp := fun d e S R => match vw S d, vw S e with
  | .int i, .int j => CDivW i j ∧ R (.int (i / j)) S
  | _, _ => False
theorem od_fdiv : OpR X (binaryOp .FloorDiv) (lO X.K dFdiv) := by
  intro pins s σ H x y v u Q I rx ry h
  obtain ⟨d, e, S, R, rd, re, rs, h, n⟩ := h
  unfold dFdiv at h
  split at h
  · rename_i i j e1 e2
    cases vw_int rd rs e1
    cases vw_int re rs e2
    exact op_fdivW pins s σ H _ _ v u Q I rx ry ⟨_, _, rfl, rfl, h.1, n.same h.2 (.int _) rs⟩
  · exact h.elim
def dMod : DOp := fun d e S R => match vw S d, vw S e with
  | .int i, .int j => 0 < j ∧ R (.int (i % j)) S
  | _, _ => False
theorem od_mod : OpR X (binaryOp .Mod) (lO X.K dMod) := by
  intro pins s σ H x y v u Q I rx ry h
  obtain ⟨d, e, S, R, rd, re, rs, h, n⟩ := h
  unfold dMod at h
  split at h
  · rename_i i j e1 e2
    cases vw_int rd rs e1
    cases vw_int re rs e2
    exact op_mod pins s σ H _ _ v u Q I rx ry ⟨_, _, rfl, rfl, h.1, n.same h.2 (.int _) rs⟩
  · exact h.elim
/-- a ** b -/
def dPow : DOp := fun d e S R => match vw S d, vw S e with
  | .int i, .int j => (0 ≤ j ∧ (Builtin.Int.intBits i : Int) * j ≤ 2 ^ 27) ∧ R (.int (i ^ j.toNat)) S
  | _, _ => False
theorem op_powW : OpR X (binaryOp .Pow) (rI (fun i j => 0 ≤ j ∧ (Builtin.Int.intBits i : Int) * j ≤ 2 ^ 27) fun i j => .int (i ^ j.toNat)) :=
  opI fun _ _ _ _ _ _ _ hc q => PyProof.Rows.pow_int hc.1 hc.2 q
theorem od_pow : OpR X (binaryOp .Pow) (lO X.K dPow) := by
  intro pins s σ H x y v u Q I rx ry h
  obtain ⟨d, e, S, R, rd, re, rs, h, n⟩ := h
  unfold dPow at h
  split at h
  · rename_i i j e1 e2
    cases vw_int rd rs e1
    cases vw_int re rs e2
    exact op_powW pins s σ H _ _ v u Q I rx ry ⟨_, _, rfl, rfl, h.1, n.same h.2 (.int _) rs⟩
  · exact h.elim
/-! ### comparisons of data -/
def isDat (d : D) : Bool := datk 8 d
def dEq : DOp := fun d e S R => (isDat (vw S d) = true ∧ isDat (vw S e) = true) ∧ R (.bl (PyData.eqv (toPy (vw S d)) (toPy (vw S e)))) S
def dNe : DOp := fun d e S R => (isDat (vw S d) = true ∧ isDat (vw S e) = true) ∧ R (.bl (!PyData.eqv (toPy (vw S d)) (toPy (vw S e)))) S
theorem isDat_plain {d : D} (h : isDat d = true) : (toPy d).plain = true := datk_plain 8 d h
theorem isDat_depth {d : D} (h : isDat d = true) : (toPy d).depth ≤ 8 := datk_depth 8 d h
theorem isDat_room {d e : D} {u : Nat} (h : isDat d = true) (hu : u + 64 < cLine) : u + min (toPy d).depth (toPy e).depth < cLine := by
  have h1 := isDat_depth h
  have h2 := Nat.min_le_left (toPy d).depth (toPy e).depth
  omega
theorem od_eq (hu : X.A.units + 64 < cLine) : OpR X (compareOp .Eq) (lO X.K dEq) := by
  intro pins s σ H x y v u Q I rx ry h
  obtain ⟨d, e, S, R, rd, re, rs, ⟨⟨h1, h2⟩, h⟩, n⟩ := h
  obtain ⟨as, r1⟩ := Dp.reads I _ x v (dp_vw rd rs h1) rx
  obtain ⟨bs, r2⟩ := Dp.reads I _ y u (dp_vw re rs h2) ry
  exact PySem.SeqAt.eq_plain r1 r2 (isDat_plain h1) (isDat_plain h2) (isDat_room h1 hu) ⟨.bl _, H, I, rfl, n.same h (.bl _) rs⟩
theorem od_ne (hu : X.A.units + 64 < cLine) : OpR X (compareOp .NotEq) (lO X.K dNe) := by
  intro pins s σ H x y v u Q I rx ry h
  obtain ⟨d, e, S, R, rd, re, rs, ⟨⟨h1, h2⟩, h⟩, n⟩ := h
  obtain ⟨as, r1⟩ := Dp.reads I _ x v (dp_vw rd rs h1) rx
  obtain ⟨bs, r2⟩ := Dp.reads I _ y u (dp_vw re rs h2) ry
  exact PySem.SeqAt.ne_plain r1 r2 (isDat_plain h1) (isDat_plain h2) (isDat_room h1 hu) ⟨.bl _, H, I, rfl, n.same h (.bl _) rs⟩
/-- data of one kind, none of them None -/
def ordD (d e : D) : Bool := isDat d && isDat e && PySem.W.alike (toPy d) (toPy e) && (match toPy d with | .none => false | _ => true)
theorem ordD_iff {d e : D} (h : ordD d e = true) : isDat d = true ∧ isDat e = true ∧ PySem.W.alike (toPy d) (toPy e) = true ∧ toPy d ≠ .none := by
  unfold ordD at h
  simp only [Bool.and_eq_true] at h
  obtain ⟨⟨⟨h1, h2⟩, h3⟩, h4⟩ := h
  refine ⟨h1, h2, h3, fun e => ?_⟩
  rw [e] at h4
  cases h4
def dLt : DOp := fun d e S R => ordD (vw S d) (vw S e) = true ∧ R (.bl (PySem.W.dataLt (toPy (vw S d)) (toPy (vw S e)))) S
def dGt : DOp := fun d e S R => ordD (vw S d) (vw S e) = true ∧ R (.bl (PySem.W.dataLt (toPy (vw S e)) (toPy (vw S d)))) S
def dLe : DOp := fun d e S R => ordD (vw S d) (vw S e) = true ∧ R (.bl (!PySem.W.dataLt (toPy (vw S e)) (toPy (vw S d)))) S
def dGe : DOp := fun d e S R => ordD (vw S d) (vw S e) = true ∧ R (.bl (!PySem.W.dataLt (toPy (vw S d)) (toPy (vw S e)))) S
theorem od_lt (hu : X.A.units + 64 < cLine) : OpR X (compareOp .Lt) (lO X.K dLt) := by
  intro pins s σ H x y v u Q I rx ry h
  obtain ⟨d, e, S, R, rd, re, rs, ⟨hc, h⟩, n⟩ := h
  obtain ⟨h1, h2, h3, h4⟩ := ordD_iff hc
  obtain ⟨as, r1⟩ := Dp.reads I _ x v (dp_vw rd rs h1) rx
  obtain ⟨bs, r2⟩ := Dp.reads I _ y u (dp_vw re rs h2) ry
  exact PySem.W.lt_data r1 r2 h3 h4 (isDat_room h1 hu) ⟨.bl _, H, I, rfl, n.same h (.bl _) rs⟩
theorem od_gt (hu : X.A.units + 64 < cLine) : OpR X (compareOp .Gt) (lO X.K dGt) := by
  intro pins s σ H x y v u Q I rx ry h
  obtain ⟨d, e, S, R, rd, re, rs, ⟨hc, h⟩, n⟩ := h
  obtain ⟨h1, h2, h3, h4⟩ := ordD_iff hc
  obtain ⟨as, r1⟩ := Dp.reads I _ x v (dp_vw rd rs h1) rx
  obtain ⟨bs, r2⟩ := Dp.reads I _ y u (dp_vw re rs h2) ry
  exact PySem.W.gt_data r1 r2 h3 h4 (isDat_room h1 hu) ⟨.bl _, H, I, rfl, n.same h (.bl _) rs⟩
theorem od_le (hu : X.A.units + 64 < cLine) : OpR X (compareOp .LtE) (lO X.K dLe) := by
  intro pins s σ H x y v u Q I rx ry h
  obtain ⟨d, e, S, R, rd, re, rs, ⟨hc, h⟩, n⟩ := h
  obtain ⟨h1, h2, h3, h4⟩ := ordD_iff hc
  obtain ⟨as, r1⟩ := Dp.reads I _ x v (dp_vw rd rs h1) rx
  obtain ⟨bs, r2⟩ := Dp.reads I _ y u (dp_vw re rs h2) ry
  exact PySem.W.le_data r1 r2 h3 h4 (isDat_room h1 hu) ⟨.bl _, H, I, rfl, n.same h (.bl _) rs⟩
theorem od_ge (hu : X.A.units + 64 < cLine) : OpR X (compareOp .GtE) (lO X.K dGe) := by
  intro pins s σ H x y v u Q I rx ry h
  obtain ⟨d, e, S, R, rd, re, rs, ⟨hc, h⟩, n⟩ := h
  obtain ⟨h1, h2, h3, h4⟩ := ordD_iff hc
  obtain ⟨as, r1⟩ := Dp.reads I _ x v (dp_vw rd rs h1) rx
  obtain ⟨bs, r2⟩ := Dp.reads I _ y u (dp_vw re rs h2) ry
  exact PySem.W.ge_data r1 r2 h3 h4 (isDat_room h1 hu) ⟨.bl _, H, I, rfl, n.same h (.bl _) rs⟩
/-! ### is None -/
def isNonD : D → Bool
  | .non => true
  | _ => false
theorem isNon_rp {K : PySem.W.Frag} {H : Hp} {S : Sto} {v : V} {d : D} (r : Rp K H S v d) : decide (v = .non) = isNonD d := by cases r <;> rfl
def dIsN : DOp := fun d e S R => e = .non ∧ R (.bl (isNonD d)) S
def dNotN : DOp := fun d e S R => e = .non ∧ R (.bl (!isNonD d)) S
theorem od_isN : OpR X (compareOp .Is) (lO X.K dIsN) := by
  intro pins s σ H x y v u Q I rx ry h
  obtain ⟨d, e, S, R, rd, re, rs, ⟨rfl, h⟩, n⟩ := h
  cases re
  exact op_isN pins s σ H _ _ v u Q I rx ry ⟨rfl, n.same h (by rw [isNon_rp rd]; exact .bl _) rs⟩
theorem od_notN : OpR X (compareOp .IsNot) (lO X.K dNotN) := by
  intro pins s σ H x y v u Q I rx ry h
  obtain ⟨d, e, S, R, rd, re, rs, ⟨rfl, h⟩, n⟩ := h
  cases re
  exact op_notN pins s σ H _ _ v u Q I rx ry ⟨rfl, n.same h (by rw [isNon_rp rd]; exact .bl _) rs⟩
/-! ### keys -/
def keyD : D → Option Key
  | .int i => some (.inl i)
  | .str x => some (.inr x)
  | _ => none
def keysD : List D → Option (List Key)
  | [] => some []
  | d :: ds => match keyD d, keysD ds with
    | some k, some ks => some (k :: ks)
    | _, _ => none
theorem keyD_rp {K : PySem.W.Frag} {H : Hp} {S : Sto} {v : V} {d : D} {k : Key} (r : Rp K H S v d) (h : keyD d = some k) : v = kV k := by
  cases r <;> first | (cases h; rfl) | cases h
theorem keysD_rp {K : PySem.W.Frag} {H : Hp} {S : Sto} : ∀ {vs : List V} {ds : List D} {ks : List Key}, RpL K H S vs ds → keysD ds = some ks → vs = ks.map kV
  | vs, [], ks, r, h => by cases h; exact r.inv_nil
  | vs, d :: ds, ks, r, h => by
    obtain ⟨v, t, rfl, r1, r2⟩ := r.inv_cons
    unfold keysD at h
    split at h
    · rename_i k ks' e1 e2
      cases h
      rw [List.map_cons, keyD_rp r1 e1, keysD_rp r2 e2]
    · cases h
end
end DL
end
section
set_option maxHeartbeats 4000000
/-! The data layer, part d: dicts read, in, subscripts, slices, displays. -/
namespace DL
open PySem PySem.Spec L2
/-- what a dict holds -/
def valD {κ : Type} [DecidableEq κ] (kvs : List (κ × D)) (k : κ) : Option D := (kvs.find? fun kv => decide (kv.1 = k)).map (·.2)
def putD {κ : Type} [DecidableEq κ] (kvs : List (κ × D)) (k : κ) (d : D) : List (κ × D) :=
  if (kvs.any fun kv => decide (kv.1 = k)) = true then kvs.map (fun kv => if kv.1 = k then (kv.1, d) else kv) else kvs ++ [(k, d)]
section
variable {κ : Type} [DecidableEq κ] {K : PySem.W.Frag} {H : Hp} {S : Sto}
theorem RpP.inv_nil {vs : List (κ × V)} (h : RpP K H S vs []) : vs = [] := by
  have := h.1
  simpa using this
theorem RpP.inv_cons {vs : List (κ × V)} {k : κ} {d : D} {ds : List (κ × D)} (h : RpP K H S vs ((k, d) :: ds)) : ∃ v r, vs = (k, v) :: r ∧ Rp K H S v d ∧ RpP K H S r ds := by
  cases vs with
  | nil => have := h.1; simp at this
  | cons p r =>
    obtain ⟨k', v⟩ := p
    have h1 := h.1
    simp only [List.map_cons, List.cons.injEq] at h1
    obtain ⟨e, h1⟩ := h1
    have e : k' = k := e
    subst e
    exact ⟨v, r, rfl, h.2 0 (k', v) (k', d) rfl rfl, h1, fun i w e a b => h.2 (i + 1) w e (by simpa using a) (by simpa using b)⟩
theorem RpP.nil : RpP K H S ([] : List (κ × V)) [] := ⟨rfl, fun i v d h _ => by simp at h⟩
theorem RpP.cons {vs : List (κ × V)} {k : κ} {v : V} {d : D} {ds : List (κ × D)} (r : Rp K H S v d) (t : RpP K H S vs ds) : RpP K H S ((k, v) :: vs) ((k, d) :: ds) := by
  refine ⟨by simp [t.1], fun i w e h1 h2 => ?_⟩
  cases i with
  | zero =>
    simp at h1 h2
    subst h1 h2
    exact r
  | succ i => exact t.2 i w e (by simpa using h1) (by simpa using h2)
theorem RpP.len {vs : List (κ × V)} {ds : List (κ × D)} (h : RpP K H S vs ds) : vs.length = ds.length := by simpa using congrArg List.length h.1
theorem RpP.get {vs : List (κ × V)} {ds : List (κ × D)} (k : κ) (h : RpP K H S vs ds) : (valD ds k = none ∧ valV vs k = none) ∨ ∃ v d, valD ds k = some d ∧ valV vs k = some v ∧ Rp K H S v d := by
  induction ds generalizing vs with
  | nil => rw [h.inv_nil]; exact .inl ⟨rfl, rfl⟩
  | cons p ds ih =>
    obtain ⟨k', d⟩ := p
    obtain ⟨v, r, rfl, h1, h2⟩ := h.inv_cons
    by_cases e : k' = k
    · refine .inr ⟨v, d, ?_, valV_pos e, h1⟩
      simp [valD, List.find?_cons, e]
    · have e2 : valD ((k', d) :: ds) k = valD ds k := by simp [valD, List.find?_cons, e]
      rw [e2, valV_neg e]
      exact ih h2
theorem RpP.any {vs : List (κ × V)} {ds : List (κ × D)} (k : κ) (h : RpP K H S vs ds) : (vs.any fun kv => decide (kv.1 = k)) = ds.any fun kv => decide (kv.1 = k) := by
  have e1 : (vs.any fun kv => decide (kv.1 = k)) = (vs.map (·.1)).any fun x => decide (x = k) := by rw [List.any_map]; rfl
  have e2 : (ds.any fun kv => decide (kv.1 = k)) = (ds.map (·.1)).any fun x => decide (x = k) := by rw [List.any_map]; rfl
  rw [e1, e2, h.1]
theorem RpP.map {vs : List (κ × V)} {ds : List (κ × D)} {k : κ} {v : V} {d : D} (h : RpP K H S vs ds) (r : Rp K H S v d) :
    RpP K H S (vs.map fun kv => if kv.1 = k then (kv.1, v) else kv) (ds.map fun kv => if kv.1 = k then (kv.1, d) else kv) := by
  induction ds generalizing vs with
  | nil => rw [h.inv_nil]; exact .nil
  | cons p ds ih =>
    obtain ⟨k', e⟩ := p
    obtain ⟨w, t, rfl, h1, h2⟩ := h.inv_cons
    simp only [List.map_cons]
    by_cases q : k' = k
    · rw [if_pos q, if_pos q]
      exact .cons r (ih h2)
    · rw [if_neg q, if_neg q]
      exact .cons h1 (ih h2)
theorem RpP.snoc {vs : List (κ × V)} {ds : List (κ × D)} {k : κ} {v : V} {d : D} (h : RpP K H S vs ds) (r : Rp K H S v d) : RpP K H S (vs ++ [(k, v)]) (ds ++ [(k, d)]) := by
  induction ds generalizing vs with
  | nil => rw [h.inv_nil]; exact .cons r .nil
  | cons p ds ih =>
    obtain ⟨k', e⟩ := p
    obtain ⟨w, t, rfl, h1, h2⟩ := h.inv_cons
    exact .cons h1 (ih h2)
theorem RpP.put {vs : List (κ × V)} {ds : List (κ × D)} {k : κ} {v : V} {d : D} (h : RpP K H S vs ds) (r : Rp K H S v d) : RpP K H S (putK vs k v) (putD ds k d) := by
  unfold putK putD
  rw [h.any k]
  split
  · exact h.map r
  · exact h.snoc r
end
/-- a key of data, for a dict with plain keys; with tuples for keys -/
def keyT : D → Option (List Key)
  | .tup ds => keysD ds
  | _ => none
/-- what a dict (or something else) holds at a key: none where it can't be asked -/
def atD (S : Sto) (d k : D) : Option (Option D) := match vw S d with
  | .dK kvs => (keyD k).map fun k => valD kvs k
  | .dT kvs => (keyT k).map fun k => valD kvs k
  | _ => none
section
variable {X : Cx}
/-- the reading of a dict's entry -/
theorem atD_rp {K : PySem.W.Frag} {H : Hp} {S : Sto} {v w : V} {d k : D} {o : Option D} (rd : Rp K H S v d) (rk : Rp K H S w k) (rs : RS K H S) (h : atD S d k = some o) :
    ∃ a r, v = .ref a ∧ DGet H a w r ∧ ((o = none ∧ r = none) ∨ ∃ x y, o = some x ∧ r = some y ∧ Rp K H S y x) := by
  unfold atD at h
  split at h
  · rename_i kvs e
    obtain ⟨a, vs, rfl, q, l⟩ := vw_dK rd rs e
    cases e2 : keyD k with
    | none => rw [e2] at h; cases h
    | some x =>
      rw [e2] at h
      cases h
      refine ⟨a, _, rfl, by rw [keyD_rp rk e2]; exact DGet.k q, ?_⟩
      rcases l.get x with ⟨h1, h2⟩ | ⟨y, z, h1, h2, h3⟩
      · exact .inl ⟨h1, h2⟩
      · exact .inr ⟨z, y, h1, h2, h3⟩
  · rename_i kvs e
    obtain ⟨a, vs, rfl, q, l⟩ := vw_dT rd rs e
    cases e2 : keyT k with
    | none => rw [e2] at h; cases h
    | some x =>
      rw [e2] at h
      cases h
      cases rk with
      | tup t s ll hh =>
        have e3 := keysD_rp (K := K) ⟨ll, hh⟩ (show keysD _ = some x from e2)
        subst e3
        refine ⟨a, _, rfl, DGet.t q t, ?_⟩
        rcases l.get x with ⟨h1, h2⟩ | ⟨y, z, h1, h2, h3⟩
        · exact .inl ⟨h1, h2⟩
        · exact .inr ⟨z, y, h1, h2, h3⟩
      | _ => cases e2
  · cases h
/-! ### x in y -/
/-- one sign in a text, or a text in a text -/
def inStr (x z : Str) : Bool := match x.cps.toList with
  | [c] => decide (c ∈ z.cps.toList)
  | _ => !(Builtin.Str.occurrences z x 0 z.length 1).isEmpty
theorem inStr_one {x z : Str} {c : Nat} (h : x.cps.toList = [c]) : x = ⟨#[c]⟩ ∧ inStr x z = decide (c ∈ z.cps.toList) := by
  refine ⟨?_, by unfold inStr; rw [h]⟩
  obtain ⟨⟨l⟩⟩ := x
  have h : l = [c] := h
  rw [h]
theorem inStr_many {x z : Str} (h : ∀ c, x.cps.toList ≠ [c]) : inStr x z = !(Builtin.Str.occurrences z x 0 z.length 1).isEmpty := by
  unfold inStr
  split
  · rename_i c e
    exact absurd e (h c)
  · rfl
/-- lists, tuples, dicts, texts -/
def inD (S : Sto) (d e : D) : Option Bool := match vw S e with
  | .lst ys => if isDat (vw S d) && isDat (.lst ys) then some ((toPyL ys).any fun y => PyData.eqv y (toPy (vw S d))) else none
  | .tup ys => if isDat (vw S d) && isDat (.tup ys) then some ((toPyL ys).any fun y => PyData.eqv y (toPy (vw S d))) else none
  | .ktp ys => if isDat (vw S d) && isDat (.ktp ys) then some ((toPyL ys).any fun y => PyData.eqv y (toPy (vw S d))) else none
  | .str z => match vw S d with
    | .str x => some (inStr x z)
    | _ => none
  | .dK kvs => (keyD d).map fun k => (valD kvs k).isSome
  | .dT kvs => (keyT d).map fun k => (valD kvs k).isSome
  | _ => none
def dIn : DOp := fun d e S R => ∃ b, inD S d e = some b ∧ R (.bl b) S
def dNotIn : DOp := fun d e S R => ∃ b, inD S d e = some b ∧ R (.bl (!b)) S
theorem isDat_lst {ys : List D} (h : isDat (.lst ys) = true) : PyData.plainAll (toPyL ys) = true ∧ PyData.depthAll (toPyL ys) ≤ 8 := by
  have h1 := isDat_plain h
  have h2 := isDat_depth h
  simp only [toPy, PyData.plain, PyData.depth] at h1 h2
  exact ⟨h1, by omega⟩
theorem isDat_tup {ys : List D} (h : isDat (.tup ys) = true) : PyData.plainAll (toPyL ys) = true ∧ PyData.depthAll (toPyL ys) ≤ 8 := by
  have h1 := isDat_plain h
  have h2 := isDat_depth h
  simp only [toPy, PyData.plain, PyData.depth] at h1 h2
  exact ⟨h1, by omega⟩
theorem isDat_ktp {ys : List D} (h : isDat (.ktp ys) = true) : PyData.plainAll (toPyL ys) = true ∧ PyData.depthAll (toPyL ys) ≤ 8 := by
  have h1 := isDat_plain h
  have h2 := isDat_depth h
  simp only [toPy, PyData.plain, PyData.depth] at h1 h2
  exact ⟨h1, by omega⟩
theorem keyD_vw {S : Sto} {d : D} {k : Key} (h : keyD d = some k) : True := trivial
theorem od_in (hu : X.A.units + 64 < cLine) : OpR X (compareOp .In) (lO X.K dIn) := by
  intro pins s σ H x y v u Q I rx ry h
  obtain ⟨d, e, S, R, rd, re, rs, ⟨b, hb, h⟩, n⟩ := h
  have fin : EP X pins σ Q (.bool b) s := ⟨.bl b, H, I, rfl, n.same h (.bl _) rs⟩
  have room : ∀ {ds : List PyData} {p : PyData}, PyData.depthAll ds ≤ 8 → X.A.units + 1 + min (PyData.depthAll ds) p.depth < cLine := fun {ds p} q => by
    have := Nat.min_le_left (PyData.depthAll ds) p.depth
    omega
  unfold inD at hb
  split at hb
  · rename_i ys e2
    split at hb
    · rename_i hc
      rw [Bool.and_eq_true] at hc
      obtain ⟨as, r1⟩ := Dp.reads I _ x v (dp_vw rd rs hc.1) rx
      have hc2 : isDat (vw S e) = true := by rw [e2]; exact hc.2
      obtain ⟨bs, r2⟩ := Dp.reads I _ y u (dp_vw re rs hc2) ry
      rw [e2] at r2
      simp only [toPy] at r2
      obtain ⟨p1, p2⟩ := isDat_lst hc.2
      cases hb
      exact PySem.SeqAt.in_list_data r2 r1 p1 (isDat_plain hc.1) (room p2) fin
    · cases hb
  · rename_i ys e2
    split at hb
    · rename_i hc
      rw [Bool.and_eq_true] at hc
      obtain ⟨as, r1⟩ := Dp.reads I _ x v (dp_vw rd rs hc.1) rx
      have hc2 : isDat (vw S e) = true := by rw [e2]; exact hc.2
      obtain ⟨bs, r2⟩ := Dp.reads I _ y u (dp_vw re rs hc2) ry
      rw [e2] at r2
      simp only [toPy] at r2
      obtain ⟨p1, p2⟩ := isDat_tup hc.2
      cases hb
      exact PySem.SeqAt.in_tuple_data r2 r1 p1 (isDat_plain hc.1) (room p2) fin
    · cases hb
  · rename_i ys e2
    split at hb
    · rename_i hc
      rw [Bool.and_eq_true] at hc
      obtain ⟨as, r1⟩ := Dp.reads I _ x v (dp_vw rd rs hc.1) rx
      have hc2 : isDat (vw S e) = true := by rw [e2]; exact hc.2
      obtain ⟨bs, r2⟩ := Dp.reads I _ y u (dp_vw re rs hc2) ry
      rw [e2] at r2
      simp only [toPy] at r2
      obtain ⟨p1, p2⟩ := isDat_ktp hc.2
      cases hb
      exact PySem.SeqAt.in_tuple_data r2 r1 p1 (isDat_plain hc.1) (room p2) fin
    · cases hb
  · rename_i z e2
    cases vw_str re rs e2
    split at hb
    · rename_i x1 e1
      cases vw_str rd rs e1
      cases hb
      by_cases hc : ∃ c, x1.cps.toList = [c]
      · obtain ⟨c, hc⟩ := hc
        obtain ⟨rfl, e3⟩ := inStr_one (z := z) hc
        rw [e3] at h
        exact op_in_sign pins s σ H _ _ v u Q I rx ry ⟨c, z, rfl, rfl, n.same h (.bl _) rs⟩
      · rw [inStr_many fun c e => hc ⟨c, e⟩] at h
        exact op_in_str pins s σ H _ _ v u Q I rx ry ⟨_, z, rfl, rfl, n.same h (.bl _) rs⟩
    · cases hb
  · rename_i kvs e2
    have ha : atD S e d = (keyD d).map fun k => valD kvs k := by unfold atD; rw [e2]
    cases ek : keyD d with
    | none => rw [ek] at hb; cases hb
    | some k =>
      rw [ek] at hb ha
      obtain ⟨a, r, rfl, g, q⟩ := atD_rp re rd rs ha
      cases ry
      cases hb
      refine d_in (by omega) I g rx fun s' I' => ⟨.bl _, H, I', rfl, ?_⟩
      have e3 : (valD kvs k).isSome = r.isSome := by
        rcases q with ⟨q1, q2⟩ | ⟨_, _, q1, q2, _⟩ <;> (rw [show valD kvs k = _ from q1, q2]; rfl)
      rw [← e3]
      exact n.same h (.bl _) rs
  · rename_i kvs e2
    have ha : atD S e d = (keyT d).map fun k => valD kvs k := by unfold atD; rw [e2]
    cases ek : keyT d with
    | none => rw [ek] at hb; cases hb
    | some k =>
      rw [ek] at hb ha
      obtain ⟨a, r, rfl, g, q⟩ := atD_rp re rd rs ha
      cases ry
      cases hb
      refine d_in (by omega) I g rx fun s' I' => ⟨.bl _, H, I', rfl, ?_⟩
      have e3 : (valD kvs k).isSome = r.isSome := by
        rcases q with ⟨q1, q2⟩ | ⟨_, _, q1, q2, _⟩ <;> (rw [show valD kvs k = _ from q1, q2]; rfl)
      rw [← e3]
      exact n.same h (.bl _) rs
  · cases hb
theorem od_notIn (hu : X.A.units + 64 < cLine) : OpR X (compareOp .NotIn) (lO X.K dNotIn) := by
  intro pins s σ H x y v u Q I rx ry h
  obtain ⟨d, e, S, R, rd, re, rs, ⟨b, hb, h⟩, n⟩ := h
  have fin : EP X pins σ Q (.bool (!b)) s := ⟨.bl (!b), H, I, rfl, n.same h (.bl _) rs⟩
  have room : ∀ {ds : List PyData} {p : PyData}, PyData.depthAll ds ≤ 8 → X.A.units + 1 + min (PyData.depthAll ds) p.depth < cLine := fun {ds p} q => by
    have := Nat.min_le_left (PyData.depthAll ds) p.depth
    omega
  unfold inD at hb
  split at hb
  · rename_i ys e2
    split at hb
    · rename_i hc
      rw [Bool.and_eq_true] at hc
      obtain ⟨as, r1⟩ := Dp.reads I _ x v (dp_vw rd rs hc.1) rx
      have hc2 : isDat (vw S e) = true := by rw [e2]; exact hc.2
      obtain ⟨bs, r2⟩ := Dp.reads I _ y u (dp_vw re rs hc2) ry
      rw [e2] at r2
      simp only [toPy] at r2
      obtain ⟨p1, p2⟩ := isDat_lst hc.2
      cases hb
      exact PySem.SeqAt.notIn_list_data r2 r1 p1 (isDat_plain hc.1) (room p2) fin
    · cases hb
  · rename_i ys e2
    split at hb
    · rename_i hc
      rw [Bool.and_eq_true] at hc
      obtain ⟨as, r1⟩ := Dp.reads I _ x v (dp_vw rd rs hc.1) rx
      have hc2 : isDat (vw S e) = true := by rw [e2]; exact hc.2
      obtain ⟨bs, r2⟩ := Dp.reads I _ y u (dp_vw re rs hc2) ry
      rw [e2] at r2
      simp only [toPy] at r2
      obtain ⟨p1, p2⟩ := isDat_tup hc.2
      cases hb
      exact PySem.SeqAt.notIn_tuple_data r2 r1 p1 (isDat_plain hc.1) (room p2) fin
    · cases hb
  · rename_i ys e2
    split at hb
    · rename_i hc
      rw [Bool.and_eq_true] at hc
      obtain ⟨as, r1⟩ := Dp.reads I _ x v (dp_vw rd rs hc.1) rx
      have hc2 : isDat (vw S e) = true := by rw [e2]; exact hc.2
      obtain ⟨bs, r2⟩ := Dp.reads I _ y u (dp_vw re rs hc2) ry
      rw [e2] at r2
      simp only [toPy] at r2
      obtain ⟨p1, p2⟩ := isDat_ktp hc.2
      cases hb
      exact PySem.SeqAt.notIn_tuple_data r2 r1 p1 (isDat_plain hc.1) (room p2) fin
    · cases hb
  · rename_i z e2
    cases vw_str re rs e2
    split at hb
    · rename_i x1 e1
      cases vw_str rd rs e1
      cases hb
      by_cases hc : ∃ c, x1.cps.toList = [c]
      · obtain ⟨c, hc⟩ := hc
        obtain ⟨rfl, e3⟩ := inStr_one (z := z) hc
        rw [e3] at h
        exact op_notIn_sign pins s σ H _ _ v u Q I rx ry ⟨c, z, rfl, rfl, n.same h (.bl _) rs⟩
      · rw [inStr_many fun c e => hc ⟨c, e⟩] at h
        exact op_notIn_str pins s σ H _ _ v u Q I rx ry ⟨_, z, rfl, rfl, n.same h (.bl _) rs⟩
    · cases hb
  · rename_i kvs e2
    have ha : atD S e d = (keyD d).map fun k => valD kvs k := by unfold atD; rw [e2]
    cases ek : keyD d with
    | none => rw [ek] at hb; cases hb
    | some k =>
      rw [ek] at hb ha
      obtain ⟨a, r, rfl, g, q⟩ := atD_rp re rd rs ha
      cases ry
      cases hb
      refine d_notIn (by omega) I g rx fun s' I' => ⟨.bl _, H, I', rfl, ?_⟩
      have e3 : (valD kvs k).isSome = r.isSome := by
        rcases q with ⟨q1, q2⟩ | ⟨_, _, q1, q2, _⟩ <;> (rw [show valD kvs k = _ from q1, q2]; rfl)
      rw [← e3]
      exact n.same h (.bl _) rs
  · rename_i kvs e2
    have ha : atD S e d = (keyT d).map fun k => valD kvs k := by unfold atD; rw [e2]
    cases ek : keyT d with
    | none => rw [ek] at hb; cases hb
    | some k =>
      rw [ek] at hb ha
      obtain ⟨a, r, rfl, g, q⟩ := atD_rp re rd rs ha
      cases ry
      cases hb
      refine d_notIn (by omega) I g rx fun s' I' => ⟨.bl _, H, I', rfl, ?_⟩
      have e3 : (valD kvs k).isSome = r.isSome := by
        rcases q with ⟨q1, q2⟩ | ⟨_, _, q1, q2, _⟩ <;> (rw [show valD kvs k = _ from q1, q2]; rfl)
      rw [← e3]
      exact n.same h (.bl _) rs
  · cases hb
/-! ### subscripts -/
def dIx : DOp := fun d e S R => match vw S d, vw S e with
  | .lst xs, .int i => ∃ z, atI xs i = some z ∧ R z S
  | .tup xs, .int i => ∃ z, atI xs i = some z ∧ R z S
  | .ktp xs, .int i => ∃ z, atI xs i = some z ∧ R z S
  | .scr xs, .int i => ∃ z, atI xs i = some z ∧ R (.int z) S
  | .str x, .int i => x.length ≤ sizeLine ∧ ∃ c, atI x.cps.toList i = some c ∧ R (.str ⟨#[c]⟩) S
  | .dK _, _ => ∃ z, atD S d e = some (some z) ∧ R z S
  | .dT _, _ => ∃ z, atD S d e = some (some z) ∧ R z S
  | _, _ => False
theorem atI_rp {K : PySem.W.Frag} {H : Hp} {S : Sto} {vs : List V} {ds : List D} {i : Int} {z : D} (l : RpL K H S vs ds) (h : atI ds i = some z) : ∃ v, atI vs i = some v ∧ Rp K H S v z := by
  unfold atI at h ⊢
  rw [l.len]
  cases e : ixN ds.length i with
  | none => rw [e] at h; cases h
  | some j =>
    rw [e] at h
    exact l.get h
theorem atI_map {α β : Type} {f : α → β} {xs : List α} {i : Int} {z : α} (h : atI xs i = some z) : atI (xs.map f) i = some (f z) := by
  unfold atI at h ⊢
  rw [List.length_map]
  cases e : ixN xs.length i with
  | none => rw [e] at h; cases h
  | some j =>
    rw [e] at h
    show (xs.map f)[j]? = _
    rw [List.getElem?_map, show xs[j]? = some z from h]
    rfl
theorem ixD_dict (hu : X.A.units + 1 < cLine) : IxR X (fun x y H Q => ∃ a v, x = .ref a ∧ DGet H a y (some v) ∧ Q v H) := by
  intro value slice pins s σ H x y v u Q I rx ry h hs
  obtain ⟨a, z, rfl, g, q⟩ := h
  cases rx
  exact PyProof.Rows.tail_any (dict_typeIs I g) PySem.F.slot_dict_getitem.lookup (d_getItem hu I g ry fun w' s' I' r' => ⟨z, H, I', r', q⟩) hs
theorem od_ix (hu : X.A.units + 64 < cLine) : IxR X (lO X.K dIx) := by
  intro value slice pins s σ H x y v u Q I rx ry h hs
  obtain ⟨d, e, S, R, rd, re, rs, h, n⟩ := h
  have dict : ∀ z, atD S d e = some (some z) → R z S → wpAny (model X.prog X.w) X.A (PyProof.Rows.subscriptTail value slice v u) (EP X pins σ Q) X.xe s := fun z hz hr => by
    obtain ⟨a, r, rfl, g, q⟩ := atD_rp rd re rs hz
    rcases q with ⟨q1, _⟩ | ⟨x', y', q1, rfl, q3⟩
    · cases q1
    · cases q1
      exact ixD_dict (by omega) value slice pins s σ H _ _ v u Q I rx ry ⟨a, y', rfl, g, n.same hr q3 rs⟩ hs
  unfold dIx at h
  split at h
  · rename_i xs i e1 e2
    obtain ⟨z, hz, h⟩ := h
    obtain ⟨a, vs, rfl, ha, la⟩ := vw_lst rd rs e1
    cases vw_int re rs e2
    obtain ⟨w', h1, h2⟩ := atI_rp la hz
    exact ix_list value slice pins s σ H _ _ v u Q I rx ry ⟨a, vs, i, w', rfl, rfl, SqL.of ha, h1, n.same h h2 rs⟩ hs
  · rename_i xs i e1 e2
    obtain ⟨z, hz, h⟩ := h
    obtain ⟨_, a, vs, rfl, ha, _, la⟩ := vw_tup rd rs e1
    cases vw_int re rs e2
    obtain ⟨w', h1, h2⟩ := atI_rp la hz
    exact ix_tup value slice pins s σ H _ _ v u Q I rx ry ⟨a, vs, i, w', rfl, rfl, SqT.of ha, h1, n.same h h2 rs⟩ hs
  · rename_i xs i e1 e2
    obtain ⟨z, hz, h⟩ := h
    obtain ⟨a, vs, rfl, ha, la⟩ := vw_ktp rd rs e1
    cases vw_int re rs e2
    obtain ⟨w', h1, h2⟩ := atI_rp la hz
    exact ix_tup value slice pins s σ H _ _ v u Q I rx ry ⟨a, vs, i, w', rfl, rfl, ha, h1, n.same h h2 rs⟩ hs
  · rename_i xs i e1 e2
    obtain ⟨z, hz, h⟩ := h
    obtain ⟨a, rfl, ha⟩ := vw_scr rd rs e1
    cases vw_int re rs e2
    exact ix_list value slice pins s σ H _ _ v u Q I rx ry ⟨a, _, i, _, rfl, rfl, ha, atI_map hz, n.same h (.int _) rs⟩ hs
  · rename_i z i e1 e2
    cases vw_str rd rs e1
    cases vw_int re rs e2
    obtain ⟨hz, c, hc, h⟩ := h
    exact ix_str value slice pins s σ H _ _ v u Q I rx ry ⟨z, i, c, rfl, rfl, hz, hc, n.same h (.str _) rs⟩ hs
  · obtain ⟨z, hz, h⟩ := h
    exact dict z hz h
  · obtain ⟨z, hz, h⟩ := h
    exact dict z hz h
  · exact h.elim
theorem de_ix {a b : Expr} {ta tb : DTE} {pos : Pos} (hu : X.A.units + 64 < cLine) (ha : DE X a ta) (hb : DE X b tb) (hs : PlainIx b) : DE X (.Subscript a b pos) (dBin dIx ta tb) := (pe_ix (od_ix hu) ha hb hs).weak fun _ _ _ => lE_bin
/-! ### slices -/
abbrev DTO := DSt → Sto → (Option Int → Sto → Prop) → Prop
def lO1 (K : PySem.W.Frag) (t : DTO) : TO := fun σ H Q => ∃ ρ S R, SL K H S σ ρ ∧ RS K H S ∧ t ρ S R ∧ ∀ o S', R o S' → ∀ H', RS K H' S' → Fr H S H' S' → Q o H'
abbrev DO (X : Cx) (e : Option Expr) (t : DTO) : Prop := PO X e (lO1 X.K t)
def dNoPart : DTO := fun _ S R => R none S
def dPart (t : DTE) : DTO := fun ρ S R => t ρ S fun d S1 => ∃ i, d = .int i ∧ R (some i) S1
theorem _root_.L2.PO.weak {e : Option Expr} {t t' : TO} (h : PO X e t) (w : ∀ σ H Q, t' σ H Q → t σ H Q) : PO X e t' := ⟨fun pins s σ H Q I q => h.run pins s σ H Q I (w σ H Q q)⟩
theorem do_none : DO X none dNoPart := po_none.weak fun σ H Q ⟨ρ, S, R, sl, rs, h, n⟩ => n none S h H rs (Fr.refl H S)
theorem do_some {e : Expr} {t : DTE} (h : DE X e t) : DO X (some e) (dPart t) := (po_some h).weak fun σ H Q ⟨ρ, S, R, sl, rs, h, n⟩ => ⟨ρ, S, _, sl, rs, h, fun d S1 h1 v H1 rv rs1 f => by
  obtain ⟨i, rfl, h1⟩ := h1
  cases rv
  exact ⟨i, rfl, n _ S1 h1 H1 rs1 f⟩⟩
def cutD (xs : List D) (lo hi : Option Int) : List D := (xs.drop (HT.sIx xs.length 0 lo)).take (HT.sIx xs.length xs.length hi - HT.sIx xs.length 0 lo)
def dSl (t : DTE) (tl th : DTO) : DTE := fun ρ S R => t ρ S fun d S1 => tl ρ S1 fun lo S2 => th ρ S2 fun hi S3 => match vw S3 d with
  | .lst xs => R (.lst (cutD xs lo hi)) S3
  | .tup xs => R (.tup (cutD xs lo hi)) S3
  | .str x => x.length ≤ sizeLine ∧ R (.str (cutS x lo hi)) S3
  | _ => False
theorem RpL.cut {K : PySem.W.Frag} {H : Hp} {S : Sto} {vs : List V} {ds : List D} (h : RpL K H S vs ds) (lo hi : Option Int) : RpL K H S (cutV vs lo hi) (cutD ds lo hi) := by
  unfold cutV cutD
  rw [h.len]
  exact (h.drop _).take _
theorem SlR_or3 : SlR X (fun x lo hi H Q => rSlL X.K x lo hi H Q ∨ rSlA X.K x lo hi H Q ∨ rSlS x lo hi H Q) := sl_list.or (sl_tupA.or sl_str)
theorem de_sl {e : Expr} {lo hi : Option Expr} {t : DTE} {tl th : DTO} {p2 pos : Pos} (he : DE X e t) (hl : DO X lo tl) (hh : DO X hi th) : DE X (.Subscript e (.Slice lo hi none p2) pos) (dSl t tl th) :=
  (pe_slice SlR_or3 he hl hh).weak fun σ H Q ⟨ρ, S, R, sl, rs, h, n⟩ => ⟨ρ, S, _, sl, rs, h, fun d S1 h1 v H1 rv rs1 f1 => ⟨ρ, S1, _, sl.fr f1, rs1, h1, fun lo S2 h2 H2 rs2 f2 => ⟨ρ, S2, _, (sl.fr f1).fr f2, rs2, h2, fun hi S3 h3 H3 rs3 f3 => by
    have rv := (rv.fr f2).fr f3
    have n := n.from ((f1.trans f2).trans f3)
    split at h3
    · rename_i xs e
      obtain ⟨a, vs, rfl, ha, la⟩ := vw_lst rv rs3 e
      exact .inl ⟨a, vs, rfl, SqL.of ha, fun p hp => n.new h3 hp rs3 (rp_lst hp rs3 (la.cut lo hi))⟩
    · rename_i xs e
      obtain ⟨rfl, a, vs, rfl, ha, _, la⟩ := vw_tup rv rs3 e
      refine .inr (.inl ⟨a, vs, rfl, SqT.of ha, fun z => ?_, fun _ p hp => n.new h3 hp rs3 (rp_tup hp rs3 (la.cut lo hi))⟩)
      refine n.same h3 ?_ rs3
      have e2 : cutD xs lo hi = xs := by
        unfold cutD
        rw [← la.len, z.1, z.2, Nat.sub_zero, List.drop_zero, la.len, List.take_length]
      rw [e2]
      exact rv
    · rename_i x e
      cases vw_str rv rs3 e
      exact .inr (.inr ⟨x, rfl, h3.1, n.same h3.2 (.str _) rs3⟩)
    · exact h3.elim⟩⟩⟩
end
end DL
end
section
set_option maxHeartbeats 4000000
/-! The data layer, part e: arguments, displays, calls, fields, statements, defs. -/
namespace DL
open PySem PySem.Spec L2
section
variable {X : Cx} {e o : Expr} {es : List Expr} {te to : DTE} {ta : DTA} {p pos apos : Pos}
/-! ### arguments -/
def dNil : DTA := fun _ S R => R [] S
def dCons (te : DTE) (tr : DTA) : DTA := fun ρ S R => te ρ S fun d S1 => tr ρ S1 fun ds S2 => R (d :: ds) S2
theorem da_nil : DA X [] dNil := pa_nil.weak fun σ H Q ⟨ρ, S, R, sl, rs, h, n⟩ => n [] S h [] H .nil rs (Fr.refl H S)
theorem da_cons (he : DE X e te) (hr : DA X es ta) (hs : starEach (e :: es) X.env = (false, eval e X.env) :: starEach es X.env := by rfl) : DA X (e :: es) (dCons te ta) := (pa_cons he hr hs).weak fun σ H Q ⟨ρ, S, R, sl, rs, h, n⟩ =>
  ⟨ρ, S, _, sl, rs, h, fun d S1 h1 v H1 rv rs1 f1 => ⟨ρ, S1, _, sl.fr f1, rs1, h1, fun ds S2 h2 vs H2 rvs rs2 f2 => n _ S2 h2 _ H2 (.cons (rv.fr f2) rvs) rs2 (f1.trans f2)⟩⟩
/-- the items of a sequence -/
def seqD : D → Option (List D)
  | .lst xs => some xs
  | .tup xs => some xs
  | .ktp xs => some xs
  | .scr ns => some (ns.map D.int)
  | _ => none
theorem seqD_rp {K : PySem.W.Frag} {H : Hp} {S : Sto} {v : V} {d : D} {xs : List D} (r : Rp K H S v d) (rs : RS K H S) (h : seqD (vw S d) = some xs) : ∃ a vs, v = .ref a ∧ (SqT K H a vs ∨ SqL K H a vs) ∧ RpL K H S vs xs := by
  cases e : vw S d with
  | lst ys =>
    rw [e] at h
    cases h
    obtain ⟨a, vs, rfl, q, l⟩ := vw_lst r rs e
    exact ⟨a, vs, rfl, .inr (SqL.of q), l⟩
  | tup ys =>
    rw [e] at h
    cases h
    obtain ⟨_, a, vs, rfl, q, _, l⟩ := vw_tup r rs e
    exact ⟨a, vs, rfl, .inl (SqT.of q), l⟩
  | ktp ys =>
    rw [e] at h
    cases h
    obtain ⟨a, vs, rfl, q, l⟩ := vw_ktp r rs e
    exact ⟨a, vs, rfl, .inl q, l⟩
  | scr ys =>
    rw [e] at h
    cases h
    obtain ⟨a, rfl, q⟩ := vw_scr r rs e
    exact ⟨a, _, rfl, .inr q, RpL.ints ys⟩
  | _ => rw [e] at h; cases h
def dStar (te : DTE) (tr : DTA) : DTA := fun ρ S R => te ρ S fun d S1 => ∃ xs, seqD (vw S1 d) = some xs ∧ tr ρ S1 fun ds S2 => R (xs ++ ds) S2
theorem da_star (he : DE X e te) (hr : DA X es ta) (hs : starEach (.Starred e p :: es) X.env = (true, eval e X.env) :: starEach es X.env := by rfl) : DA X (.Starred e p :: es) (dStar te ta) := (StX.pa_star he hr hs).weak fun σ H Q ⟨ρ, S, R, sl, rs, h, n⟩ =>
  ⟨ρ, S, _, sl, rs, h, fun d S1 h1 v H1 rv rs1 f1 => by
    obtain ⟨xs, hx, h1⟩ := h1
    obtain ⟨a, vs, rfl, hq, l⟩ := seqD_rp rv rs1 hx
    exact ⟨a, vs, rfl, hq, ρ, S1, _, sl.fr f1, rs1, h1, fun ds S2 h2 ws H2 rvs rs2 f2 => n _ S2 h2 _ H2 ((l.fr f2).append rvs) rs2 (f1.trans f2)⟩⟩
/-! ### displays -/
def dTup (t : DTA) : DTE := fun ρ S R => t ρ S fun ds S1 => ds.length ≤ sizeLine ∧ R (.tup ds) S1
def dLst (t : DTA) : DTE := fun ρ S R => t ρ S fun ds S1 => ds.length ≤ sizeLine ∧ R (.lst ds) S1
/-- a list that will change -/
def dLstM (t : DTA) : DTE := fun ρ S R => t ρ S fun ds S1 => ds.length ≤ sizeLine ∧ ∀ a, S1 a = none → R (.ref a) (S1.put a (.lst ds))
theorem de_tup {x1} (h : DA X es ta) : DE X (.Tuple es x1 pos) (dTup ta) := (pe_tup h).weak fun σ H Q ⟨ρ, S, R, sl, rs, h, n⟩ =>
  ⟨ρ, S, _, sl, rs, h, fun ds S1 h1 vs H1 l rs1 f1 => ⟨by rw [l.len]; exact h1.1, fun p hp => (n.from f1).new h1.2 hp rs1 (rp_tup hp rs1 l)⟩⟩
theorem de_lst (h : DA X es ta) : DE X (.List es pos) (dLst ta) := (pe_lst h).weak fun σ H Q ⟨ρ, S, R, sl, rs, h, n⟩ =>
  ⟨ρ, S, _, sl, rs, h, fun ds S1 h1 vs H1 l rs1 f1 => ⟨by rw [l.len]; exact h1.1, fun p hp => (n.from f1).new h1.2 hp rs1 (rp_lst hp rs1 l)⟩⟩
/-- a new cell -/
theorem Nxt.newc {K : PySem.W.Frag} {H : Hp} {S : Sto} {R : DK} {Q : VK} {d : D} {p : Addr} {o : HO} (n : Nxt K H S R Q) (rs : RS K H S) (e : H p = none) (h : R (.ref p) (S.put p d)) (c : Cl K (upd H p o) (S.put p d) p d) : Q (.ref p) (upd H p o) :=
  n _ _ h _ _ (.ref p) (rs.put (Fr.newc e) c) (Fr.newc e)
theorem de_lstM (h : DA X es ta) : DE X (.List es pos) (dLstM ta) := (pe_lst h).weak fun σ H Q ⟨ρ, S, R, sl, rs, h, n⟩ =>
  ⟨ρ, S, _, sl, rs, h, fun ds S1 h1 vs H1 l rs1 f1 => ⟨by rw [l.len]; exact h1.1, fun p hp => (n.from f1).newc rs1 hp (h1.2 p (rs1.free hp)) ⟨vs, upd_same, l.fr (Fr.newc hp)⟩⟩⟩
/-- a cell of a list is made still -/
def dFrz (t : DTE) : DTE := fun ρ S R => t ρ S fun d S1 => match d with
  | .ref a => ∃ ds, S1 a = some (.lst ds) ∧ R (.lst ds) (S1.del a)
  | _ => R d S1
theorem frz_nxt {K : PySem.W.Frag} {H : Hp} {S : Sto} {R : DK} {Q : VK} {a : Addr} {ds : List D} {H1 : Hp} {S1 : Sto} (n : Nxt K H S R Q) (rs1 : RS K H1 S1) (f1 : Fr H S H1 S1) (ha : S1 a = some (.lst ds)) (h : R (.lst ds) (S1.del a)) : Q (.ref a) H1 := by
  obtain ⟨vs, hv, l⟩ := rs1 a _ ha
  have sb := Sub.del S1 a
  exact n _ _ h _ H1 (.lst hv del_same (l.fr sb.fr).1 (l.fr sb.fr).2) (sb.rs rs1) (f1.trans sb.fr)
theorem de_frz (h : DE X e te) : DE X e (dFrz te) := PE.weak h fun σ H Q ⟨ρ, S, R, sl, rs, h, n⟩ =>
  ⟨ρ, S, _, sl, rs, h, fun d S1 h1 v H1 rv rs1 f1 => by
    cases d with
    | ref a =>
      cases rv
      obtain ⟨ds, ha, h1⟩ := h1
      exact frz_nxt n rs1 f1 ha h1
    | _ => exact (n.from f1).same h1 rv rs1⟩

/-! ### calls of what is built in -/
abbrev DCl := List D → Sto → DK → Prop
def lC (K : PySem.W.Frag) (r : DCl) : List V → Hp → VK → Prop := fun vs H Q => ∃ ds S R, RpL K H S vs ds ∧ RS K H S ∧ r ds S R ∧ Nxt K H S R Q
def dCall (r : DCl) (ta : DTA) : DTE := fun ρ S R => ta ρ S fun ds S1 => r ds S1 R
theorem lE_call {r : DCl} {σ : St} {H : Hp} {Q : VK} (h : lE X.K (dCall r ta) σ H Q) : tCB (lC X.K r) (lA X.K ta) σ H Q := by
  obtain ⟨ρ, S, R, sl, rs, h, n⟩ := h
  exact ⟨ρ, S, _, sl, rs, h, fun ds S1 h1 vs H1 l rs1 f1 => ⟨ds, S1, R, l, rs1, h1, n.from f1⟩⟩
theorem de_callB {x : Str} {id : String} {r : DCl} (hc : CallR X (.builtin id) (lC X.K r)) (hg : Gl X x) (hm : X.mg x = none) (hv : bootBuiltins x = some (.builtin id)) (ha : DA X (e :: es) ta) (hn : x ≠ "__name__" := by decide) (hdb : (x == ("__debug__" : Str)) = false := by decide)
    (he : starEach (e :: es) X.env = (false, eval e X.env) :: starEach es X.env := by rfl) (hpl : (backTo pos (starEach es X.env)).any (·.1) = false := by rfl) : DE X (.Call (.Name x p) (e :: es) [] pos) (dCall r ta) := (pe_callB hc hg hm hv ha hn hdb he hpl).weak fun _ _ _ => lE_call
theorem de_callTy {x : Str} {T : String} {r : DCl} (hc : CallR X (.type T) (lC X.K r)) (hg : Gl X x) (hm : X.mg x = none) (hv : bootBuiltins x = some (.type T)) (ha : DA X (e :: es) ta) (hn : x ≠ "__name__" := by decide) (hdb : (x == ("__debug__" : Str)) = false := by decide)
    (he : starEach (e :: es) X.env = (false, eval e X.env) :: starEach es X.env := by rfl) (hpl : (backTo pos (starEach es X.env)).any (·.1) = false := by rfl) : DE X (.Call (.Name x p) (e :: es) [] pos) (dCall r ta) := (pe_callTy hc hg hm hv ha hn hdb he hpl).weak fun _ _ _ => lE_call
/-! ### defs' promises -/
abbrev DXK := Addr → List (Str × D) → Sto → Prop
abbrev DSp := List D → Sto → DK → DXK → Prop
abbrev DX0 : DXK := fun _ _ _ => False
def NxX (K : PySem.W.Frag) (H : Hp) (S : Sto) (RE : DXK) (E : XK) : Prop := ∀ C fs S', RE C fs S' → ∀ d H' vs, H' d = some (.xd vs) → RpP K H' S' vs fs → RS K H' S' → Fr H S H' S' → E (.ref C) (some d) H'
theorem NxX.none {K : PySem.W.Frag} {H : Hp} {S : Sto} {E : XK} : NxX K H S DX0 E := fun _ _ _ h => h.elim
theorem NxX.from {K : PySem.W.Frag} {H H1 : Hp} {S S1 : Sto} {RE : DXK} {E : XK} (n : NxX K H S RE E) (f : Fr H S H1 S1) : NxX K H1 S1 RE E := fun C fs S' h d H' vs e r rs f' => n C fs S' h d H' vs e r rs (f.trans f')
def lP (K : PySem.W.Frag) (sp : DSp) : Sp := fun vs H Q E => ∃ ds S R RE, RpL K H S vs ds ∧ RS K H S ∧ sp ds S R RE ∧ Nxt K H S R Q ∧ NxX K H S RE E
/-- a call of a def that lets nothing out -/
def dFn (sp : DSp) (ta : DTA) : DTE := fun ρ S R => ta ρ S fun ds S1 => sp ds S1 R DX0
theorem lE_fn {sp : DSp} {σ : St} {H : Hp} {Q : VK} {E : XK} (h : lE X.K (dFn sp ta) σ H Q) : tCall (lP X.K sp) [] E (lA X.K ta) σ H Q := by
  obtain ⟨ρ, S, R, sl, rs, h, n⟩ := h
  refine ⟨ρ, S, _, sl, rs, h, fun ds S1 h1 vs H1 l rs1 f1 => ?_⟩
  show lP X.K sp (vs ++ []) H1 Q E
  rw [List.append_nil]
  exact ⟨ds, S1, R, DX0, l, rs1, h1, n.from f1, .none⟩
variable {CX : CXT} {k : Nat} {f C : Addr} {fd : FuncData} {ps : List Str} {sp : DSp} {x m : Str}
theorem de_fn (F : FnOk X.prog X.w X.K X.mg X.base CX0 k f fd ps (lP X.K sp)) (hr : Room k X.A) (hg : Gl X x) (hm : X.mg x = some (.ref f)) (hk : PySem.W.keepIn X.K (.ref f) = true) (hb : Binds X.K fd ps [])
    (ha : DA X (e :: es) ta) (hdb : (x == ("__debug__" : Str)) = false := by decide) (he : starEach (e :: es) X.env = (false, eval e X.env) :: starEach es X.env := by rfl) (hpl : (backTo pos (starEach es X.env)).any (·.1) = false := by rfl) :
    DE X (.Call (.Name x p) (e :: es) [] pos) (dFn sp ta) := (pe_call F hr hg hm hk hb .nil pass0 ha hdb he hpl).weak fun _ _ _ => lE_fn
/-- a new instance and its __init__, then still -/
def dMk (C : Addr) (sp : DSp) (ta : DTA) : DTE := fun ρ S R => ta ρ S fun ds S1 => ∀ x, S1 x = none → sp (.ref x :: ds) (S1.put x (.obj C [])) (fun v S2 => v = .non ∧ ∃ fs, S2 x = some (.obj C fs) ∧ R (.obj C fs) (S2.del x)) DX0
/-- .. that may change -/
def dMkM (C : Addr) (sp : DSp) (ta : DTA) : DTE := fun ρ S R => ta ρ S fun ds S1 => ∀ x, S1 x = none → sp (.ref x :: ds) (S1.put x (.obj C [])) (fun v S2 => v = .non ∧ R (.ref x) S2) DX0
theorem mk_step {K : PySem.W.Frag} {H1 : Hp} {S1 : Sto} {x dx : Addr} (rs1 : RS K H1 S1) (hx : H1 x = none) (hd : H1 dx = none) (ne : dx ≠ x) :
    Fr H1 S1 (upd (upd H1 dx (.own x)) x (.ins C dx [])) (S1.put x (.obj C [])) ∧ RS K (upd (upd H1 dx (.own x)) x (.ins C dx [])) (S1.put x (.obj C [])) := by
  have hx' : (upd H1 dx (.own x)) x = none := by rw [upd_ne (Ne.symm ne)]; exact hx
  have f1 : Fr H1 S1 (upd H1 dx (.own x)) S1 := Fr.new hd
  have f2 : Fr (upd H1 dx (.own x)) S1 (upd (upd H1 dx (.own x)) x (.ins C dx [])) (S1.put x (.obj C [])) := Fr.newc hx'
  exact ⟨f1.trans f2, (rs1.new hd).put f2 ⟨dx, [], upd_same, .nil⟩⟩
theorem de_mk (M : Mk X.K C f) (F : FnOk X.prog X.w X.K X.mg X.base CX0 k f fd ps (lP X.K sp)) (hr : Room (k + 1) X.A) (hg : Gl X x) (hm : X.mg x = some (.ref C)) (hb : Binds X.K fd ps [])
    (ha : DA X (e :: es) ta) (hdb : (x == ("__debug__" : Str)) = false := by decide) (he : starEach (e :: es) X.env = (false, eval e X.env) :: starEach es X.env := by rfl) (hpl : (backTo pos (starEach es X.env)).any (·.1) = false := by rfl) :
    DE X (.Call (.Name x p) (e :: es) [] pos) (dMk C sp ta) := (pe_make M F hr hg hm hb .nil (pass0 (X := X)) ha hdb he hpl).weak fun σ H Q ⟨ρ, S, R, sl, rs, h, n⟩ =>
  ⟨ρ, S, _, sl, rs, h, fun ds S1 h1 vs H1 l rs1 f1 x dx hx hd ne => by
    obtain ⟨f2, rs2⟩ := mk_step (C := C) rs1 hx hd ne
    refine ⟨.ref x :: ds, _, _, DX0, ?_, rs2, h1 x (rs1.free hx), fun d S3 h3 v H3 rv rs3 f3 => ?_, .none⟩
    · rw [List.append_nil]
      exact .cons (.ref x) (l.fr f2)
    · obtain ⟨rfl, fs, hS, h3⟩ := h3
      cases rv
      refine ⟨rfl, ?_⟩
      obtain ⟨dy, ws, hw, lw⟩ := rs3 x _ hS
      have sb := Sub.del S3 x
      exact n _ _ h3 _ H3 (.obj hw del_same (lw.fr sb.fr).1 (lw.fr sb.fr).2) (sb.rs rs3) (((f1.trans f2).trans f3).trans sb.fr)⟩
theorem de_mkM (M : Mk X.K C f) (F : FnOk X.prog X.w X.K X.mg X.base CX0 k f fd ps (lP X.K sp)) (hr : Room (k + 1) X.A) (hg : Gl X x) (hm : X.mg x = some (.ref C)) (hb : Binds X.K fd ps [])
    (ha : DA X (e :: es) ta) (hdb : (x == ("__debug__" : Str)) = false := by decide) (he : starEach (e :: es) X.env = (false, eval e X.env) :: starEach es X.env := by rfl) (hpl : (backTo pos (starEach es X.env)).any (·.1) = false := by rfl) :
    DE X (.Call (.Name x p) (e :: es) [] pos) (dMkM C sp ta) := (pe_make M F hr hg hm hb .nil (pass0 (X := X)) ha hdb he hpl).weak fun σ H Q ⟨ρ, S, R, sl, rs, h, n⟩ =>
  ⟨ρ, S, _, sl, rs, h, fun ds S1 h1 vs H1 l rs1 f1 x dx hx hd ne => by
    obtain ⟨f2, rs2⟩ := mk_step (C := C) rs1 hx hd ne
    refine ⟨.ref x :: ds, _, _, DX0, ?_, rs2, h1 x (rs1.free hx), fun d S3 h3 v H3 rv rs3 f3 => ?_, .none⟩
    · rw [List.append_nil]
      exact .cons (.ref x) (l.fr f2)
    · obtain ⟨rfl, h3⟩ := h3
      cases rv
      exact ⟨rfl, n _ _ h3 _ H3 (.ref x) rs3 ((f1.trans f2).trans f3)⟩⟩
/-! ### fields, properties, methods -/
theorem look_rp {K : PySem.W.Frag} {H : Hp} {S : Sto} {g : Str} : ∀ {vs : List (Str × V)} {fs : List (Str × D)}, RpP K H S vs fs → (fs.lookup g = none ∧ vs.lookup g = none) ∨ ∃ v d, fs.lookup g = some d ∧ vs.lookup g = some v ∧ Rp K H S v d
  | vs, [], h => by rw [h.inv_nil]; exact .inl ⟨rfl, rfl⟩
  | vs, (k, d) :: fs, h => by
    obtain ⟨v, r, rfl, h1, h2⟩ := h.inv_cons
    rw [List.lookup_cons, List.lookup_cons]
    cases hb : g == k with
    | true => exact .inr ⟨v, d, rfl, rfl, h1⟩
    | false => exact look_rp h2
/-- the fields of an instance of the class at C -/
def fldsD (C : Addr) : D → Option (List (Str × D))
  | .obj c fs => if c = C then some fs else none
  | _ => none
theorem fldsD_rp {K : PySem.W.Frag} {H : Hp} {S : Sto} {v : V} {d : D} {fs : List (Str × D)} (r : Rp K H S v d) (rs : RS K H S) (h : fldsD C (vw S d) = some fs) : ∃ a dx vs, v = .ref a ∧ H a = some (.ins C dx vs) ∧ RpP K H S vs fs := by
  cases e : vw S d with
  | obj c ys =>
    rw [e] at h
    have h : (if c = C then some ys else none) = some fs := h
    by_cases hc : c = C
    · rw [if_pos hc] at h
      cases h
      subst hc
      exact vw_obj r rs e
    · rw [if_neg hc] at h
      cases h
  | _ => rw [e] at h; cases h
def dFld (C : Addr) (g : Str) (te : DTE) : DTE := fun ρ S R => te ρ S fun d S1 => ∃ fs z, fldsD C (vw S1 d) = some fs ∧ fs.lookup g = some z ∧ R z S1
theorem de_fld {g : Str} (c : Cls X.K C) (na : NoAttr X.K C g) (he : DE X e te) (hb : attributeBase e g X.env (eval e X.env) = eval e X.env := by rfl) : DE X (.Attribute e g pos) (dFld C g te) := (pe_fld he hb).weak fun σ H Q ⟨ρ, S, R, sl, rs, h, n⟩ =>
  ⟨ρ, S, _, sl, rs, h, fun d S1 h1 v H1 rv rs1 f1 => by
    obtain ⟨fs, z, hf, hz, h1⟩ := h1
    obtain ⟨a, dx, vs, rfl, ha, l⟩ := fldsD_rp rv rs1 hf
    rcases look_rp (g := g) l with ⟨q, _⟩ | ⟨w, z', q1, q2, q3⟩
    · rw [q] at hz; cases hz
    · rw [q1] at hz
      cases hz
      exact ⟨a, C, dx, vs, w, rfl, ha, c, na, q2, (n.from f1).same h1 q3 rs1⟩⟩
def dProp (C : Addr) (sp : DSp) (te : DTE) : DTE := fun ρ S R => te ρ S fun d S1 => ∃ fs, fldsD C (vw S1 d) = some fs ∧ sp [d] S1 R DX0
theorem de_prop {g : Str} {q f : Addr} (c : Cls X.K C) (hp : PropOf X.K C g q f) (F : FnOk X.prog X.w X.K X.mg X.base CX0 k f fd ps (lP X.K sp)) (hr : Room (k + 1) X.A) (hb : Binds X.K fd ps []) (he : DE X e te)
    (hab : attributeBase e g X.env (eval e X.env) = eval e X.env := by rfl) : DE X (.Attribute e g pos) (dProp C sp te) := (pe_prop he c hp F hr hb .nil (pass0 (X := X.nox)) hab).weak fun σ H Q ⟨ρ, S, R, sl, rs, h, n⟩ =>
  ⟨ρ, S, _, sl, rs, h, fun d S1 h1 v H1 rv rs1 f1 => by
    obtain ⟨fs, hf, h1⟩ := h1
    obtain ⟨a, dx, vs, rfl, ha, l⟩ := fldsD_rp rv rs1 hf
    exact ⟨a, dx, vs, rfl, ha, [d], S1, R, DX0, .cons rv .nil, rs1, h1, n.from f1, .none⟩⟩
def dMeth (C : Addr) (m : Str) (sp : DSp) (to : DTE) (ta : DTA) : DTE := fun ρ S R => to ρ S fun d S1 => ∃ fs, fldsD C (vw S1 d) = some fs ∧ fs.lookup m = none ∧ ta ρ S1 fun ds S2 => sp (d :: ds) S2 R DX0
theorem lE_meth {σ : St} {H : Hp} {Q : VK} {E : XK} (h : lE X.K (dMeth C m sp to ta) σ H Q) : tMeth C m (lP X.K sp) [] E (lE X.K to) (lA X.K ta) σ H Q := by
  obtain ⟨ρ, S, R, sl, rs, h, n⟩ := h
  refine ⟨ρ, S, _, sl, rs, h, fun d S1 h1 v H1 rv rs1 f1 => ?_⟩
  obtain ⟨fs, hf, hl, h1⟩ := h1
  obtain ⟨a, dx, vs, rfl, ha, l⟩ := fldsD_rp rv rs1 hf
  refine ⟨a, dx, vs, rfl, ha, ?_, ρ, S1, _, sl.fr f1, rs1, h1, fun ds S2 h2 ws H2 lw rs2 f2 => ?_⟩
  · rcases look_rp (g := m) l with ⟨_, q⟩ | ⟨w, z', q1, _, _⟩
    · exact q
    · rw [q1] at hl; cases hl
  · show lP X.K sp (V.ref a :: (ws ++ [])) H2 Q E
    rw [List.append_nil]
    exact ⟨d :: ds, S2, R, DX0, .cons (rv.fr f2) lw, rs2, h2, n.from (f1.trans f2), .none⟩
end
section
variable {X : Cx} {e o : Expr} {te : DTE} {pos : Pos} {st : Stmt} {rest : List Stmt} {t u : DTS}
/-! ### statements -/
def dNext : DTS := fun E ρ S => E.nx ρ S
def dSeq (t u : DTS) : DTS := fun E ρ S => t { E with nx := u E } ρ S
theorem dss_nil : DSs X [] dNext := pss_nil.weak fun D σ H ⟨ρ, S, E, sl, rs, h, n⟩ => n.nx ρ S h σ H sl rs (Fr.refl H S)
theorem dss_cons (h1 : DS X st t) (h2 : DSs X rest u) : DSs X (st :: rest) (dSeq t u) := (pss_cons h1 h2).weak fun D σ H ⟨ρ, S, E, sl, rs, h, n⟩ =>
  ⟨ρ, S, { E with nx := u E }, sl, rs, h, fun ρ' S' h' σ' H' sl' rs' f => ⟨ρ', S', E, sl', rs', h', n.from f⟩, n.rt, n.bk, n.ct⟩
theorem dss_one (h1 : DS X st t) : DSs X [st] t := pss_one h1
def dNever : DTS := fun _ _ _ => False
theorem ds_never : DS X st dNever := ps_never.weak fun D σ H ⟨ρ, S, E, sl, rs, h, n⟩ => h
theorem dss_never {sts : List Stmt} : DSs X sts dNever := pss_never.weak fun D σ H ⟨ρ, S, E, sl, rs, h, n⟩ => h
theorem ds_pass : DS X (.Pass pos) dNext := ps_pass.weak fun D σ H ⟨ρ, S, E, sl, rs, h, n⟩ => n.nx ρ S h σ H sl rs (Fr.refl H S)
def dBreak : DTS := fun E ρ S => E.bk ρ S
def dCont : DTS := fun E ρ S => E.ct ρ S
theorem ds_break : DS X (.Break pos) dBreak := ps_break.weak fun D σ H ⟨ρ, S, E, sl, rs, h, n⟩ => n.bk ρ S h σ H sl rs (Fr.refl H S)
theorem ds_cont : DS X (.Continue pos) dCont := ps_continue.weak fun D σ H ⟨ρ, S, E, sl, rs, h, n⟩ => n.ct ρ S h σ H sl rs (Fr.refl H S)
def dSet (i : Nat) (te : DTE) : DTS := fun E ρ S => te ρ S fun d S1 => E.nx (ρ.set i (some d)) S1
theorem ds_set {i : Nat} {x : Str} {pos' : Pos} (hN : X.N.Nodup) (hi : X.N[i]? = some x) (hx : Loc X.env.scope x) (he : DE X e te) (hs : swapsWith e (some (.Name x pos')) pos.line X.env = pure false := by rfl) (hf : X.fn x = true ∨ X.env.scope.names.lookup x = some .local := by first | exact .inl rfl | exact .inr rfl | assumption) :
    DS X (.Assign [.Name x pos'] e pos) (dSet i te) := (ps_set hN hi hx he hs hf).weak fun D σ H ⟨ρ, S, E, sl, rs, h, n⟩ =>
  ⟨ρ, S, _, sl, rs, h, fun d S1 h1 v H1 rv rs1 f1 => n.nx _ S1 h1 _ H1 ((sl.fr f1).set i rv) rs1 f1⟩
def dExpr (te : DTE) : DTS := fun E ρ S => te ρ S fun _ S1 => E.nx ρ S1
theorem ds_expr (he : DE X e te) (hs : swapsWith e none pos.line X.env = pure false := by rfl) : DS X (.Expr e pos) (dExpr te) := (ps_expr he hs).weak fun D σ H ⟨ρ, S, E, sl, rs, h, n⟩ =>
  ⟨ρ, S, _, sl, rs, h, fun d S1 h1 v H1 rv rs1 f1 => n.nx _ S1 h1 _ H1 (sl.fr f1) rs1 f1⟩
def dRet (te : DTE) : DTS := fun E ρ S => te ρ S E.rt
theorem ds_ret (he : DE X e te) : DS X (.Return (some e) pos) (dRet te) := (ps_ret he).weak fun D σ H ⟨ρ, S, E, sl, rs, h, n⟩ => ⟨ρ, S, E.rt, sl, rs, h, n.rt⟩
def dRetN : DTS := fun E _ S => E.rt .non S
theorem ds_retN : DS X (.Return none pos) dRetN := ps_retN.weak fun D σ H ⟨ρ, S, E, sl, rs, h, n⟩ => n.rt.same h .non rs
def dIf (c : DTT) (t u : DTS) : DTS := fun E ρ S => c ρ S fun b S1 => if b = true then t E ρ S1 else u E ρ S1
theorem ds_if {c : Expr} {a b : List Stmt} {tc : DTT} (hc : DT X c tc) (ha : DSs X a t) (hb : DSs X b u) : DS X (.If c a b pos) (dIf tc t u) := (ps_if hc ha hb).weak fun D σ H ⟨ρ, S, E, sl, rs, h, n⟩ =>
  ⟨ρ, S, _, sl, rs, h, fun k S1 h1 H1 rs1 f1 => by
    cases k with
    | true => exact ⟨ρ, S1, E, sl.fr f1, rs1, h1, n.from f1⟩
    | false => exact ⟨ρ, S1, E, sl.fr f1, rs1, h1, n.from f1⟩⟩
/-- a, b = x, y -/
def dPar (i j : Nat) (ta : DTA) : DTS := fun E ρ S => ta ρ S fun ds S1 => ∃ d e, ds = [d, e] ∧ E.nx ((ρ.set i (some d)).set j (some e)) S1
theorem ds_par {i j : Nat} {x y : Str} {a b : Expr} {ta : DTA} {px py pt : Pos} {kt k2 pt2} (hc : X.calm = true) (hN : X.N.Nodup) (hi : X.N[i]? = some x) (hj : X.N[j]? = some y) (hij : i ≠ j)
    (hx : X.env.scope.names.lookup x = some .local) (hy : X.env.scope.names.lookup y = some .local) (ha : DA X [a, b] ta)
    (hw : swappedStores [.Tuple [.Name x px, .Name y py] kt pt] (.Tuple [a, b] k2 pt2) X.env = pure (some [x, y]))
    (hs : swapsWithSole [.Tuple [.Name x px, .Name y py] kt pt] (.Tuple [a, b] k2 pt2) pos.line X.env = pure false := by rfl) :
    DS X (.Assign [.Tuple [.Name x px, .Name y py] kt pt] (.Tuple [a, b] k2 pt2) pos) (dPar i j ta) := (ps_par hc hN hi hj hij hx hy ha hw hs).weak fun D σ H ⟨ρ, S, E, sl, rs, h, n⟩ =>
  ⟨ρ, S, _, sl, rs, h, fun ds S1 h1 vs H1 l rs1 f1 => by
    obtain ⟨d, e, rfl, h1⟩ := h1
    obtain ⟨v, r, rfl, r1, l1⟩ := l.inv_cons
    obtain ⟨w, r, rfl, r2, l2⟩ := l1.inv_cons
    cases l2.inv_nil
    exact ⟨v, w, rfl, n.nx _ S1 h1 _ H1 (((sl.fr f1).set i r1).set j r2) rs1 f1⟩⟩
/-- a cell's variable stands still from here on -/
def dStill (i : Nat) (t : DTS) : DTS := fun E ρ S => ∃ a ds, ρ[i]? = some (some (.ref a)) ∧ S a = some (.lst ds) ∧ t E (ρ.set i (some (.lst ds))) (S.del a)
theorem SL.put {K : PySem.W.Frag} {H : Hp} {S : Sto} {σ : St} {ρ : DSt} {v : V} {d : D} (i : Nat) (h : SL K H S σ ρ) (e : σ[i]? = some (some v)) (r : Rp K H S v d) : SL K H S σ (ρ.set i (some d)) := by
  have q := h.set i r
  have e2 : σ.set i (some v) = σ := by
    obtain ⟨hi, he⟩ := List.getElem?_eq_some_iff.mp e
    rw [← he]
    exact List.set_getElem_self hi
  rw [e2] at q
  exact q
theorem dss_still {sts : List Stmt} (i : Nat) (h : DSs X sts t) : DSs X sts (dStill i t) := PSs.weak h fun D σ H ⟨ρ, S, E, sl, rs, ⟨a, ds, hi, ha, h⟩, n⟩ => by
  obtain ⟨v, hv, rv⟩ := sl.2 i _ hi
  cases rv
  obtain ⟨vs, hq, l⟩ := rs a _ ha
  have sb := Sub.del S a
  exact ⟨_, _, E, (sl.fr sb.fr).put i hv (.lst hq del_same (l.fr sb.fr).1 (l.fr sb.fr).2), sb.rs rs, h, n.from sb.fr⟩
end
/-! ### a def -/
def startD (N : List Str) (ds : List D) : DSt := ds.map some ++ List.replicate (N.length - ds.length) none
theorem sl_start {K : PySem.W.Frag} {H : Hp} {S : Sto} {vs : List V} {ds : List D} (N : List Str) (l : RpL K H S vs ds) : SL K H S (L2.start N vs) (startD N ds) := by
  refine ⟨?_, fun i d e => ?_⟩
  · unfold L2.start startD
    rw [List.length_append, List.length_append, List.length_map, List.length_map, List.length_replicate, List.length_replicate, l.len]
  · unfold startD at e
    by_cases hi : i < ds.length
    · rw [List.getElem?_append_left (by simpa using hi), List.getElem?_map] at e
      cases q : ds[i]? with
      | none => rw [q] at e; cases e
      | some z =>
        rw [q] at e
        cases e
        obtain ⟨v, h1, h2⟩ := l.get q
        refine ⟨v, ?_, h2⟩
        unfold L2.start
        rw [List.getElem?_append_left (by rw [List.length_map, l.len]; exact hi), List.getElem?_map, h1]
        rfl
    · rw [List.getElem?_append_right (by simpa using hi), List.getElem?_replicate] at e
      split at e <;> cases e
/-- what is wanted of a def's body: what was made on the way may be forgotten -/
def dEnds (R : DK) : DEnds where
  nx := fun _ S' => ∃ S'', Sub S'' S' ∧ R .non S''
  rt := fun d S' => ∃ S'', Sub S'' S' ∧ R d S''
theorem ends_ok {K : PySem.W.Frag} {H : Hp} {S : Sto} {R : DK} {Q : VK} (n : Nxt K H S R Q) : NxE K H S (dEnds R) { nx := fun _ H' => Q .non H', rt := Q } :=
  ⟨fun ρ' S' ⟨S2, sb, h⟩ σ' H' sl rs f => n _ S2 h _ H' .non (sb.rs rs) (f.trans sb.fr), fun d S' ⟨S2, sb, h⟩ v H' rv rs f => n _ S2 h _ H' (rv.fr sb.fr) (sb.rs rs) (f.trans sb.fr), fun _ _ h => h.elim, fun _ _ h => h.elim⟩
theorem fn_ok {P : Program} {w : World} {K : PySem.W.Frag} {mg : Str → Option Value} {base : Heap} {x qual : Str} {st : Stmt} {f : Addr} {fd : FuncData} {N ps : List Str} {k : Nat} {sp : DSp} {t : DTS} (F : Fun K x qual st f fd) (Sc : FnScope N ps (defScope st))
    (len : ∀ ds S R RE, sp ds S R RE → ds.length = ps.length)
    (der : ∀ (X : Cx), X.prog = P → X.w = w → X.K = K → X.mg = mg → X.base = base → X.N = N → X.env.scope = defScope st → X.calm = true → Room k X.A → (∀ x, X.fn x = true) → X.stack = X.env :: X.outer → X.env.frame = some X.env.locals → DSs X (defBody st) t)
    (sem : ∀ ds S R RE, sp ds S R RE → t (dEnds R) (startD N ds) S) : FnOk P w K mg base CX0 (k + 1) f fd ps (lP K sp) := by
  refine F.ok Sc (fun vs H Q E h => ?_) (fun cdv A outer s H vs Q E hr h => ?_)
  · obtain ⟨ds, S, R, RE, l, _, h, _⟩ := h
    rw [l.len]
    exact len ds S R RE h
  · refine ⟨_, der _ rfl rfl rfl rfl rfl rfl rfl rfl hr (fun _ => rfl) rfl rfl, ?_⟩
    obtain ⟨ds, S, R, RE, l, rs, h, n, _⟩ := h
    exact ⟨startD N ds, S, dEnds R, sl_start N l, rs, sem ds S R RE h, ends_ok n⟩
end DL
end
section
set_option maxHeartbeats 4000000
/-! The data layer, part f: targets, what is walked, loops, comprehensions. -/
namespace DL
open PySem PySem.Spec L2
/-! ### targets: names, and tuples of targets -/
inductive Tgt where
  | nm (i : Nat) | tp (ts : List Tgt)
mutual
def gT (K : PySem.W.Frag) : Tgt → TG
  | .nm i => gName i
  | .tp ts => gTup K ts.length (gTs K ts)
def gTs (K : PySem.W.Frag) : List Tgt → TGs
  | [] => gNil
  | t :: ts => gCons (gT K t) (gTs K ts)
end
mutual
def slotsT : Tgt → List Nat
  | .nm i => [i]
  | .tp ts => slotsTs ts
def slotsTs : List Tgt → List Nat
  | [] => []
  | t :: ts => slotsT t ++ slotsTs ts
end
mutual
def bindD (S : Sto) : Tgt → D → DSt → Option DSt
  | .nm i, d, ρ => some (ρ.set i (some d))
  | .tp ts, d, ρ => match vw S d with
    | .tup ds => bindDs S ts ds ρ
    | .ktp ds => bindDs S ts ds ρ
    | _ => none
def bindDs (S : Sto) : List Tgt → List D → DSt → Option DSt
  | [], [], ρ => some ρ
  | t :: ts, d :: ds, ρ => (bindD S t d ρ).bind fun ρ1 => bindDs S ts ds ρ1
  | [], _ :: _, _ => none
  | _ :: _, [], _ => none
end
theorem wipe_get (σ : St) : ∀ (vs : List Nat) (j : Nat), (wipe σ vs)[j]? = if j ∈ vs then (if j < σ.length then some none else none) else σ[j]?
  | [], j => by simp [wipe]
  | v :: vs, j => by
    have hl := wipe_length σ vs
    unfold wipe
    by_cases e : v = j
    · subst e
      rw [if_pos List.mem_cons_self]
      by_cases hv : v < σ.length
      · rw [if_pos hv, List.getElem?_set_self (by rw [hl]; exact hv)]
      · rw [if_neg hv]
        exact List.getElem?_eq_none (by rw [List.length_set, hl]; omega)
    · rw [List.getElem?_set_ne e, wipe_get σ vs j]
      by_cases h : j ∈ vs
      · rw [if_pos h, if_pos (List.mem_cons_of_mem _ h)]
      · rw [if_neg h, if_neg (by simp only [List.mem_cons, not_or]; exact ⟨fun q => e q.symm, h⟩)]
theorem wipe_set {σ : St} {vs : List Nat} {i : Nat} {x : Option V} (h : i ∈ vs) : wipe (σ.set i x) vs = wipe σ vs := by
  apply List.ext_getElem?
  intro j
  rw [wipe_get, wipe_get, List.length_set]
  by_cases hj : j ∈ vs
  · rw [if_pos hj, if_pos hj]
  · rw [if_neg hj, if_neg hj, List.getElem?_set_ne (fun e : i = j => hj (by rw [← e]; exact h))]
section
variable {K : PySem.W.Frag} {H : Hp} {S : Sto}
theorem bindDs_length : ∀ {ts : List Tgt} {ds : List D} {ρ ρ' : DSt}, bindDs S ts ds ρ = some ρ' → ds.length = ts.length
  | [], [], _, _, _ => rfl
  | t :: ts, d :: ds, ρ, ρ', h => by
    rw [bindDs] at h
    cases e : bindD S t d ρ with
    | none => rw [e] at h; cases h
    | some ρ1 =>
      rw [e] at h
      have := bindDs_length (ρ := ρ1) h
      simp [this]
  | [], _ :: _, _, _, h => by rw [bindDs] at h; cases h
  | _ :: _, [], _, _, h => by rw [bindDs] at h; cases h
mutual
theorem bind_rp (rs : RS K H S) : ∀ (t : Tgt) {v : V} {d : D} {σ : St} {ρ ρ' : DSt}, bindD S t d ρ = some ρ' → Rp K H S v d → SL K H S σ ρ →
    ∃ σ', SL K H S σ' ρ' ∧ (∀ Q : St → Hp → Prop, Q σ' H → gT K t v σ H Q) ∧ ∀ vs, (∀ i ∈ slotsT t, i ∈ vs) → wipe σ' vs = wipe σ vs
  | .nm i, v, d, σ, ρ, ρ', h, r, sl => by
    rw [bindD] at h
    cases h
    refine ⟨σ.set i (some v), sl.set i r, fun Q q => ?_, fun vs hv => wipe_set (hv i (by simp [slotsT]))⟩
    rw [gT]
    exact q
  | .tp ts, v, d, σ, ρ, ρ', h, r, sl => by
    rw [bindD] at h
    split at h
    · rename_i ds e
      obtain ⟨_, a, vs, rfl, ha, _, l⟩ := vw_tup r rs e
      obtain ⟨σ', h1, h2, h3⟩ := binds_rp rs ts h l sl
      refine ⟨σ', h1, fun Q q => ?_, fun vs hv => h3 vs fun i hi => hv i (by rw [slotsT]; exact hi)⟩
      rw [gT]
      exact ⟨a, vs, rfl, SqT.of ha, by rw [l.len, bindDs_length h], h2 Q q⟩
    · rename_i ds e
      obtain ⟨a, vs, rfl, ha, l⟩ := vw_ktp r rs e
      obtain ⟨σ', h1, h2, h3⟩ := binds_rp rs ts h l sl
      refine ⟨σ', h1, fun Q q => ?_, fun vs hv => h3 vs fun i hi => hv i (by rw [slotsT]; exact hi)⟩
      rw [gT]
      exact ⟨a, vs, rfl, ha, by rw [l.len, bindDs_length h], h2 Q q⟩
    · cases h
theorem binds_rp (rs : RS K H S) : ∀ (ts : List Tgt) {vs : List V} {ds : List D} {σ : St} {ρ ρ' : DSt}, bindDs S ts ds ρ = some ρ' → RpL K H S vs ds → SL K H S σ ρ →
    ∃ σ', SL K H S σ' ρ' ∧ (∀ Q : St → Hp → Prop, Q σ' H → gTs K ts vs σ H Q) ∧ ∀ ws, (∀ i ∈ slotsTs ts, i ∈ ws) → wipe σ' ws = wipe σ ws
  | [], vs, [], σ, ρ, ρ', h, l, sl => by
    rw [bindDs] at h
    cases h
    refine ⟨σ, sl, fun Q q => ?_, fun _ _ => rfl⟩
    rw [gTs, l.inv_nil]
    exact ⟨rfl, q⟩
  | t :: ts, vs, d :: ds, σ, ρ, ρ', h, l, sl => by
    rw [bindDs] at h
    cases e : bindD S t d ρ with
    | none => rw [e] at h; cases h
    | some ρ1 =>
      rw [e] at h
      obtain ⟨v, r, rfl, r1, l1⟩ := l.inv_cons
      obtain ⟨σ1, a1, a2, a3⟩ := bind_rp rs t e r1 sl
      obtain ⟨σ2, b1, b2, b3⟩ := binds_rp rs ts (ρ := ρ1) h l1 a1
      refine ⟨σ2, b1, fun Q q => ?_, fun ws hw => ?_⟩
      · rw [gTs]
        exact ⟨v, r, rfl, a2 _ (b2 Q q)⟩
      · rw [b3 ws fun i hi => hw i (by rw [slotsTs]; exact List.mem_append_right _ hi), a3 ws fun i hi => hw i (by rw [slotsTs]; exact List.mem_append_left _ hi)]
  | [], _, _ :: _, _, _, _, h, _, _ => by rw [bindDs] at h; cases h
  | _ :: _, _, [], _, _, _, h, _, _ => by rw [bindDs] at h; cases h
end
end
/-! ### what is walked -/
structure WalkD (K : PySem.W.Frag) (J : It) (ds : List D) (G : Hp → Sto → Prop) : Prop where
  goes : ∀ i H S, i < ds.length → G H S → RS K H S → J.go i H
  stops : ∀ H S, G H S → RS K H S → J.stop ds.length H
  yields : ∀ i H S x H', i < ds.length → G H S → RS K H S → J.yld i H x H' → ∃ d, ds[i]? = some d ∧ Rp K H' S x d ∧ RS K H' S ∧ Fr H S H' S
abbrev DTI := DSt → Sto → (List D → (Sto → Prop) → Sto → Prop) → Prop
def lI (K : PySem.W.Frag) (t : DTI) : TI := fun σ H R => ∃ ρ S R', SL K H S σ ρ ∧ RS K H S ∧ t ρ S R' ∧
  ∀ ds chk S1, R' ds chk S1 → ∀ J H1, WalkD K J ds (fun H2 S2 => Fr H1 S1 H2 S2 ∧ chk S2) → RS K H1 S1 → Fr H S H1 S1 → R J H1
abbrev DI (X : Cx) (tg e : Expr) (t : DTI) : Prop := PI X tg e (lI X.K t)
theorem _root_.L2.PI.weak {X : Cx} {tg e : Expr} {t t' : TI} (h : PI X tg e t) (w : ∀ σ H R, t' σ H R → t σ H R) : PI X tg e t' := ⟨fun pins s σ H R I q => h.run pins s σ H R I (w σ H R q)⟩
/-- lists, tuples and texts, by what comes -/
def iAny (K : PySem.W.Frag) (te : TE) : TI := fun σ H R => te σ H fun v H1 => (∃ a, v = .ref a ∧ (∃ xs, SqL K H1 a xs) ∧ R (Itl K a) H1) ∨ (∃ a, v = .ref a ∧ (∃ xs, SqT K H1 a xs) ∧ R (Itt K a) H1) ∨ ∃ x, v = .str x ∧ R (Its x) H1
theorem pi_anyseq {X : Cx} {tg e : Expr} {te : TE} (he : PE X e te) : PI X tg e (iAny X.K te) := by
  refine ⟨fun pins s σ H R I h => ?_⟩
  refine thn (he.run pins s σ H _ I h) fun v s1 ⟨x, H1, I1, r1, q⟩ => ?_
  rcases q with ⟨a, rfl, ⟨xs, hx⟩, q⟩ | ⟨a, rfl, ⟨xs, hx⟩, q⟩ | ⟨z, rfl, q⟩
  · cases r1
    obtain ⟨its, _, pl, _⟩ := I1.list hx
    exact wpAny_pyIter_list pl.isList (pi_one (tk := s1.toks) I1 _ (turn_list a _) ⟨_, Heap.get?_push_size _ rfl, rfl, rfl⟩ q)
  · cases r1
    obtain ⟨its, _, pl, _⟩ := I1.tuple hx
    exact wpAny_pyIter_tuple (show s1.heap.IsTuple a its.toArray from pl) (pi_one (tk := s1.toks) I1 _ (turn_tuple a _) ⟨_, Heap.get?_push_size _ rfl, rfl, rfl⟩ q)
  · obtain ⟨t, rfl⟩ := r1
    cases ha : z.cps.all (· < 128)
    · exact wpAny_pyIter_wide ha (pi_one (tk := s1.toks) I1 _ (turn_str _ z t "str_iterator" (.inr rfl)) ⟨_, Heap.get?_push_size _ rfl, rfl, rfl⟩ q)
    · exact wpAny_pyIter_ascii ha (pi_one (tk := s1.toks) I1 _ (turn_str _ z t "str_ascii_iterator" (.inl rfl)) ⟨_, Heap.get?_push_size _ rfl, rfl, rfl⟩ q)
/-- the items of a sequence or a text -/
def itemsD : D → Option (List D)
  | .str x => some (x.cps.toList.map fun c => D.str ⟨#[c]⟩)
  | d => seqD d
section
variable {X : Cx} {tg e : Expr} {te : DTE} {ta : DTA} {p pos : Pos}
theorem walk_seq {K : PySem.W.Frag} {H1 : Hp} {S1 : Sto} {v : V} {d : D} {xs : List D} {R : It → Hp → Prop} (rv : Rp K H1 S1 v d) (rs1 : RS K H1 S1) (h : itemsD (vw S1 d) = some xs)
    (k : ∀ J, WalkD K J xs (fun H2 S2 => Fr H1 S1 H2 S2 ∧ vw S2 d = vw S1 d) → R J H1) :
    (∃ a, v = .ref a ∧ (∃ xs, SqL K H1 a xs) ∧ R (Itl K a) H1) ∨ (∃ a, v = .ref a ∧ (∃ xs, SqT K H1 a xs) ∧ R (Itt K a) H1) ∨ ∃ x, v = .str x ∧ R (Its x) H1 := by
  have lists : ∀ {a : Addr}, v = .ref a → (∀ H2 S2, Fr H1 S1 H2 S2 → vw S2 d = vw S1 d → RS K H2 S2 → ∃ vs, SqL K H2 a vs ∧ RpL K H2 S2 vs xs) → (∃ a, v = .ref a ∧ (∃ xs, SqL K H1 a xs) ∧ R (Itl K a) H1) := fun {a} e z => by
    obtain ⟨vs, h1, _⟩ := z H1 S1 (Fr.refl _ _) rfl rs1
    refine ⟨a, e, ⟨vs, h1⟩, k _ ⟨fun i H2 S2 hi ⟨g1, g2⟩ rs2 => ?_, fun H2 S2 ⟨g1, g2⟩ rs2 => ?_, fun i H2 S2 x H3 hi ⟨g1, g2⟩ rs2 y => ?_⟩⟩
    · obtain ⟨ws, q1, q2⟩ := z H2 S2 g1 g2 rs2
      exact ⟨ws, _, q1, List.getElem?_eq_getElem (by rw [q2.len]; exact hi)⟩
    · obtain ⟨ws, q1, q2⟩ := z H2 S2 g1 g2 rs2
      exact ⟨ws, q1, by rw [q2.len]; exact Nat.le_refl _⟩
    · obtain ⟨ws, q1, q2⟩ := z H2 S2 g1 g2 rs2
      obtain ⟨rfl, y⟩ := y
      obtain ⟨d', h1, h2⟩ := q2.get' (y ws q1)
      exact ⟨d', h1, h2, rs2, Fr.refl _ _⟩
  have tups : ∀ {a : Addr}, v = .ref a → (∀ H2 S2, Fr H1 S1 H2 S2 → vw S2 d = vw S1 d → RS K H2 S2 → ∃ vs, SqT K H2 a vs ∧ RpL K H2 S2 vs xs) → (∃ a, v = .ref a ∧ (∃ xs, SqT K H1 a xs) ∧ R (Itt K a) H1) := fun {a} e z => by
    obtain ⟨vs, h1, _⟩ := z H1 S1 (Fr.refl _ _) rfl rs1
    refine ⟨a, e, ⟨vs, h1⟩, k _ ⟨fun i H2 S2 hi ⟨g1, g2⟩ rs2 => ?_, fun H2 S2 ⟨g1, g2⟩ rs2 => ?_, fun i H2 S2 x H3 hi ⟨g1, g2⟩ rs2 y => ?_⟩⟩
    · obtain ⟨ws, q1, q2⟩ := z H2 S2 g1 g2 rs2
      exact ⟨ws, _, q1, List.getElem?_eq_getElem (by rw [q2.len]; exact hi)⟩
    · obtain ⟨ws, q1, q2⟩ := z H2 S2 g1 g2 rs2
      exact ⟨ws, q1, by rw [q2.len]; exact Nat.le_refl _⟩
    · obtain ⟨ws, q1, q2⟩ := z H2 S2 g1 g2 rs2
      obtain ⟨rfl, y⟩ := y
      obtain ⟨d', h1, h2⟩ := q2.get' (y ws q1)
      exact ⟨d', h1, h2, rs2, Fr.refl _ _⟩
  cases e : vw S1 d with
  | lst ys =>
    rw [e] at h
    cases h
    obtain ⟨a, vs, rfl, _, _⟩ := vw_lst rv rs1 e
    refine .inl (lists rfl fun H2 S2 f g rs2 => ?_)
    obtain ⟨b, ws, eb, q, l⟩ := vw_lst (rv.fr f) rs2 (g.trans e)
    cases eb
    exact ⟨ws, SqL.of q, l⟩
  | tup ys =>
    rw [e] at h
    cases h
    obtain ⟨_, a, vs, rfl, _, _, _⟩ := vw_tup rv rs1 e
    refine .inr (.inl (tups rfl fun H2 S2 f g rs2 => ?_))
    obtain ⟨_, b, ws, eb, q, _, l⟩ := vw_tup (rv.fr f) rs2 (g.trans e)
    cases eb
    exact ⟨ws, SqT.of q, l⟩
  | ktp ys =>
    rw [e] at h
    cases h
    obtain ⟨a, vs, rfl, _, _⟩ := vw_ktp rv rs1 e
    refine .inr (.inl (tups rfl fun H2 S2 f g rs2 => ?_))
    obtain ⟨b, ws, eb, q, l⟩ := vw_ktp (rv.fr f) rs2 (g.trans e)
    cases eb
    exact ⟨ws, q, l⟩
  | scr ys =>
    rw [e] at h
    cases h
    obtain ⟨a, rfl, _⟩ := vw_scr rv rs1 e
    refine .inl (lists rfl fun H2 S2 f g rs2 => ?_)
    obtain ⟨b, eb, q⟩ := vw_scr (rv.fr f) rs2 (g.trans e)
    cases eb
    exact ⟨_, q, RpL.ints ys⟩
  | str x =>
    rw [e] at h
    cases h
    cases vw_str rv rs1 e
    refine .inr (.inr ⟨x, rfl, k _ ⟨fun i H2 S2 hi _ _ => ?_, fun H2 S2 _ _ => ?_, fun i H2 S2 z H3 hi _ rs2 y => ?_⟩⟩)
    · show i < x.cps.size
      simpa using hi
    · show x.cps.size ≤ _
      simp
    · obtain ⟨rfl, c, hc, rfl⟩ := y
      exact ⟨_, by rw [List.getElem?_map, Array.getElem?_toList, hc]; rfl, .str _, rs2, Fr.refl _ _⟩
  | _ => rw [e] at h; cases h
def dSeqI (te : DTE) : DTI := fun ρ S R => te ρ S fun d S1 => ∃ xs, itemsD (vw S1 d) = some xs ∧ R xs (fun S2 => vw S2 d = vw S1 d) S1
theorem di_seq (he : DE X e te) : DI X tg e (dSeqI te) := (pi_anyseq he).weak fun σ H Q ⟨ρ, S, R, sl, rs, h, n⟩ =>
  ⟨ρ, S, _, sl, rs, h, fun d S1 h1 v H1 rv rs1 f1 => by
    obtain ⟨xs, hx, h1⟩ := h1
    exact walk_seq rv rs1 hx fun J w => n xs _ S1 h1 J H1 w rs1 f1⟩
theorem walk_rng {K : PySem.W.Frag} {lo : Int} {n : Nat} {G : Hp → Sto → Prop} : WalkD K (Itr lo n) ((List.range n).map fun (i : Nat) => D.int (lo + (i : Int))) G := by
  refine ⟨fun i H S hi _ _ => by show i < n; simpa using hi, fun H S _ _ => by show n ≤ _; simp, fun i H S x H' hi _ rs y => ?_⟩
  obtain ⟨rfl, rfl⟩ := y
  refine ⟨_, ?_, .int _, rs, Fr.refl _ _⟩
  rw [List.getElem?_map, List.getElem?_range (by simpa using hi)]
  rfl
def dRng1 (ta : DTA) : DTI := fun ρ S R => ta ρ S fun ds S1 => ∃ j : Int, ds = [.int j] ∧ (-(2 ^ 62) ≤ j ∧ j < 2 ^ 62) ∧ R ((List.range j.toNat).map fun (i : Nat) => D.int ((0 : Int) + (i : Int))) (fun _ => True) S1
theorem di_range1 {a : Expr} (hg : Gl X "range") (hm : X.mg "range" = none) (ha : DA X [a] ta) (hs : starEach [a] X.env = [(false, eval a X.env)] := by rfl) : DI X tg (.Call (.Name "range" p) [a] [] pos) (dRng1 ta) := (pi_range1 hg hm ha hs).weak fun σ H Q ⟨ρ, S, R, sl, rs, h, n⟩ =>
  ⟨ρ, S, _, sl, rs, h, fun ds S1 h1 vs H1 l rs1 f1 => by
    obtain ⟨j, rfl, hj, h1⟩ := h1
    obtain ⟨v, r, rfl, r1, l1⟩ := l.inv_cons
    cases l1.inv_nil
    cases r1
    exact ⟨j, rfl, hj.1, hj.2, n _ _ S1 h1 _ H1 walk_rng rs1 f1⟩⟩
def dRng2 (ta : DTA) : DTI := fun ρ S R => ta ρ S fun ds S1 => ∃ i j : Int, ds = [.int i, .int j] ∧ (-(2 ^ 62) ≤ i ∧ i < 2 ^ 62 ∧ -(2 ^ 62) ≤ j ∧ j < 2 ^ 62) ∧ R ((List.range (j - i).toNat).map fun (k : Nat) => D.int (i + (k : Int))) (fun _ => True) S1
theorem di_range2 {a b : Expr} (hg : Gl X "range") (hm : X.mg "range" = none) (ha : DA X [a, b] ta) (hs : starEach [a, b] X.env = [(false, eval a X.env), (false, eval b X.env)] := by rfl) (hs2 : starEach [b] X.env = [(false, eval b X.env)] := by rfl) :
    DI X tg (.Call (.Name "range" p) [a, b] [] pos) (dRng2 ta) := (pi_range2 hg hm ha hs hs2).weak fun σ H Q ⟨ρ, S, R, sl, rs, h, n⟩ =>
  ⟨ρ, S, _, sl, rs, h, fun ds S1 h1 vs H1 l rs1 f1 => by
    obtain ⟨i, j, rfl, hj, h1⟩ := h1
    obtain ⟨v, r, rfl, r1, l1⟩ := l.inv_cons
    obtain ⟨v2, r, rfl, r2, l2⟩ := l1.inv_cons
    cases l2.inv_nil
    cases r1
    cases r2
    exact ⟨i, j, rfl, hj, n _ _ S1 h1 _ H1 walk_rng rs1 f1⟩⟩
/-! ### loops -/
def forD (tg : Tgt) (tb : DTS) (chk : Sto → Prop) : List D → DEnds → DSt → Sto → Prop
  | [], E, ρ, S => chk S ∧ E.nx ρ S
  | d :: ds, E, ρ, S => chk S ∧ ∃ ρ1, bindD S tg d ρ = some ρ1 ∧ tb { E with nx := forD tg tb chk ds E, ct := forD tg tb chk ds E, bk := E.nx } ρ1 S
def dFor (ti : DTI) (tg : Tgt) (tb : DTS) : DTS := fun E ρ S => ti ρ S fun ds chk S1 => forD tg tb chk ds E ρ S1
theorem forD_chk {t : Tgt} {tb : DTS} {chk : Sto → Prop} {ds : List D} {E : DEnds} {ρ : DSt} {S : Sto} (h : forD t tb chk ds E ρ S) : chk S := by
  cases ds with
  | nil => exact h.1
  | cons d ds => exact h.1
theorem ds_for {iter : Expr} {body : List Stmt} {ti : DTI} {t : Tgt} {tb : DTS} (hp : PassesOwn (model X.prog X.w) X.A X.env X.xe) (hc : X.calm = true) (hi : DI X tg iter ti) (hg : PG X tg (gT X.K t)) (hb : DSs X body tb)
    (hs : ∀ x, foldedSetIterable iter X.env x = pure x := by intro _; rfl) : DS X (.For tg iter body [] pos) (dFor ti t tb) := (ps_for hp hc hi hg hb hs).weak fun D0 σ H ⟨ρ, S, E, sl, rs, h, n⟩ =>
  ⟨ρ, S, _, sl, rs, h, fun ds chk S1 h1 J H1 wk rs1 f1 => by
    refine ⟨fun i m σ H2 => m = ds.length - i ∧ i ≤ ds.length ∧ ∃ ρ2 S2, SL X.K H2 S2 σ ρ2 ∧ RS X.K H2 S2 ∧ Fr H1 S1 H2 S2 ∧ forD t tb chk (ds.drop i) E ρ2 S2, ⟨ds.length, rfl, Nat.zero_le _, ρ, S1, sl.fr f1, rs1, Fr.refl _ _, h1⟩, ?_⟩
    rintro i m σ2 H2 ⟨rfl, hi, ρ2, S2, sl2, rs2, f2, h2⟩
    have G : Fr H1 S1 H2 S2 ∧ chk S2 := ⟨f2, forD_chk h2⟩
    by_cases hlt : i < ds.length
    · refine .inr ⟨wk.goes i H2 S2 hlt G rs2, fun σ' H' => ∃ ρ' S', SL X.K H' S' σ' ρ' ∧ RS X.K H' S' ∧ Fr H1 S1 H' S' ∧ forD t tb chk (ds.drop (i + 1)) E ρ' S', fun σ' H' q => ⟨ds.length - (i + 1), by omega, rfl, hlt, q⟩, fun x H3 y => ?_⟩
      obtain ⟨d, hd, rd, rs3, f3⟩ := wk.yields i H2 S2 x H3 hlt G rs2 y
      have hdr : ds.drop i = d :: ds.drop (i + 1) := by
        obtain ⟨_, hv⟩ := List.getElem?_eq_some_iff.mp hd
        rw [List.drop_eq_getElem_cons hlt, hv]
      rw [hdr] at h2
      obtain ⟨_, ρ3, hb3, h3⟩ := h2
      obtain ⟨σ3, sl3, hq, _⟩ := bind_rp rs3 t hb3 rd (sl2.fr f3)
      refine hq _ ⟨ρ3, S2, _, sl3, rs3, h3, ?_, ?_, ?_, ?_⟩
      · exact fun ρ' S' q σ' H' a b c => ⟨ρ', S', a, b, (f2.trans f3).trans c, q⟩
      · exact n.rt.from ((f1.trans f2).trans f3)
      · exact n.nx.from ((f1.trans f2).trans f3)
      · exact fun ρ' S' q σ' H' a b c => ⟨ρ', S', a, b, (f2.trans f3).trans c, q⟩
    · have e : i = ds.length := by omega
      subst e
      rw [List.drop_length] at h2
      exact .inl ⟨wk.stops H2 S2 G rs2, n.nx ρ2 S2 h2.2 σ2 H2 sl2 rs2 (f1.trans f2)⟩⟩
/-- at most n turns -/
def whileD (c : DTT) (tb : DTS) : Nat → DEnds → DSt → Sto → Prop
  | 0, _, _, _ => False
  | n + 1, E, ρ, S => c ρ S fun b S1 => if b = true then tb { E with nx := whileD c tb n E, ct := whileD c tb n E, bk := E.nx } ρ S1 else E.nx ρ S1
def dWhile (c : DTT) (tb : DTS) : DTS := fun E ρ S => ∃ n, whileD c tb n E ρ S
theorem ds_while {c : Expr} {body : List Stmt} {tc : DTT} {tb : DTS} (hp : PassesOwn (model X.prog X.w) X.A X.env X.xe) (hc : DT X c tc) (hb : DSs X body tb) : DS X (.While c body [] pos) (dWhile tc tb) := (ps_while hp hc hb).weak fun D0 σ H ⟨ρ, S, E, sl, rs, ⟨m, h⟩, n⟩ => by
  refine ⟨fun m σ H2 => ∃ ρ2 S2, SL X.K H2 S2 σ ρ2 ∧ RS X.K H2 S2 ∧ Fr H S H2 S2 ∧ whileD tc tb m E ρ2 S2, ⟨m, ρ, S, sl, rs, Fr.refl _ _, h⟩, ?_⟩
  rintro m σ2 H2 ⟨ρ2, S2, sl2, rs2, f2, h2⟩
  cases m with
  | zero => exact h2.elim
  | succ m =>
    refine ⟨ρ2, S2, _, sl2, rs2, h2, fun b S3 h3 H3 rs3 f3 => ?_⟩
    cases b with
    | false => exact n.nx ρ2 S3 h3 σ2 H3 (sl2.fr f3) rs3 (f2.trans f3)
    | true =>
      refine ⟨fun σ' H' => ∃ ρ' S', SL X.K H' S' σ' ρ' ∧ RS X.K H' S' ∧ Fr H S H' S' ∧ whileD tc tb m E ρ' S', fun σ' H' q => ⟨m, Nat.lt_succ_self _, q⟩, ρ2, S3, _, sl2.fr f3, rs3, h3, ?_, ?_, ?_, ?_⟩
      · exact fun ρ' S' q σ' H' a b c => ⟨ρ', S', a, b, (f2.trans f3).trans c, q⟩
      · exact n.rt.from (f2.trans f3)
      · exact n.nx.from (f2.trans f3)
      · exact fun ρ' S' q σ' H' a b c => ⟨ρ', S', a, b, (f2.trans f3).trans c, q⟩
/-- targets = value -/
def dAsg (te : DTE) (t : Tgt) : DTS := fun E ρ S => te ρ S fun d S1 => ∃ ρ1, bindD S1 t d ρ = some ρ1 ∧ E.nx ρ1 S1
theorem ds_asg {t : Tgt} (he : DE X e te) (hg : PG X tg (gT X.K t)) (hs : swapsWithSole [tg] e pos.line X.env = pure false := by rfl) (hw : swappedStores [tg] e X.env = pure none := by rfl)
    (h1 : (assignEach [tg] X.env).map (·.2) = [assign tg X.env] := by rfl) : DS X (.Assign [tg] e pos) (dAsg te t) := (ps_asg he hg hs hw h1).weak fun D0 σ H ⟨ρ, S, E, sl, rs, h, n⟩ =>
  ⟨ρ, S, _, sl, rs, h, fun d S1 h1 v H1 rv rs1 f1 => by
    obtain ⟨ρ1, hb, h1⟩ := h1
    obtain ⟨σ1, sl1, hq, _⟩ := bind_rp rs1 t hb rv (sl.fr f1)
    exact hq _ (n.nx ρ1 S1 h1 σ1 H1 sl1 rs1 f1)⟩
/-! ### comprehensions -/
def wipeD (ρ : DSt) : List Nat → DSt
  | [] => ρ
  | v :: vs => (wipeD ρ vs).set v none
theorem sl_wipe {K : PySem.W.Frag} {H : Hp} {S : Sto} {σ : St} {ρ : DSt} (h : SL K H S σ ρ) : ∀ vs, SL K H S (wipe σ vs) (wipeD ρ vs)
  | [] => h
  | v :: vs => by
    unfold wipe wipeD
    exact (sl_wipe h vs).unset v
abbrev DTs (X : Cx) (ifs : List Expr) (t : DTT) : Prop := PTs X ifs (lT X.K t)
theorem _root_.L2.PTs.weak {ifs : List Expr} {t t' : TT} (h : PTs X ifs t) (w : ∀ σ H Q, t' σ H Q → t σ H Q) : PTs X ifs t' := ⟨fun pins s σ H Q I q => h.run pins s σ H Q I (w σ H Q q)⟩
def dYes : DTT := fun _ S R => R true S
theorem dts_nil : DTs X [] dYes := pts_nil.weak fun σ H Q ⟨ρ, S, R, sl, rs, h, n⟩ => n true S h H rs (Fr.refl _ _)
theorem dts_one {c : Expr} {t : DTT} (h : DT X c t) : DTs X [c] t := pts_one h
/-- the turns of a comprehension: the list made so far stands at a -/
def compD (a : Addr) (tg : Tgt) (tt : DTT) (te : DTE) (chk : Sto → Prop) : List D → List D → DSt → Sto → (List D → Sto → Prop) → Prop
  | [], acc, _, S, R => (S a = some (.lst acc) ∧ chk S) ∧ R acc S
  | d :: ds, acc, ρ, S, R => (S a = some (.lst acc) ∧ chk S) ∧ ∃ ρ1, bindD S tg d ρ = some ρ1 ∧ tt ρ1 S fun b S2 => if b = true then te ρ1 S2 fun e S3 => (S3 a = some (.lst acc) ∧ acc.length < sizeLine) ∧ compD a tg tt te chk ds (acc ++ [e]) ρ (S3.put a (.lst (acc ++ [e]))) R else compD a tg tt te chk ds acc ρ S2 R
theorem compD_now {a : Addr} {t : Tgt} {tt : DTT} {te : DTE} {chk : Sto → Prop} {ds acc : List D} {ρ : DSt} {S : Sto} {R : List D → Sto → Prop} (h : compD a t tt te chk ds acc ρ S R) : S a = some (.lst acc) ∧ chk S := by
  cases ds with
  | nil => exact h.1
  | cons d ds => exact h.1
def dLc (ti : DTI) (tg : Tgt) (tt : DTT) (te : DTE) (vs : List Nat) : DTE := fun ρ S R => ti ρ S fun ds chk S1 => ∀ a, S1 a = none → compD a tg tt te chk ds [] (wipeD ρ vs) (S1.put a (.lst [])) fun acc S2 => R (.lst acc) (S2.del a)
/-- .. that may change -/
def dLcM (ti : DTI) (tg : Tgt) (tt : DTT) (te : DTE) (vs : List Nat) : DTE := fun ρ S R => ti ρ S fun ds chk S1 => ∀ a, S1 a = none → compD a tg tt te chk ds [] (wipeD ρ vs) (S1.put a (.lst [])) fun _ S2 => R (.ref a) S2
theorem lc_lift {X : Cx} {ti : DTI} {t : Tgt} {tt : DTT} {te : DTE} {vs : List Nat} {σ : St} {H : Hp} {Q : VK} (hv : ∀ i ∈ slotsT t, i ∈ vs) {ρ : DSt} {S : Sto} (P : Addr → List D → Sto → Prop) (sl : SL X.K H S σ ρ) (rs : RS X.K H S)
    (h : ti ρ S fun ds chk S1 => ∀ a, S1 a = none → compD a t tt te chk ds [] (wipeD ρ vs) (S1.put a (.lst [])) (P a))
    (fin : ∀ a acc S2 H2, P a acc S2 → S2 a = some (.lst acc) → RS X.K H2 S2 → Fr H S H2 S2 → Q (.ref a) H2) : tLc (lI X.K ti) (gT X.K t) (lT X.K tt) (lE X.K te) vs σ H Q := by
  refine ⟨ρ, S, _, sl, rs, h, fun ds chk S1 h1 J H1 wk rs1 f1 A hA => ?_⟩
  have f2 : Fr H1 S1 (upd H1 A (.lst [])) (S1.put A (.lst [])) := Fr.newc hA
  have rs2 : RS X.K (upd H1 A (.lst [])) (S1.put A (.lst [])) := rs1.put f2 ⟨[], upd_same, .nil⟩
  refine ⟨fun i m H2 => m = ds.length - i ∧ i ≤ ds.length ∧ ∃ acc S2, RS X.K H2 S2 ∧ Fr H1 S1 H2 S2 ∧ compD A t tt te chk (ds.drop i) acc (wipeD ρ vs) S2 (P A), ⟨ds.length, rfl, Nat.zero_le _, [], _, rs2, f2, h1 A (rs1.free hA)⟩, ?_⟩
  rintro i m H2 ⟨rfl, hi, acc, S2, rs2, f2, h2⟩
  have G : Fr H1 S1 H2 S2 ∧ chk S2 := ⟨f2, (compD_now h2).2⟩
  by_cases hlt : i < ds.length
  · refine .inr ⟨wk.goes i H2 S2 hlt G rs2, fun H' => ∃ acc S', RS X.K H' S' ∧ Fr H1 S1 H' S' ∧ compD A t tt te chk (ds.drop (i + 1)) acc (wipeD ρ vs) S' (P A), fun H' q => ⟨ds.length - (i + 1), by omega, rfl, hlt, q⟩, fun x H3 y => ?_⟩
    obtain ⟨d, hd, rd, rs3, f3⟩ := wk.yields i H2 S2 x H3 hlt G rs2 y
    have hdr : ds.drop i = d :: ds.drop (i + 1) := by
      obtain ⟨_, hv⟩ := List.getElem?_eq_some_iff.mp hd
      rw [List.drop_eq_getElem_cons hlt, hv]
    rw [hdr] at h2
    obtain ⟨_, ρ3, hb3, h3⟩ := h2
    obtain ⟨σ3, sl3, hq, hw⟩ := bind_rp rs3 t hb3 rd (sl_wipe (sl.fr ((f1.trans f2).trans f3)) vs)
    refine hq _ ⟨?_, ρ3, S2, _, sl3, rs3, h3, fun b S4 h4 H4 rs4 f4 => ?_⟩
    · rw [hw vs hv]
      clear hw hq sl3 hb3 h3
      apply List.ext_getElem?
      intro j
      rw [wipe_get, wipe_get, wipe_length]
      split <;> rfl
    · cases b with
      | false => exact ⟨acc, S4, rs4, (f2.trans f3).trans f4, h4⟩
      | true =>
        refine ⟨ρ3, S4, _, sl3.fr f4, rs4, h4, fun z S5 h5 v H5 rv rs5 f5 => ?_⟩
        obtain ⟨⟨h6, h7⟩, h8⟩ := h5
        obtain ⟨ws, hw5, l5⟩ := rs5 A _ h6
        refine ⟨ws, hw5, by rw [l5.len]; exact h7, acc ++ [z], _, ?_, ?_, h8⟩
        · have fc : Fr H5 S5 (upd H5 A (.lst (ws ++ [v]))) (S5.put A (.lst (acc ++ [z]))) := Fr.cell h6
          exact rs5.put fc ⟨_, upd_same, (l5.fr fc).snoc (rv.fr fc)⟩
        · exact (((f2.trans f3).trans f4).trans f5).trans (Fr.cell h6)
  · have e : i = ds.length := by omega
    subst e
    rw [List.drop_length] at h2
    exact .inl ⟨wk.stops H2 S2 G rs2, fin A acc S2 H2 h2.2 h2.1.1 rs2 (f1.trans f2)⟩
theorem lE_lc {ti : DTI} {t : Tgt} {tt : DTT} {te : DTE} {vs : List Nat} (hv : ∀ i ∈ slotsT t, i ∈ vs) {σ : St} {H : Hp} {Q : VK} (h : lE X.K (dLc ti t tt te vs) σ H Q) : tLc (lI X.K ti) (gT X.K t) (lT X.K tt) (lE X.K te) vs σ H Q := by
  obtain ⟨ρ, S, R, sl, rs, h, n⟩ := h
  refine lc_lift hv (fun a acc S2 => R (.lst acc) (S2.del a)) sl rs h fun a acc S2 H2 p ha rs2 f2 => ?_
  exact frz_nxt n rs2 f2 ha p
theorem lE_lcM {ti : DTI} {t : Tgt} {tt : DTT} {te : DTE} {vs : List Nat} (hv : ∀ i ∈ slotsT t, i ∈ vs) {σ : St} {H : Hp} {Q : VK} (h : lE X.K (dLcM ti t tt te vs) σ H Q) : tLc (lI X.K ti) (gT X.K t) (lT X.K tt) (lE X.K te) vs σ H Q := by
  obtain ⟨ρ, S, R, sl, rs, h, n⟩ := h
  refine lc_lift hv (fun a acc S2 => R (.ref a) S2) sl rs h fun a acc S2 H2 p ha rs2 f2 => ?_
  exact n _ S2 p _ H2 (.ref a) rs2 f2
variable {elt iter : Expr} {ifs : List Expr} {scope : Scope} {own : List (Str × Nat)} {ti : DTI} {t : Tgt} {tt : DTT} {te2 : DTE}
theorem de_lc (hc : X.calm = true) (hN : X.N.Nodup) (hi : DI X tg iter ti) (ok : BlkOk X.N X.env.scope scope own) (hv : ∀ i ∈ slotsT t, i ∈ own.map (·.2))
    (hg : ∀ (s : Shared) (H : Hp) (C : Addr) (cl : List (Str × Addr)) (fp : List Addr), PG (X.blk s H scope (compEnvC scope cl C X.env) fp) tg (gT X.K t)) (ht : ∀ (s : Shared) (H : Hp) (C : Addr) (cl : List (Str × Addr)) (fp : List Addr), DTs (X.blk s H scope (compEnvC scope cl C X.env) fp) ifs tt)
    (he : ∀ (s : Shared) (H : Hp) (C : Addr) (cl : List (Str × Addr)) (fp : List Addr), DE (X.blk s H scope (compEnvC scope cl C X.env) fp) elt te2) (hs : ∀ x, foldedSetIterable iter X.env x = pure x := by intro _; rfl) :
    DE X (.ListComp elt [⟨tg, iter, ifs, 0⟩] scope pos) (dLc ti t tt te2 (own.map (·.2))) := (pe_lc hc hN hi ok hg ht he hs).weak fun _ _ _ => lE_lc hv
theorem de_lcM (hc : X.calm = true) (hN : X.N.Nodup) (hi : DI X tg iter ti) (ok : BlkOk X.N X.env.scope scope own) (hv : ∀ i ∈ slotsT t, i ∈ own.map (·.2))
    (hg : ∀ (s : Shared) (H : Hp) (C : Addr) (cl : List (Str × Addr)) (fp : List Addr), PG (X.blk s H scope (compEnvC scope cl C X.env) fp) tg (gT X.K t)) (ht : ∀ (s : Shared) (H : Hp) (C : Addr) (cl : List (Str × Addr)) (fp : List Addr), DTs (X.blk s H scope (compEnvC scope cl C X.env) fp) ifs tt)
    (he : ∀ (s : Shared) (H : Hp) (C : Addr) (cl : List (Str × Addr)) (fp : List Addr), DE (X.blk s H scope (compEnvC scope cl C X.env) fp) elt te2) (hs : ∀ x, foldedSetIterable iter X.env x = pure x := by intro _; rfl) :
    DE X (.ListComp elt [⟨tg, iter, ifs, 0⟩] scope pos) (dLcM ti t tt te2 (own.map (·.2))) := (pe_lc hc hN hi ok hg ht he hs).weak fun _ _ _ => lE_lcM hv
/-- name = [..] -/
theorem ds_setLc {i : Nat} {y : Str} {py spos : Pos} (hc : X.calm = true) (hN : X.N.Nodup) (hy : X.N[i]? = some y) (hyl : X.env.scope.names.lookup y = some .local)
    (hsw : swapsWith (.ListComp elt [⟨tg, iter, ifs, 0⟩] scope pos) (some (.Name y py)) spos.line X.env = pure true) (hi : DI X tg iter ti) (ok : BlkOk X.N X.env.scope scope own) (hv : ∀ i ∈ slotsT t, i ∈ own.map (·.2))
    (hg : ∀ (s : Shared) (H : Hp) (C : Addr) (cl : List (Str × Addr)) (fp : List Addr), PG (X.blk s H scope (compEnvC scope cl C X.env) fp) tg (gT X.K t)) (ht : ∀ (s : Shared) (H : Hp) (C : Addr) (cl : List (Str × Addr)) (fp : List Addr), DTs (X.blk s H scope (compEnvC scope cl C X.env) fp) ifs tt)
    (he : ∀ (s : Shared) (H : Hp) (C : Addr) (cl : List (Str × Addr)) (fp : List Addr), DE (X.blk s H scope (compEnvC scope cl C X.env) fp) elt te2) (hs : ∀ x, foldedSetIterable iter X.env x = pure x := by intro _; rfl) :
    DS X (.Assign [.Name y py] (.ListComp elt [⟨tg, iter, ifs, 0⟩] scope pos) spos) (dSet i (dLc ti t tt te2 (own.map (·.2)))) := (ps_setLc hc hN hy hyl hsw hi ok hg ht he hs).weak fun D0 σ H ⟨ρ, S, E, sl, rs, h, n⟩ =>
  lE_lc hv ⟨ρ, S, _, sl, rs, h, fun d S1 h1 v H1 rv rs1 f1 => n.nx _ S1 h1 _ H1 ((sl.fr f1).set i rv) rs1 f1⟩
theorem ds_setLcM {i : Nat} {y : Str} {py spos : Pos} (hc : X.calm = true) (hN : X.N.Nodup) (hy : X.N[i]? = some y) (hyl : X.env.scope.names.lookup y = some .local)
    (hsw : swapsWith (.ListComp elt [⟨tg, iter, ifs, 0⟩] scope pos) (some (.Name y py)) spos.line X.env = pure true) (hi : DI X tg iter ti) (ok : BlkOk X.N X.env.scope scope own) (hv : ∀ i ∈ slotsT t, i ∈ own.map (·.2))
    (hg : ∀ (s : Shared) (H : Hp) (C : Addr) (cl : List (Str × Addr)) (fp : List Addr), PG (X.blk s H scope (compEnvC scope cl C X.env) fp) tg (gT X.K t)) (ht : ∀ (s : Shared) (H : Hp) (C : Addr) (cl : List (Str × Addr)) (fp : List Addr), DTs (X.blk s H scope (compEnvC scope cl C X.env) fp) ifs tt)
    (he : ∀ (s : Shared) (H : Hp) (C : Addr) (cl : List (Str × Addr)) (fp : List Addr), DE (X.blk s H scope (compEnvC scope cl C X.env) fp) elt te2) (hs : ∀ x, foldedSetIterable iter X.env x = pure x := by intro _; rfl) :
    DS X (.Assign [.Name y py] (.ListComp elt [⟨tg, iter, ifs, 0⟩] scope pos) spos) (dSet i (dLcM ti t tt te2 (own.map (·.2)))) := (ps_setLc hc hN hy hyl hsw hi ok hg ht he hs).weak fun D0 σ H ⟨ρ, S, E, sl, rs, h, n⟩ =>
  lE_lcM hv ⟨ρ, S, _, sl, rs, h, fun d S1 h1 v H1 rv rs1 f1 => n.nx _ S1 h1 _ H1 ((sl.fr f1).set i rv) rs1 f1⟩
end
end DL
end
section
set_option maxHeartbeats 4000000
/-! The data layer, part g: built-in functions and methods. -/
namespace DL
open PySem PySem.Spec L2
section
variable {X : Cx}
theorem rl1 {K : PySem.W.Frag} {H : Hp} {S : Sto} {vs : List V} {d : D} (l : RpL K H S vs [d]) : ∃ v, vs = [v] ∧ Rp K H S v d := by
  obtain ⟨v, r, rfl, r1, l1⟩ := l.inv_cons
  cases l1.inv_nil
  exact ⟨v, rfl, r1⟩
theorem rl2 {K : PySem.W.Frag} {H : Hp} {S : Sto} {vs : List V} {d e : D} (l : RpL K H S vs [d, e]) : ∃ v u, vs = [v, u] ∧ Rp K H S v d ∧ Rp K H S u e := by
  obtain ⟨v, r, rfl, r1, l1⟩ := l.inv_cons
  obtain ⟨u, rfl, r2⟩ := rl1 l1
  exact ⟨v, u, rfl, r1, r2⟩
/-! ### len -/
def lenD : D → Option Nat
  | .lst xs => some xs.length
  | .tup xs => some xs.length
  | .ktp xs => some xs.length
  | .scr xs => some xs.length
  | .str x => if x.length ≤ sizeLine then some x.length else none
  | .dK kvs => some kvs.length
  | _ => none
def dLen : DCl := fun ds S R => ∃ d n, ds = [d] ∧ lenD (vw S d) = some n ∧ R (.int n) S
theorem cd_len : CallR X (.builtin "len") (lC X.K dLen) := by
  intro pins s σ H xs us Q I r h
  obtain ⟨ds, S, R, l, rs, ⟨d, m, rfl, hm, h⟩, n⟩ := h
  obtain ⟨v, rfl, rv⟩ := rl1 l
  have fin : Q (.int m) H := n.same h (.int _) rs
  cases e : vw S d with
  | lst ys =>
    rw [e] at hm
    cases hm
    obtain ⟨a, vs, rfl, q, l⟩ := vw_lst rv rs e
    exact call_len_seq pins s σ H _ us Q I r ⟨a, vs, rfl, .inl (SqL.of q), by rw [l.len]; exact fin⟩
  | tup ys =>
    rw [e] at hm
    cases hm
    obtain ⟨_, a, vs, rfl, q, _, l⟩ := vw_tup rv rs e
    exact call_len_seq pins s σ H _ us Q I r ⟨a, vs, rfl, .inr (SqT.of q), by rw [l.len]; exact fin⟩
  | ktp ys =>
    rw [e] at hm
    cases hm
    obtain ⟨a, vs, rfl, q, l⟩ := vw_ktp rv rs e
    exact call_len_seq pins s σ H _ us Q I r ⟨a, vs, rfl, .inr q, by rw [l.len]; exact fin⟩
  | scr ys =>
    rw [e] at hm
    cases hm
    obtain ⟨a, rfl, q⟩ := vw_scr rv rs e
    exact call_len_seq pins s σ H _ us Q I r ⟨a, _, rfl, .inl q, by rw [List.length_map]; exact fin⟩
  | str x =>
    rw [e] at hm
    cases vw_str rv rs e
    simp only [lenD] at hm
    split at hm
    · rename_i hz
      cases hm
      exact call_len_str pins s σ H _ us Q I r ⟨x, rfl, hz, fin⟩
    · cases hm
  | dK kvs =>
    rw [e] at hm
    cases hm
    obtain ⟨a, vs, rfl, q, l⟩ := vw_dK rv rs e
    exact call_lenD pins s σ H _ us Q I r ⟨a, vs, rfl, q, by rw [l.len]; exact fin⟩
  | _ => rw [e] at hm; cases hm
/-! ### numbers -/
def dInt : DCl := fun ds S R => ∃ d, ds = [d] ∧ match vw S d with
  | .int i => R (.int i) S
  | .bl b => R (.int (if b then 1 else 0)) S
  | .str x => x.length ≤ 640 ∧ ∃ n, PySem.intText? x = some n ∧ R (.int n) S
  | _ => False
theorem cd_int : CallR X (.type "int") (lC X.K dInt) := by
  intro pins s σ H xs us Q I r h
  obtain ⟨ds, S, R, l, rs, ⟨d, rfl, h⟩, n⟩ := h
  obtain ⟨v, rfl, rv⟩ := rl1 l
  split at h
  · rename_i i e
    cases vw_int rv rs e
    exact call_int1 pins s σ H _ us Q I r (.inl ⟨i, rfl, n.same h (.int _) rs⟩)
  · rename_i b e
    cases vw_bl rv rs e
    exact call_int1 pins s σ H _ us Q I r (.inr ⟨b, rfl, n.same h (.int _) rs⟩)
  · rename_i x e
    cases vw_str rv rs e
    obtain ⟨hz, m, hm, h⟩ := h
    exact call_int_str pins s σ H _ us Q I r ⟨x, m, rfl, hm, hz, n.same h (.int _) rs⟩
  · exact h.elim
def dAbs : DCl := fun ds S R => ∃ i, ds = [.int i] ∧ R (.int (if i < 0 then -i else i)) S
theorem cd_abs : CallR X (.builtin "abs") (lC X.K dAbs) := by
  intro pins s σ H xs us Q I r h
  obtain ⟨ds, S, R, l, rs, ⟨i, rfl, h⟩, n⟩ := h
  obtain ⟨v, rfl, rv⟩ := rl1 l
  cases rv
  exact call_abs pins s σ H _ us Q I r ⟨i, rfl, n.same h (.int _) rs⟩
def dMax2 : DCl := fun ds S R => ∃ i j, ds = [.int i, .int j] ∧ R (.int (if j > i then j else i)) S
theorem cd_max2 (hc : X.calm = true) : CallR X (.builtin "max") (lC X.K dMax2) := by
  intro pins s σ H xs us Q I r h
  obtain ⟨ds, S, R, l, rs, ⟨i, j, rfl, h⟩, n⟩ := h
  obtain ⟨v, u, rfl, rv, ru⟩ := rl2 l
  cases rv
  cases ru
  exact call_max2 hc pins s σ H _ us Q I r ⟨i, j, rfl, n.same h (.int _) rs⟩
def dMin2 : DCl := fun ds S R => ∃ i j, ds = [.int i, .int j] ∧ R (.int (if j < i then j else i)) S
theorem cd_min2 (hc : X.calm = true) : CallR X (.builtin "min") (lC X.K dMin2) := by
  intro pins s σ H xs us Q I r h
  obtain ⟨ds, S, R, l, rs, ⟨i, j, rfl, h⟩, n⟩ := h
  obtain ⟨v, u, rfl, rv, ru⟩ := rl2 l
  cases rv
  cases ru
  exact call_min2 hc pins s σ H _ us Q I r ⟨i, j, rfl, n.same h (.int _) rs⟩
/-! ### all, any, sum of what a comprehension made -/
def blsD : List D → Option (List Bool)
  | [] => some []
  | .bl b :: ds => (blsD ds).map (b :: ·)
  | _ :: _ => none
theorem blsD_rp {K : PySem.W.Frag} {H : Hp} {S : Sto} : ∀ {vs : List V} {ds : List D} {bs : List Bool}, RpL K H S vs ds → blsD ds = some bs → vs = bs.map V.bl
  | vs, [], bs, l, h => by cases h; exact l.inv_nil
  | vs, d :: ds, bs, l, h => by
    obtain ⟨v, t, rfl, r1, l1⟩ := l.inv_cons
    cases r1 with
    | bl b =>
      unfold blsD at h
      cases e : blsD ds with
      | none => rw [e] at h; cases h
      | some cs =>
        rw [e] at h
        cases h
        rw [blsD_rp l1 e]
        rfl
    | _ => cases h
def dAll : DCl := fun ds S R => ∃ d xs bs, ds = [d] ∧ vw S d = .lst xs ∧ blsD xs = some bs ∧ R (.bl (bs.all id)) S
theorem cd_all (hc : X.calm = true) : CallR X (.builtin "all") (lC X.K dAll) := by
  intro pins s σ H xs us Q I r h
  obtain ⟨ds, S, R, l, rs, ⟨d, ys, bs, rfl, e, hb, h⟩, n⟩ := h
  obtain ⟨v, rfl, rv⟩ := rl1 l
  obtain ⟨a, vs, rfl, q, l⟩ := vw_lst rv rs e
  have := blsD_rp l hb
  subst this
  exact cr_all hc pins s σ H _ us Q I r ⟨a, bs, rfl, SqL.of q, n.same h (.bl _) rs⟩
def dAny : DCl := fun ds S R => ∃ d xs bs, ds = [d] ∧ vw S d = .lst xs ∧ blsD xs = some bs ∧ R (.bl (bs.any id)) S
theorem cd_any (hc : X.calm = true) : CallR X (.builtin "any") (lC X.K dAny) := by
  intro pins s σ H xs us Q I r h
  obtain ⟨ds, S, R, l, rs, ⟨d, ys, bs, rfl, e, hb, h⟩, n⟩ := h
  obtain ⟨v, rfl, rv⟩ := rl1 l
  obtain ⟨a, vs, rfl, q, l⟩ := vw_lst rv rs e
  have := blsD_rp l hb
  subst this
  exact cr_any hc pins s σ H _ us Q I r ⟨a, bs, rfl, SqL.of q, n.same h (.bl _) rs⟩
/-! ### list(..), tuple(..), str(..) -/
def dListOf : DCl := fun ds S R => ∃ d xs, ds = [d] ∧ seqD (vw S d) = some xs ∧ R (.lst xs) S
theorem cd_list : CallR X (.type "list") (lC X.K dListOf) := by
  intro pins s σ H xs us Q I r h
  obtain ⟨ds, S, R, l, rs, ⟨d, ys, rfl, hy, h⟩, n⟩ := h
  obtain ⟨v, rfl, rv⟩ := rl1 l
  obtain ⟨a, vs, rfl, q, l⟩ := seqD_rp rv rs hy
  exact call_list_of pins s σ H _ us Q I r ⟨a, vs, rfl, q.symm, fun p hp => n.new h hp rs (rp_lst hp rs l)⟩
/-- .. that will change -/
def dListOfM : DCl := fun ds S R => ∃ d xs, ds = [d] ∧ seqD (vw S d) = some xs ∧ ∀ a, S a = none → R (.ref a) (S.put a (.lst xs))
theorem cd_listM : CallR X (.type "list") (lC X.K dListOfM) := by
  intro pins s σ H xs us Q I r h
  obtain ⟨ds, S, R, l, rs, ⟨d, ys, rfl, hy, h⟩, n⟩ := h
  obtain ⟨v, rfl, rv⟩ := rl1 l
  obtain ⟨a, vs, rfl, q, l⟩ := seqD_rp rv rs hy
  exact call_list_of pins s σ H _ us Q I r ⟨a, vs, rfl, q.symm, fun p hp => n.newc rs hp (h p (rs.free hp)) ⟨vs, upd_same, l.fr (Fr.newc hp)⟩⟩
def dTupOf : DCl := fun ds S R => ∃ d, ds = [d] ∧ match vw S d with
  | .lst xs => R (.tup xs) S
  | .scr ns => R (.tup (ns.map D.int)) S
  | .tup xs => R (.tup xs) S
  | _ => False
theorem cd_tuple : CallR X (.type "tuple") (lC X.K dTupOf) := by
  intro pins s σ H xs us Q I r h
  obtain ⟨ds, S, R, l, rs, ⟨d, rfl, h⟩, n⟩ := h
  obtain ⟨v, rfl, rv⟩ := rl1 l
  split at h
  · rename_i ys e
    obtain ⟨a, vs, rfl, q, l⟩ := vw_lst rv rs e
    exact call_tuple_of pins s σ H _ us Q I r ⟨a, vs, rfl, .inl ⟨SqL.of q, fun p hp => n.new h hp rs (rp_tup hp rs l)⟩⟩
  · rename_i ys e
    obtain ⟨a, rfl, q⟩ := vw_scr rv rs e
    exact call_tuple_of pins s σ H _ us Q I r ⟨a, _, rfl, .inl ⟨q, fun p hp => n.new h hp rs (rp_tup hp rs (RpL.ints ys))⟩⟩
  · rename_i ys e
    obtain ⟨rfl, a, vs, rfl, q, _, l⟩ := vw_tup rv rs e
    exact call_tuple_of pins s σ H _ us Q I r ⟨a, vs, rfl, .inr ⟨SqT.of q, n.same h rv rs⟩⟩
  · exact h.elim
def dStrOf : DCl := fun ds S R => ∃ i : Int, ds = [.int i] ∧ i.natAbs.log2 < 1920 ∧ R (.str (toString i)) S
theorem cd_str : CallR X (.type "str") (lC X.K dStrOf) := by
  intro pins s σ H xs us Q I r h
  obtain ⟨ds, S, R, l, rs, ⟨i, rfl, hi, h⟩, n⟩ := h
  obtain ⟨v, rfl, rv⟩ := rl1 l
  cases rv
  exact call_str_int pins s σ H _ us Q I r ⟨i, rfl, hi, n.same h (.str _) rs⟩
/-! ### isinstance with a built-in class -/
def tyD : D → Option String
  | .non => some "NoneType"
  | .bl _ => some "bool"
  | .int _ => some "int"
  | .str _ => some "str"
  | .lst _ => some "list"
  | .tup _ => some "tuple"
  | .dK _ => some "dict"
  | .dT _ => some "dict"
  | _ => none
theorem tyD_rp {K : PySem.W.Frag} {H : Hp} {S : Sto} {v : V} {d : D} {t : String} (r : Rp K H S v d) (rs : RS K H S) (h : tyD (vw S d) = some t) : TyOf K H v (.type t) := by
  cases e : vw S d with
  | non => rw [e] at h; cases h; cases vw_non r rs e; exact .non
  | bl b => rw [e] at h; cases h; cases vw_bl r rs e; exact .bl _
  | int b => rw [e] at h; cases h; cases vw_int r rs e; exact .int _
  | str b => rw [e] at h; cases h; cases vw_str r rs e; exact .str _
  | lst b => rw [e] at h; cases h; obtain ⟨a, vs, rfl, q, _⟩ := vw_lst r rs e; exact .lst q
  | tup b => rw [e] at h; cases h; obtain ⟨_, a, vs, rfl, q, _⟩ := vw_tup r rs e; exact .tup q
  | dK b => rw [e] at h; cases h; obtain ⟨a, vs, rfl, q, _⟩ := vw_dK r rs e; exact .dK q
  | dT b => rw [e] at h; cases h; obtain ⟨a, vs, rfl, q, _⟩ := vw_dT r rs e; exact .dT q
  | _ => rw [e] at h; cases h
/-- the built-in classes that the texts ask for -/
def isiB (t T : String) : Bool := t == T || (t == "bool" && T == "int")
def tys : List String := ["NoneType", "bool", "int", "str", "list", "tuple", "dict"]
theorem tyD_mem {d : D} {t : String} (h : tyD d = some t) : t ∈ tys := by
  cases d <;> first | (cases h; decide) | cases h
theorem kitB_all : ∀ t ∈ tys, ∀ T ∈ tys, kitB t T = some (isiB t T) := by decide +kernel
def dIsi : DCl := fun ds S R => ∃ d T t, ds = [d, .ty T] ∧ T ∈ tys ∧ tyD (vw S d) = some t ∧ R (.bl (isiB t T)) S
theorem cd_isi : CallR X (.builtin "isinstance") (lC X.K dIsi) := by
  intro pins s σ H xs us Q I r h
  obtain ⟨ds, S, R, l, rs, ⟨d, T, t, rfl, hT, ht, h⟩, n⟩ := h
  obtain ⟨v, u, rfl, rv, ru⟩ := rl2 l
  cases ru
  exact call_isi pins s σ H _ us Q I r ⟨v, .ty T, .type t, .type T, _, rfl, .ty T, .base (tyD_rp rv rs ht), kit_ty (kitB_all t (tyD_mem ht) T hT), n.same h (.bl _) rs⟩
/-! ### methods -/
abbrev DMt := D → List D → Sto → DK → Prop
def lM (K : PySem.W.Frag) (r : DMt) : V → List V → Hp → VK → Prop := fun x vs H Q => ∃ d ds S R, Rp K H S x d ∧ RpL K H S vs ds ∧ RS K H S ∧ r d ds S R ∧ Nxt K H S R Q
/-- the built-in class whose method it is -/
def mtyD (T : String) : D → Bool
  | .str _ => T == "str"
  | .lst _ => T == "list"
  | .dK _ => T == "dict"
  | .dT _ => T == "dict"
  | _ => false
theorem mtyD_rp {K : PySem.W.Frag} {H : Hp} {S : Sto} {v : V} {d : D} {T : String} (r : Rp K H S v d) (rs : RS K H S) (h : mtyD T (vw S d) = true) : tyV K T v H := by
  cases e : vw S d with
  | str b => rw [e] at h; cases vw_str r rs e; exact eq_of_beq h
  | lst b => rw [e] at h; obtain ⟨a, vs, rfl, q, _⟩ := vw_lst r rs e; exact .inl ⟨eq_of_beq h, vs, SqL.of q⟩
  | dK b => rw [e] at h; obtain ⟨a, vs, rfl, q, _⟩ := vw_dK r rs e; exact .inr (.inr (.inl ⟨eq_of_beq h, .inl ⟨vs, q⟩⟩))
  | dT b => rw [e] at h; obtain ⟨a, vs, rfl, q, _⟩ := vw_dT r rs e; exact .inr (.inr (.inl ⟨eq_of_beq h, .inr ⟨vs, q⟩⟩))
  | _ => rw [e] at h; cases h
def dBM (T : String) (r : DMt) (to : DTE) (ta : DTA) : DTE := fun ρ S R => to ρ S fun d S1 => mtyD T (vw S1 d) = true ∧ ta ρ S1 fun ds S2 => r d ds S2 R
variable {o e : Expr} {es : List Expr} {to te : DTE} {ta : DTA} {name : Str} {apos cpos pos : Pos} {T id : String} {r : DMt}
theorem de_bm (pa : PlainAttrs T) (slot : Slot T name id) (hty : typeOf (.builtin id) = pure (.type "method_descriptor")) (hm : MtR X id (lM X.K r)) (ho : DE X o to) (ha : DA X (e :: es) ta)
    (hbase : attributeBase o name X.env (eval o X.env) = eval o X.env := by rfl)
    (hfew : ((backTo cpos (starEach (e :: es) X.env)).all (fun x => !x.1) && (backToKw cpos (keywordEach [] X.env)).all (fun x => x.1.isSome)
      && decide ((e :: es).length + ([] : List Keyword).length + (if ([] : List Keyword).isEmpty then 0 else 1) < 30)) = true := by rfl)
    (hline : (apos.endLine == cpos.line) = true := by rfl) (hs : starEach (e :: es) X.env = (false, eval e X.env) :: starEach es X.env := by rfl) (hplain : (backTo cpos (starEach es X.env)).any (·.1) = false := by rfl) :
    DE X (.Call (.Attribute o name apos) (e :: es) [] cpos) (dBM T r to ta) := (pe_bm pa slot hty hm ho ha hbase hfew hline hs hplain).weak fun σ H Q ⟨ρ, S, R, sl, rs, h, n⟩ =>
  ⟨ρ, S, _, sl, rs, h, fun d S1 h1 v H1 rv rs1 f1 => ⟨mtyD_rp rv rs1 h1.1, ρ, S1, _, sl.fr f1, rs1, h1.2, fun ds S2 h2 vs H2 l rs2 f2 => ⟨d, ds, S2, R, rv.fr f2, l, rs2, h2, n.from (f1.trans f2)⟩⟩⟩
def dAppend : DMt := fun d ds S R => ∃ a xs y, d = .ref a ∧ ds = [y] ∧ S a = some (.lst xs) ∧ xs.length < sizeLine ∧ R .non (S.put a (.lst (xs ++ [y])))
theorem md_append : MtR X "list.append" (lM X.K dAppend) := by
  intro pins s σ H x xs v us Q I rx rxs h
  obtain ⟨d, ds, S, R, rd, l, rs, ⟨a, ys, y, rfl, rfl, ha, hz, h⟩, n⟩ := h
  obtain ⟨w, rfl, rw'⟩ := rl1 l
  cases rd
  obtain ⟨vs, hv, lv⟩ := rs a _ ha
  have f : Fr H S (upd H a (.lst (vs ++ [w]))) (S.put a (.lst (ys ++ [y]))) := Fr.cell ha
  exact mt_append pins s σ H _ _ v us Q I rx rxs ⟨a, vs, w, rfl, rfl, hv, by rw [lv.len]; exact hz, n _ _ h _ _ .non (rs.put f ⟨_, upd_same, (lv.fr f).snoc (rw'.fr f)⟩) f⟩
def dExtend : DMt := fun d ds S R => ∃ a xs e ys, d = .ref a ∧ ds = [e] ∧ S a = some (.lst xs) ∧ vw S e = .lst ys ∧ xs.length + ys.length ≤ sizeLine ∧ R .non (S.put a (.lst (xs ++ ys)))
theorem md_extend : MtR X "list.extend" (lM X.K dExtend) := by
  intro pins s σ H x xs v us Q I rx rxs h
  obtain ⟨d, ds, S, R, rd, l, rs, ⟨a, ys, e, zs, rfl, rfl, ha, he, hz, h⟩, n⟩ := h
  obtain ⟨w, rfl, rw'⟩ := rl1 l
  cases rd
  obtain ⟨vs, hv, lv⟩ := rs a _ ha
  obtain ⟨b, ws, rfl, hb, lb⟩ := vw_lst rw' rs he
  have f : Fr H S (upd H a (.lst (vs ++ ws))) (S.put a (.lst (ys ++ zs))) := Fr.cell ha
  exact mt_extend pins s σ H _ _ v us Q I rx rxs ⟨a, b, vs, ws, rfl, rfl, hv, hb, by rw [lv.len, lb.len]; exact hz, n _ _ h _ _ .non (rs.put f ⟨_, upd_same, (lv.fr f).append (lb.fr f)⟩) f⟩
def strsD : List D → Option (List Str)
  | [] => some []
  | .str x :: ds => (strsD ds).map (x :: ·)
  | _ :: _ => none
theorem strsD_rp {K : PySem.W.Frag} {H : Hp} {S : Sto} : ∀ {vs : List V} {ds : List D} {xs : List Str}, RpL K H S vs ds → strsD ds = some xs → vs = xs.map V.str
  | vs, [], xs, l, h => by cases h; exact l.inv_nil
  | vs, d :: ds, xs, l, h => by
    obtain ⟨v, t, rfl, r1, l1⟩ := l.inv_cons
    cases r1 with
    | str b =>
      unfold strsD at h
      cases e : strsD ds with
      | none => rw [e] at h; cases h
      | some cs =>
        rw [e] at h
        cases h
        rw [strsD_rp l1 e]
        rfl
    | _ => cases h
def dJoin : DMt := fun d ds S R => ∃ z e ys xs, d = .str z ∧ ds = [e] ∧ seqD (vw S e) = some ys ∧ strsD ys = some xs ∧ (xs.map (·.length)).sum + xs.length * z.length ≤ 16777216 ∧ R (.str (Txt.join z xs)) S
theorem md_join : MtR X "str.join" (lM X.K dJoin) := by
  intro pins s σ H x xs v us Q I rx rxs h
  obtain ⟨d, ds, S, R, rd, l, rs, ⟨z, e, ys, zs, rfl, rfl, hs, hx, hz, h⟩, n⟩ := h
  obtain ⟨w, rfl, rw'⟩ := rl1 l
  cases rd
  obtain ⟨a, vs, rfl, q, lv⟩ := seqD_rp rw' rs hs
  have e2 := strsD_rp lv hx
  subst e2
  exact mt_join pins s σ H _ _ v us Q I rx rxs ⟨z, a, zs, rfl, rfl, q.symm, hz, n.same h (.str _) rs⟩
theorem RpL.strs {K : PySem.W.Frag} {H : Hp} {S : Sto} (xs : List Str) : RpL K H S (xs.map V.str) (xs.map D.str) := by
  induction xs with
  | nil => exact .nil
  | cons x xs ih => exact .cons (.str x) ih
def dSplit : DMt := fun d ds S R => ∃ a b, d = .str a ∧ ds = [.str b] ∧ (b.length == 0) = false ∧ a.length + 2 ≤ sizeLine ∧ R (.lst ((Txt.split a b).map D.str)) S
theorem md_split : MtR X "str.split" (lM X.K dSplit) := by
  intro pins s σ H x xs v us Q I rx rxs h
  obtain ⟨d, ds, S, R, rd, l, rs, ⟨a, b, rfl, rfl, hb, hz, h⟩, n⟩ := h
  obtain ⟨w, rfl, rw'⟩ := rl1 l
  cases rd
  cases rw'
  exact mt_split pins s σ H _ _ v us Q I rx rxs ⟨a, b, rfl, rfl, hb, hz, fun p hp => n.new h hp rs (rp_lst hp rs (RpL.strs _))⟩
def dSplitM : DMt := fun d ds S R => ∃ a b, d = .str a ∧ ds = [.str b] ∧ (b.length == 0) = false ∧ a.length + 2 ≤ sizeLine ∧ ∀ p, S p = none → R (.ref p) (S.put p (.lst ((Txt.split a b).map D.str)))
/-- the first place of an equal one -/
def idxD (ds : List PyData) (p : PyData) : Option Nat := ds.findIdx? fun z => PyData.eqv z p
def dIndex : DMt := fun d ds S R => ∃ e xs j, ds = [e] ∧ vw S d = .lst xs ∧ (isDat (.lst xs) = true ∧ isDat (vw S e) = true) ∧ idxD (toPyL xs) (toPy (vw S e)) = some j ∧ R (.int (j : Nat)) S
/-! ### f-strings -/
def dFmt (te : DTE) : DTE := fun ρ S R => te ρ S fun d S1 => match d with
  | .str y => y.length ≤ sizeLine ∧ R (.str y) S1
  | .int i => i.natAbs.log2 < 1920 ∧ R (.str (toString i)) S1
  | _ => False
theorem de_fmt (he : DE X e te) : DE X (.FormattedValue e (-1) none pos) (dFmt te) := (pe_fmt he).weak fun σ H Q ⟨ρ, S, R, sl, rs, h, n⟩ =>
  ⟨ρ, S, _, sl, rs, h, fun d S1 h1 v H1 rv rs1 f1 => by
    cases d with
    | str y => cases rv; exact .inl ⟨y, rfl, h1.1, (n.from f1).same h1.2 (.str _) rs1⟩
    | int i => cases rv; exact .inr ⟨i, rfl, h1.1, (n.from f1).same h1.2 (.str _) rs1⟩
    | _ => exact h1.elim⟩
inductive DJ (X : Cx) : List Expr → List DTE → Prop where
  | nil : DJ X [] []
  | cons {e : Expr} {t : DTE} {es : List Expr} {ts : List DTE} (h : DE X e t) (r : DJ X es ts) : DJ X (e :: es) (t :: ts)
theorem DJ.pj {es : List Expr} {ts : List DTE} (h : DJ X es ts) : PJ X es (ts.map (lE X.K)) := by
  induction h with
  | nil => exact .nil
  | cons h _ ih => exact .cons h ih
def dJs : List DTE → Str → DSt → Sto → (Str → Sto → Prop) → Prop
  | [], acc, _, S, R => R acc S
  | t :: ts, acc, ρ, S, R => t ρ S fun d S1 => ∃ y : Str, d = .str y ∧ (acc ++ y).length ≤ sizeLine ∧ dJs ts (acc ++ y) ρ S1 R
theorem dJs_lift {K : PySem.W.Frag} {σ : St} : ∀ (ts : List DTE) (acc : Str) (ρ : DSt) (S : Sto) (H : Hp) (R : Str → Sto → Prop) (Q : Str → Hp → Prop), SL K H S σ ρ → RS K H S → dJs ts acc ρ S R →
    (∀ out S' H', R out S' → RS K H' S' → Fr H S H' S' → Q out H') → tJs (ts.map (lE K)) acc σ H Q
  | [], acc, ρ, S, H, R, Q, sl, rs, h, k => k acc S H h rs (Fr.refl _ _)
  | t :: ts, acc, ρ, S, H, R, Q, sl, rs, h, k => ⟨ρ, S, _, sl, rs, h, fun d S1 h1 v H1 rv rs1 f1 => by
    obtain ⟨y, rfl, hz, h1⟩ := h1
    cases rv
    exact ⟨y, rfl, hz, dJs_lift ts _ ρ S1 H1 R Q (sl.fr f1) rs1 h1 fun out S' H' q r f => k out S' H' q r (f1.trans f)⟩⟩
def dJoined (ts : List DTE) : DTE := fun ρ S R => dJs ts Str.empty ρ S fun out S1 => R (.str out) S1
theorem de_joined {v1 v2 : Expr} {rest : List Expr} {ts : List DTE} (h : DJ X (v1 :: v2 :: rest) ts) : DE X (.JoinedStr (v1 :: v2 :: rest) pos) (dJoined ts) := (pe_joined h.pj).weak fun σ H Q ⟨ρ, S, R, sl, rs, h, n⟩ =>
  dJs_lift ts Str.empty ρ S H _ _ sl rs h fun out S' H' q r f => n _ S' q _ H' (.str out) r f
/-! ### x[i] = v, o.f = v -/
def dPutIx (td ti tv : DTE) : DTS := fun E ρ S => tv ρ S fun v S1 => td ρ S1 fun d S2 => ti ρ S2 fun k S3 => ∃ a xs i j, d = .ref a ∧ k = .int i ∧ S3 a = some (.lst xs) ∧ ixN xs.length i = some j ∧ E.nx ρ (S3.put a (.lst (xs.set j v)))
theorem ds_putIx {a b v : Expr} {td ti tv : DTE} {p2 : Pos} (hv : DE X v tv) (ho : DE X a td) (hi : DE X b ti)
    (ha : ∀ w, assign (.Subscript a b p2) X.env w = (do
      let ov ← holding [w] (eval a X.env)
      let iv ← holding [w, ov] (eval b X.env)
      standAt p2
      holding [w, ov, iv] (setItem ov iv w)
      release [w, ov, iv] []) := by intro _; rfl) (hs : swapsWithSole [.Subscript a b p2] v pos.line X.env = pure false := by rfl) (hw : swappedStores [.Subscript a b p2] v X.env = pure none := by rfl)
    (h1 : (assignEach [.Subscript a b p2] X.env).map (·.2) = [assign (.Subscript a b p2) X.env] := by rfl) : DS X (.Assign [.Subscript a b p2] v pos) (dPutIx td ti tv) :=
  (ps_asg hv (pg_sub ho hi set_list ha) hs hw h1).weak fun D0 σ H ⟨ρ, S, E, sl, rs, h, n⟩ =>
  ⟨ρ, S, _, sl, rs, h, fun v S1 h1 w H1 rv rs1 f1 => ⟨ρ, S1, _, sl.fr f1, rs1, h1, fun d S2 h2 x H2 rx rs2 f2 => ⟨ρ, S2, _, (sl.fr f1).fr f2, rs2, h2, fun k S3 h3 y H3 ry rs3 f3 => by
    obtain ⟨a, xs, i, j, rfl, rfl, ha, hj, h3⟩ := h3
    cases rx
    cases ry
    obtain ⟨vs, hv, lv⟩ := rs3 a _ ha
    have f : Fr H3 S3 (upd H3 a (.lst (vs.set j w))) (S3.put a (.lst (xs.set j v))) := Fr.cell ha
    exact ⟨a, vs, i, j, rfl, rfl, hv, by rw [lv.len]; exact hj, n.nx _ _ h3 _ _ ((((sl.fr f1).fr f2).fr f3).fr f) (rs3.put f ⟨_, upd_same, (lv.fr f).set j (((rv.fr f2).fr f3).fr f)⟩) (((f1.trans f2).trans f3).trans f)⟩⟩⟩⟩
/-- fields in the order in which they were stored -/
def putFD (g : Str) (d : D) : List (Str × D) → List (Str × D)
  | [] => [(g, d)]
  | (k, e) :: r => if k = g then (k, d) :: r else (k, e) :: putFD g d r
theorem putF_rp {K : PySem.W.Frag} {H : Hp} {S : Sto} {g : Str} {v : V} {d : D} (r : Rp K H S v d) : ∀ {vs : List (Str × V)} {fs : List (Str × D)}, RpP K H S vs fs → RpP K H S (putF g v vs) (putFD g d fs)
  | vs, [], h => by rw [h.inv_nil]; exact .cons r .nil
  | vs, (k, e) :: fs, h => by
    obtain ⟨w, t, rfl, h1, h2⟩ := h.inv_cons
    show RpP K H S (if k = g then (k, v) :: t else (k, w) :: putF g v t) (if k = g then (k, d) :: fs else (k, e) :: putFD g d fs)
    by_cases q : k = g
    · rw [if_pos q, if_pos q]
      exact .cons r h2
    · rw [if_neg q, if_neg q]
      exact .cons h1 (putF_rp r h2)
def dPutF (C : Addr) (g : Str) (to tv : DTE) : DTS := fun E ρ S => tv ρ S fun v S1 => to ρ S1 fun d S2 => ∃ a fs, d = .ref a ∧ S2 a = some (.obj C fs) ∧ fs.length < 1000 ∧ E.nx ρ (S2.put a (.obj C (putFD g v fs)))
theorem ds_putF {C : Addr} {g : Str} {o v : Expr} {to tv : DTE} {p2 : Pos} (c : Cls X.K C) (na : NoAttr X.K C g) (ho : DE X o to) (hv : DE X v tv) (hs : swapsWith v (some (.Attribute o g p2)) pos.line X.env = pure false := by rfl) :
    DS X (.Assign [.Attribute o g p2] v pos) (dPutF C g to tv) := (ps_fld ho hv hs).weak fun D0 σ H ⟨ρ, S, E, sl, rs, h, n⟩ =>
  ⟨ρ, S, _, sl, rs, h, fun v S1 h1 w H1 rv rs1 f1 => ⟨ρ, S1, _, sl.fr f1, rs1, h1, fun d S2 h2 x H2 rx rs2 f2 => by
    obtain ⟨a, fs, rfl, ha, hz, h2⟩ := h2
    cases rx
    obtain ⟨dx, vs, hv, lv⟩ := rs2 a _ ha
    have f : Fr H2 S2 (upd H2 a (.ins C dx (putF g w vs))) (S2.put a (.obj C (putFD g v fs))) := Fr.cell ha
    refine ⟨a, C, dx, vs, rfl, hv, c, na, by rw [lv.len]; exact hz, ?_⟩
    exact n.nx _ _ h2 _ _ (((sl.fr f1).fr f2).fr f) (rs2.put f ⟨dx, _, upd_same, putF_rp ((rv.fr f2).fr f) (lv.fr f)⟩) ((f1.trans f2).trans f)⟩⟩
end
end DL
end
section
set_option maxHeartbeats 4000000
set_option autoImplicit false
/-! enumerate(xs) and zip(xs, ys), each a list or a tuple. -/
namespace DL
open PySem PySem.Spec L2 PyProof.Rows
/-- a list (true) or a tuple (false) -/
def Sq (K : PySem.W.Frag) (H : Hp) : Bool → Addr → List V → Prop
  | true, a, xs => SqL K H a xs
  | false, a, xs => SqT K H a xs
def StB (h : Heap) : Bool → Addr → Array Value → Prop
  | true, a, xs => h.IsList a xs
  | false, a, xs => h.IsTuple a xs
def ItB (h : Heap) : Bool → Addr → Addr → Nat → Prop
  | true, it, a, i => h.IsListIter it a i
  | false, it, a, i => h.IsTupleIter it a i
def itObj : Bool → Addr → Obj
  | true, a => { cls := .type "list_iterator", data := .fields #[.ref a, .int 0 0] }
  | false, a => { cls := .type "tuple_iterator", data := .fields #[.ref a, .int 0 0] }
theorem itB_new {h : Heap} {b : Bool} {it a : Addr} (e : h.get? it = some (itObj b a)) : ItB h b it a 0 := by
  cases b <;> exact ⟨_, e, rfl, rfl⟩
theorem itB_obj {h : Heap} {b : Bool} {it a : Addr} {i : Nat} (x : ItB h b it a i) : ∃ o, h.get? it = some o ∧ ∀ v, o.data ≠ .cell v := by
  cases b <;> (obtain ⟨o, h1, _, h2⟩ := x; exact ⟨o, h1, fun v z => by rw [h2] at z; cases z⟩)
theorem itB_at {h h' : Heap} {b : Bool} {it a : Addr} {i : Nat} (x : ItB h b it a i) (k : ∀ o, h.get? it = some o → h'.get? it = some o) : ItB h' b it a i := by
  cases b <;> (obtain ⟨o, h1, r⟩ := x; exact ⟨o, k o h1, r⟩)
theorem draws_B {P : Program} {w : World} {A : Around} (hh : A.handled = none) (b : Bool) (it a : Addr) (ne : a ≠ it) (xs : Array Value) :
    Draws P w A it [it, a] xs.size (fun i v => xs[i]? = some v) (fun i h => ItB h b it a i ∧ StB h b a xs) := by
  cases b
  · exact Draws.tuple hh it a ne xs
  · exact Draws.list hh it a ne xs
theorem begins_B (b : Bool) (a : Addr) (xs : Array Value) : Begins (.ref a) (itObj b a) fun h => StB h b a xs := by
  cases b
  · exact begins_tuple a xs
  · exact begins_list a xs
theorem stB_lt {h : Heap} {b : Bool} {a : Addr} {xs : Array Value} (x : StB h b a xs) : a < h.objs.size := by
  cases b <;> (obtain ⟨o, e, _⟩ := x; exact Heap.lt_size e)
section
variable {X : Cx} {pins : List (Addr × Obj)} {σ : L2.St} {H : Hp} {s : Shared}
theorem sq_items (I : Inv X pins σ H s) {b : Bool} {a : Addr} {xs : List V} (h : Sq X.K H b a xs) : ∃ us : List Value, Vals xs us ∧ StB s.heap b a us.toArray := by
  cases b with
  | true =>
    obtain ⟨us, r, p, _⟩ := I.list h
    exact ⟨us, r, p.isList⟩
  | false =>
    obtain ⟨us, r, p, _⟩ := I.tuple h
    exact ⟨us, r, p⟩
theorem sq_inj (I : Inv X pins σ H s) {b : Bool} {a : Addr} {xs ys : List V} (h : Sq X.K H b a xs) (k : Sq X.K H b a ys) : xs = ys := by
  cases b with
  | true => exact I.list_inj h k
  | false => exact I.tuple_inj h k
end
/-! ### enumerate -/
def IteB (K : PySem.W.Frag) (b : Bool) (a : Addr) : It :=
  ⟨fun i H => ∃ (xs : List V) (x : V), Sq K H b a xs ∧ xs[i]? = some x, fun i H v H' => ∃ T x, v = .ref T ∧ H T = none ∧ H' = upd H T (.tup [.int (i : Nat), x]) ∧ ∀ xs, Sq K H b a xs → xs[i]? = some x, fun i H => ∃ xs : List V, Sq K H b a xs ∧ xs.length = i⟩
theorem turn_enumB {P : Program} {w : World} {K : PySem.W.Frag} {elts : List Expr} {kk : Nat} {tpos : Pos} (b : Bool) {a e it : Addr} (dist : a ≠ it ∧ e ≠ it ∧ e ≠ a) :
    Turn P w K (.Tuple elts kk tpos) (IteB K b a) [e, it] e (fun i h => (∃ old, IsEnum h e it ((i : Nat) : Int) old) ∧ ItB h b it a i) where
  mem := List.mem_cons_self
  obj := fun i h st c hc => by
    obtain ⟨⟨old, he⟩, hi⟩ := st
    rcases List.mem_cons.mp hc with z | z
    · rw [z]; exact ⟨_, he, fun v q => nomatch q⟩
    · rw [List.mem_singleton.mp z]; exact itB_obj hi
  keep := fun i h h' st k => ⟨st.1.imp fun old x => k e List.mem_cons_self _ x, itB_at st.2 fun o q => k it (List.mem_cons_of_mem _ List.mem_cons_self) o q⟩
  item := by
    intro X hP hw hK hc i pins s σ H E I hf st hg
    subst hP hw hK
    obtain ⟨⟨old, he⟩, hit⟩ := st
    obtain ⟨xs, x, hq, hx⟩ := hg
    obtain ⟨us, rv, p⟩ := sq_items I hq
    obtain ⟨u, hu, ru⟩ := rv.get hx
    have hel : e < s.heap.objs.size := Heap.lt_size he
    have hil : it < s.heap.objs.size := let ⟨_, q, _⟩ := itB_obj hit; Heap.lt_size q
    have hi : i < us.toArray.size := by
      rw [List.size_toArray]
      exact (List.getElem?_eq_some_iff.mp hu).1
    refine wpAny_pyNext_enum_itemD (draws_B (A := X.A.in1) (I.ok.hd hc) b it a dist.1 us.toArray) he ⟨hit, p⟩ hi dist.2.1 (fun z => by
      rcases List.mem_cons.mp z with z | z
      · exact dist.2.1 z
      · exact dist.2.2 (List.mem_singleton.mp z)) fun u2 h' tk hu2 ho hst hT hsz hk => ?_
    have eu : u2 = u := by
      have z : us[i]? = some u2 := by simpa using hu2
      rw [hu] at z
      exact (Option.some.inj z).symm
    subst eu
    refine ⟨_, rfl, wpAny_letOwnedTupleGo_enum (s := { s with heap := h', toks := tk + 1 }) ho fun h2 he2 sb => ?_⟩
    have hT2 : h2.get? s.heap.objs.size = some { cls := .type "tuple", data := .seq #[.int i tk, u2] } := (sb.2 _ (Nat.ne_of_gt hel)).trans hT
    have I1 : Inv X pins σ (upd H s.heap.objs.size (.tup [.int (i : Nat), x])) { s with heap := h2, toks := tk + 1 } :=
      I.turnedNew (ch := [e, it]) (fun c o hb q => (sb.2 c (fun z => hb (z ▸ List.mem_cons_self))).trans (hk c o (fun z => hb (z ▸ List.mem_cons_self)) (fun z => hb (z ▸ List.mem_cons_of_mem _ List.mem_cons_self)) q)) hf (Nat.le_refl _)
        ⟨by show 2 ≤ sizeLine; decide, [.int i tk, u2], .cons ⟨_, rfl⟩ (.cons ru .nil), ⟨_, hT2, rfl, _, rfl⟩⟩
    refine ⟨.ref s.heap.objs.size, _, I1, rfl, ⟨_, x, rfl, I.hok.fresh (Nat.le_refl _), rfl, fun ys hy => by rw [sq_inj I hy hq]; exact hx⟩, ⟨⟨u2, ?_⟩, itB_at hst.1 fun o q => (sb.2 it (Ne.symm dist.2.1)).trans q⟩, fun c hb => ?_⟩
    · have e1 : ((i + 1 : Nat) : Int) = (i : Int) + 1 := by omega
      rw [e1]; exact he2
    · have lt : c < s.heap.objs.size := by
        rcases List.mem_cons.mp hb with z | z
        · rw [z]; exact hel
        · rw [List.mem_singleton.mp z]; exact hil
      rw [upd_ne (Nat.ne_of_lt lt)]
      exact (hf c hb).1
  done := by
    intro X hP hw hK hc i pins s σ H E I hf st hg
    subst hP hw hK
    obtain ⟨⟨old, he⟩, hit⟩ := st
    obtain ⟨xs, hq, hx⟩ := hg
    obtain ⟨us, rv, p⟩ := sq_items I hq
    have z : i = us.toArray.size := by rw [List.size_toArray, ← rv.length, hx]
    refine wpAny_pyNext_enum_endD (draws_B (A := X.A.in1) (I.ok.hd hc) b it a dist.1 us.toArray) he ⟨z ▸ hit, p⟩ fun h' eb => ⟨rfl, ?_⟩
    exact I.turnedL (t' := s.toks) (ch := [e, it]) (fun c o hb q => eb c o (fun z => hb (z ▸ List.mem_cons_of_mem _ List.mem_cons_self)) q) hf
  self := fun A i s Q E st h => let ⟨⟨_, he⟩, _⟩ := st; wpAny_pyIter_enum he h
theorem meets_enum1 {v : Value} {o : Obj} {H : Heap → Prop} (B : Begins v o H) :
    Meets (Builtin.«enumerate.__new__» ⟨[.type "enumerate", v], []⟩) (fun _ R s => H s.heap ∧
      R (.ok (.ret (.ref (s.heap.push o).objs.size))) { s with heap := (s.heap.push o).push { cls := .type "enumerate", data := .fields #[.none, .bool false, .ref s.heap.objs.size, rawInt 0, .none, .none] } }) :=
  .of_wp fun prog w A R s h => by
    obtain ⟨hp, g, d, tk, os⟩ := s
    obtain ⟨h1, h⟩ := h
    have hsub := sub_enumerate
    have start : ∀ {A' : Around} {E : Value → Shared → Prop} {Q : Value → Shared → Prop}, Q (.ref hp.objs.size) ⟨hp.push o, g, d, tk, os⟩ → wpAny (model prog w) A' (pyIter v) Q E ⟨hp, g, d, tk, os⟩ :=
      fun q => B.iter prog w _ _ ⟨hp, g, d, tk, os⟩ _ h1 q
    wp_walk using start
    refine wpAny_stack_any fun st => wpAny_pure ?_
    split
    · rename_i c _ _ _ _ _
      cases (c == Value.type "enumerate")
      · wp_walk using start
        exact ⟨_, rfl, h⟩
      · wp_walk using start
        exact ⟨_, rfl, h⟩
    · wp_walk using start
      exact ⟨_, rfl, h⟩
/-- over a list or a tuple -/
def iEnumB (K : PySem.W.Frag) (ta : TA) : TI := fun σ H R => ta σ H fun vs H1 => ∃ b a xs, vs = [.ref a] ∧ Sq K H1 b a xs ∧ R (IteB K b a) H1
theorem pi_enumB {X : Cx} {e : Expr} {ta : TA} {p pos tpos : Pos} {elts : List Expr} {kk : Nat} (hg : Gl X "enumerate") (hm : X.mg "enumerate" = none) (ha : PA X [e] ta) (hs : starEach [e] X.env = [(false, eval e X.env)] := by rfl) :
    PI X (.Tuple elts kk tpos) (.Call (.Name "enumerate" p) [e] [] pos) (iEnumB X.K ta) := by
  refine ⟨fun pins s σ H R I h => ?_⟩
  refine PyProof.Rows.Call_ (ld_blt I hg hm boot_enumerate (PyProof.Rows.callWith_type1 (thn (ha.run pos pins s σ H _ I h) fun us s1 ⟨vs, H1, I1, r1, b, a, xs, ex, hq, q⟩ => ?_) hs rfl))
  subst ex
  cases r1 with
  | cons r rr =>
    cases rr
    cases r
    obtain ⟨us, rv, p2⟩ := sq_items I1 hq
    refine callType_new F.called_enumerate (by decide) (F.typeCall_enumerate_1 _) (F.newCall_enumerate_1 _) (fun obj => F.args_object_init_2 obj _) F.entry_enumerate_new (meets_enum1 (begins_B b a us.toArray)) ⟨p2, ?_⟩
    have hz : (s1.heap.push (itObj b a)).objs.size = s1.heap.objs.size + 1 := Heap.size_push ..
    have free : (itObj b a).isFreed = false := by cases b <;> rfl
    have he : IsEnum ((s1.heap.push (itObj b a)).push { cls := .type "enumerate", data := .fields #[.none, .bool false, .ref s1.heap.objs.size, rawInt 0, .none, .none] }) (s1.heap.objs.size + 1) s1.heap.objs.size 0 .none := by
      have z := Heap.get?_push_size (s1.heap.push (itObj b a)) (o := { cls := .type "enumerate", data := .fields #[.none, .bool false, .ref s1.heap.objs.size, rawInt 0, .none, .none] }) rfl
      rw [hz] at z
      exact z
    show _ ∧ _
    rw [hz]
    refine ⟨⟨_, he, rfl⟩, wpAny_pyIter_enum he ?_⟩
    have I2 : Inv X pins σ H1 { s1 with heap := (s1.heap.push (itObj b a)).push { cls := .type "enumerate", data := .fields #[.none, .bool false, .ref s1.heap.objs.size, rawInt 0, .none, .none] } } := I1.kept (t' := s1.toks) fun c o z => Heap.get?_push_of_some _ (Heap.get?_push_of_some _ z)
    have lt := stB_lt p2
    refine ⟨s1.heap.objs.size + 1, [s1.heap.objs.size + 1, s1.heap.objs.size], _, _, H1, rfl, I2, turn_enumB b ⟨Nat.ne_of_lt lt, Nat.succ_ne_self _, Nat.ne_of_gt (Nat.lt_succ_of_lt lt)⟩, ⟨⟨.none, he⟩, itB_new (Heap.get?_push_of_some _ (Heap.get?_push_size _ free))⟩, fun c hb => ?_, q⟩
    have le : s1.heap.objs.size ≤ c := by
      rcases List.mem_cons.mp hb with z | z
      · rw [z]; exact Nat.le_succ _
      · rw [List.mem_singleton.mp z]; exact Nat.le_refl _
    exact I1.fpOk le (I1.hok.fresh le)
/-! ### zip -/
theorem sep_nat {n x y : Nat} (h1 : x < n) (h2 : y < n) : ZipSep2 (n + 4) (n + 2) (n + 3) n (n + 1) [n, x] [n + 1, y] := by
  have no : ∀ {c u v : Nat}, c ≠ u → c ≠ v → c ∉ [u, v] := fun h k z => by
    rcases List.mem_cons.mp z with z | z
    · exact h z
    · exact k (List.mem_singleton.mp z)
  exact ⟨show n + 2 ≠ n + 4 by omega, show n + 3 ≠ n + 4 by omega, show n + 2 ≠ n + 3 by omega, show n + 2 ≠ n by omega, List.mem_cons_self, no (by omega) (by omega), no (by omega) (by omega), show n + 2 ≠ n + 1 by omega, List.mem_cons_self, no (by omega) (by omega), no (by omega) (by omega), no (by omega) (by omega), no (by omega) (by omega)⟩
def ItzB (K : PySem.W.Frag) (b b' : Bool) (a a' : Addr) : It :=
  ⟨fun i H => ∃ (xs ys : List V) (x y : V), Sq K H b a xs ∧ Sq K H b' a' ys ∧ xs[i]? = some x ∧ ys[i]? = some y,
    fun i H v H' => ∃ T x y, v = .ref T ∧ H T = none ∧ H' = upd H T (.tup [x, y]) ∧ (∀ xs, Sq K H b a xs → xs[i]? = some x) ∧ ∀ ys, Sq K H b' a' ys → ys[i]? = some y,
    fun i H => ∃ xs ys : List V, Sq K H b a xs ∧ Sq K H b' a' ys ∧ i ≤ xs.length ∧ i ≤ ys.length ∧ (i = xs.length ∨ i = ys.length)⟩
theorem turn_zipB {P : Program} {w : World} {K : PySem.W.Frag} {elts : List Expr} {kk : Nat} {tpos : Pos} (b b' : Bool) {a a' z TI TO i1 i2 : Addr} (D : ZipSep2 z TI TO i1 i2 [i1, a] [i2, a']) (ne : a ≠ i1 ∧ a' ≠ i2) :
    Turn P w K (.Tuple elts kk tpos) (ItzB K b b' a a') [z, TI, TO, i1, i2] z (fun i h => IsZip h z TI TO .none ∧ IsTupOf2 h TI (.ref i1) (.ref i2) ∧ (∃ x y, IsTupOf2 h TO x y) ∧ ItB h b i1 a i ∧ ItB h b' i2 a' i) where
  mem := List.mem_cons_self
  obj := fun i h st c hc => by
    obtain ⟨h1, h2, ⟨x, y, h3⟩, h4, h5⟩ := st
    simp only [List.mem_cons, List.not_mem_nil, or_false] at hc
    rcases hc with q | q | q | q | q
    · rw [q]; exact ⟨_, h1, fun v z => nomatch z⟩
    · rw [q]; exact ⟨_, h2, fun v z => nomatch z⟩
    · rw [q]; exact ⟨_, h3, fun v z => nomatch z⟩
    · rw [q]; exact itB_obj h4
    · rw [q]; exact itB_obj h5
  keep := fun i h h' st k => by
    obtain ⟨h1, h2, ⟨x, y, h3⟩, h4, h5⟩ := st
    exact ⟨k z (by simp) _ h1, k TI (by simp) _ h2, ⟨x, y, k TO (by simp) _ h3⟩, itB_at h4 fun o q => k i1 (by simp) o q, itB_at h5 fun o q => k i2 (by simp) o q⟩
  item := by
    intro X hP hw hK hc i pins s σ H E I hf st hg
    subst hP hw hK
    obtain ⟨h1, h2, ⟨x0, y0, h3⟩, h4, h5⟩ := st
    obtain ⟨xs, ys, x, y, qx, qy, ex, ey⟩ := hg
    obtain ⟨us, rv, p⟩ := sq_items I qx
    obtain ⟨us', rv', p'⟩ := sq_items I qy
    obtain ⟨u, hu, ru⟩ := rv.get ex
    obtain ⟨u', hu', ru'⟩ := rv'.get ey
    have hzl : z < s.heap.objs.size := Heap.lt_size h1
    have li : i < us.toArray.size := by rw [List.size_toArray]; exact (List.getElem?_eq_some_iff.mp hu).1
    have li' : i < us'.toArray.size := by rw [List.size_toArray]; exact (List.getElem?_eq_some_iff.mp hu').1
    refine wpAny_pyNext_zipD2_item D (draws_B (A := X.A.in1) (I.ok.hd hc) b i1 a ne.1 us.toArray) (draws_B (A := X.A.in1) (I.ok.hd hc) b' i2 a' ne.2 us'.toArray) h1 h2 h3 ⟨h4, p⟩ ⟨h5, p'⟩ li li' fun v v' h' tk y1 y2 k1 k2 k3 k4 k5 hsz hk => ?_
    have ev : v = u := by
      have q : us[i]? = some v := by simpa using y1
      rw [hu] at q
      exact (Option.some.inj q).symm
    have ev' : v' = u' := by
      have q : us'[i]? = some v' := by simpa using y2
      rw [hu'] at q
      exact (Option.some.inj q).symm
    subst ev ev'
    refine ⟨_, rfl, wpAny_letOwnedTupleGo_zip (s := { s with heap := h', toks := tk }) k1 fun h6 k6 sb => ?_⟩
    have hT2 : h6.get? s.heap.objs.size = some { cls := .type "tuple", data := .seq #[v, v'] } := (sb.2 _ (Nat.ne_of_gt hzl)).trans k5
    have I1 : Inv X pins σ (upd H s.heap.objs.size (.tup [x, y])) { s with heap := h6, toks := tk } :=
      I.turnedNew (ch := [z, TI, TO, i1, i2]) (fun c o hb q => (sb.2 c (fun q' => hb (by simp [q']))).trans (hk c o (fun q' => hb (by simp [q'])) (fun q' => hb (by simp [q'])) (fun q' => hb (by simp [q'])) (fun q' => hb (by simp [q'])) q)) hf (Nat.le_refl _)
        ⟨by show 2 ≤ sizeLine; decide, [v, v'], .cons ru (.cons ru' .nil), ⟨_, hT2, rfl, _, rfl⟩⟩
    have away : ∀ c o, c ≠ z → h'.get? c = some o → h6.get? c = some o := fun c o hc e => (sb.2 c hc).trans e
    refine ⟨.ref s.heap.objs.size, _, I1, rfl, ⟨_, x, y, rfl, I.hok.fresh (Nat.le_refl _), rfl, fun l hl => by rw [sq_inj I hl qx]; exact ex, fun l hl => by rw [sq_inj I hl qy]; exact ey⟩, ⟨k6, ?_, ⟨v, v', ?_⟩, ?_, ?_⟩, fun c hcm => ?_⟩
    · exact away _ _ D.TIz (hk _ _ D.TIz D.TITO D.TIi1 D.TIi2 h2)
    · exact away _ _ D.TOz k2
    · exact itB_at k3.1 fun o q => away _ _ (Ne.symm D.zi1) q
    · exact itB_at k4.1 fun o q => away _ _ (Ne.symm D.zi2) q
    · have lt : c < s.heap.objs.size := by
        have e := hcm
        simp only [List.mem_cons, List.not_mem_nil, or_false] at e
        rcases e with q | q | q | q | q
        · rw [q]; exact hzl
        · rw [q]; exact Heap.lt_size h2
        · rw [q]; exact Heap.lt_size h3
        · rw [q]; exact let ⟨_, e, _⟩ := itB_obj h4; Heap.lt_size e
        · rw [q]; exact let ⟨_, e, _⟩ := itB_obj h5; Heap.lt_size e
      rw [upd_ne (Nat.ne_of_lt lt)]
      exact (hf c hcm).1
  done := by
    intro X hP hw hK hc i pins s σ H E I hf st hg
    subst hP hw hK
    obtain ⟨h1, h2, ⟨x0, y0, h3⟩, h4, h5⟩ := st
    obtain ⟨xs, ys, qx, qy, l1, l2, l3⟩ := hg
    obtain ⟨us, rv, p⟩ := sq_items I qx
    obtain ⟨us', rv', p'⟩ := sq_items I qy
    rw [rv.length] at l1 l3
    rw [rv'.length] at l2 l3
    refine wpAny_pyNext_zipD2_end D (draws_B (A := X.A.in1) (I.ok.hd hc) b i1 a ne.1 us.toArray) (draws_B (A := X.A.in1) (I.ok.hd hc) b' i2 a' ne.2 us'.toArray) h1 h2 h3 ⟨h4, p⟩ ⟨h5, p'⟩ (by simpa using l1) (by simpa using l2) (by simpa using l3) fun h' tk hk => ⟨rfl, ?_⟩
    exact I.turnedL (t' := tk) (ch := [z, TI, TO, i1, i2]) (fun c o hb q => hk c o (fun q' => hb (by simp [q'])) (fun q' => hb (by simp [q'])) (fun q' => hb (by simp [q'])) (fun q' => hb (by simp [q'])) q) hf
  self := fun A i s Q E st h => wpAny_pyIter_zip st.1 h
def iZipB (K : PySem.W.Frag) (ta : TA) : TI := fun σ H R => ta σ H fun vs H1 => ∃ b b' a a' xs ys, vs = [.ref a, .ref a'] ∧ Sq K H1 b a xs ∧ Sq K H1 b' a' ys ∧ R (ItzB K b b' a a') H1
theorem pi_zipB {X : Cx} {e e2 : Expr} {ta : TA} {p pos tpos : Pos} {elts : List Expr} {kk : Nat} (hg : Gl X "zip") (hm : X.mg "zip" = none) (ha : PA X [e, e2] ta)
    (hs : starEach [e, e2] X.env = (false, eval e X.env) :: starEach [e2] X.env := by rfl) (hpl : (backTo pos (starEach [e2] X.env)).any (·.1) = false := by rfl) :
    PI X (.Tuple elts kk tpos) (.Call (.Name "zip" p) [e, e2] [] pos) (iZipB X.K ta) := by
  refine ⟨fun pins s σ H R I h => ?_⟩
  refine PyProof.Rows.Call_ (ld_blt I hg hm PyProof.Rows.boot_zip (PyProof.Rows.callWith_type1 (thn (ha.run pos pins s σ H _ I h) fun us0 s1 ⟨vs, H1, I1, r1, b, b', a, a', xs, ys, ex, qx, qy, q⟩ => ?_) hs hpl))
  subst ex
  cases r1 with
  | cons r rr =>
    cases rr with
    | cons r' rr =>
      cases rr
      cases r
      cases r'
      obtain ⟨us, rv, p1⟩ := sq_items I1 qx
      obtain ⟨us', rv', p2⟩ := sq_items I1 qy
      have l1 := stB_lt p1
      have l2 := stB_lt p2
      refine zip_begins2 (begins_B b a us.toArray) (begins_B b' a' us'.toArray) p1 p2 fun h' k1 k2 k3 k4 k5 hsz hk => wpAny_pyIter_zip k1 ?_
      have I2 : Inv X pins σ H1 { s1 with heap := h' } := I1.kept (t' := s1.toks) hk
      have sep := sep_nat l1 l2
      refine ⟨s1.heap.objs.size + 4, [s1.heap.objs.size + 4, s1.heap.objs.size + 2, s1.heap.objs.size + 3, s1.heap.objs.size, s1.heap.objs.size + 1], _, _, H1, rfl, I2, turn_zipB b b' sep ⟨Nat.ne_of_lt l1, Nat.ne_of_lt (Nat.lt_succ_of_lt l2)⟩, ⟨k1, k2, ⟨_, _, k3⟩, itB_new k4, itB_new k5⟩, fun c hcm => ?_, q⟩
      have le : s1.heap.objs.size ≤ c := by
        simp only [List.mem_cons, List.not_mem_nil, or_false] at hcm
        rcases hcm with z | z | z | z | z
        · rw [z]; exact Nat.le_add_right _ _
        · rw [z]; exact Nat.le_add_right _ _
        · rw [z]; exact Nat.le_add_right _ _
        · rw [z]; exact Nat.le_refl _
        · rw [z]; exact Nat.le_add_right _ _
      exact I1.fpOk le (I1.hok.fresh le)
end DL
end
section
set_option maxHeartbeats 4000000
/-! Functions that are called with no repr under way (their Around says so): for defs that ask for repr of a list or a tuple. -/
namespace DL
open PySem PySem.Spec L2 PyProof.Rows
structure FnG (P : Program) (w : World) (K : PySem.W.Frag) (mg : Str → Option Value) (base : Heap) (cx : CXT) (k : Nat) (f : Addr) (fd : FuncData) (ps : List Str) (sp : Sp) : Prop where
  len : ∀ vs H Q E, sp vs H Q E → vs.length = ps.length
  run : ∀ (A : Around) (out : List Env) (s : Shared) (H : Hp) (args : Args) (us : List Value) (vs : List V) (Q : VK) (E : XK), A.guards = some [] → Room k A → Env0 P w K mg base A out s H → BindsTo s fd args (ps.zip us) → Vals vs us → sp vs H Q E →
    codeAny (model P w) A (.call (.ref f) args) (CR cx out P w H s Q E) s
section
variable {P : Program} {w : World} {K : PySem.W.Frag} {mg : Str → Option Value} {base : Heap} {cx : CXT}
theorem FnG.of {k : Nat} {f : Addr} {fd : FuncData} {ps : List Str} {sp : Sp} (F : FnOk P w K mg base cx k f fd ps sp) : FnG P w K mg base cx k f fd ps sp := ⟨F.len, fun A out s H args us vs Q E _ => F.run A out s H args us vs Q E⟩
/-- a def by its body -/
theorem fnG_of {x qual : Str} {st : Stmt} {f : Addr} {fd : FuncData} {N ps : List Str} {k : Nat} {sp : Sp} (F : Fun K x qual st f fd) (Sc : FnScope N ps (defScope st)) (len : ∀ vs H Q E, sp vs H Q E → vs.length = ps.length)
    (body : ∀ (cd : Value) (A : Around) (out : List Env) (s : Shared) (H : Hp) (vs : List V) (Q : VK) (E : XK), A.guards = some [] → Room k (A.deeper (envOfC qual (defScope st) s.heap.objs.size f cd)) → sp vs H Q E →
      ∃ t, PSs (cxOf cx P w K mg base N qual (defScope st) f cd A out s H E) (defBody st) t ∧ t { nx := fun _ H' => Q .non H', rt := Q } (start N vs) H) : FnG P w K mg base cx (k + 1) f fd ps sp := by
  obtain ⟨oc, od, kV, doc, pm, an, cd, ct, osl, rfl, lk, hcd⟩ := F.ex
  refine ⟨len, fun A out s H args us vs Q E hg hr e0 hb rel hs => ?_⟩
  have old : ∀ {b o}, base.get? b = some o → s.heap.get? b = some o := fun e => (e0.bs _ _ e).1
  have KX : K.In s.heap := e0.mod.kin.keeps fun b o e => old e
  have kinds : ∀ y ∈ ps.zip us, (defScope st).names.lookup y.1 = some .local ∨ ((defScope st).names.lookup y.1 = some .cell ∧ ((cellsFrom (s.heap.objs.size + 1) (defScope st).names []).lookup y.1).isSome = true) := fun y hy =>
    (Sc.par y.1 (List.of_mem_zip (show (y.1, y.2) ∈ ps.zip us from hy)).1).imp id fun z => ⟨z, PySem.W.cellsFrom_some _ _ _ (.inl z)⟩
  refine codeAny_call_function hr.depth (KX _ _ lk) rfl Sc.co Sc.gen rfl (PySem.W.codeRec_of KX hcd) (hb _ _ _ _ ?_)
  refine wpAny_newFunctionEnv_cells Sc.kind kinds fun env he s1 z => ?_
  subst he
  refine ⟨(e0.mod.nolimit.keeps fun b o e => old e).keeps z.toInCall.keep, codeAny_func ?_⟩
  obtain ⟨t, ht, hq⟩ := body cd A out s H vs Q E hg (hr.deeper _) hs
  have J : Inv (cxOf cx P w K mg base N qual (defScope st) f cd A out s H E) [] (start N vs) H s1 := inv_start Sc hr.hd e0 (len _ _ _ _ hs) rel z
  refine wpAny_mono (ht.run [] s1 (start N vs) H _ J hq) (fun fl s' y => ?_) fun e s' y => y
  have back : ∀ {σ2 : L2.St} {H2 : Hp} {v : V} {u : Value}, Inv (cxOf cx P w K mg base N qual (defScope st) f cd A out s H E) [] σ2 H2 s' → RelV v u → Q v H2 → CE out P w H s Q u s' := fun I rv q => ⟨_, _, I.os, I.bare, I.base, I.hok, rv, q⟩
  cases fl with
  | ret u =>
    obtain ⟨v, σ2, H2, I, rv, q⟩ := y
    exact back I rv q
  | next =>
    obtain ⟨σ2, H2, I, q⟩ := y
    exact back (v := .non) (u := .none) I rfl q
  | brk =>
    obtain ⟨_, _, _, q⟩ := y
    exact q.elim
  | cont =>
    obtain ⟨_, _, _, q⟩ := y
    exact q.elim
end
section
variable {X : Cx} {cx : CXT} {k : Nat} {f : Addr} {fd : FuncData} {ps : List Str} {sp : Sp} {dvs : List V} {ds : List Value} {E : XK} {x : Str} {p pos : Pos} {e : Expr} {es : List Expr} {t : TA}
theorem go_fnG {pins : List (Addr × Obj)} {σ : L2.St} {H : Hp} {s : Shared} {Q : VK} {us : List Value} {vs : List V} (F : FnG X.prog X.w X.K X.mg X.base cx k f fd ps sp) (hg : X.A.guards = some []) (hr : Room k X.A) (hb : Binds X.K fd ps ds) (hd : Vals dvs ds) (hx : Passes cx X E)
    (I : Inv X pins σ H s) (r : Vals vs us) (h : sp (vs ++ dvs) H Q E) : wpAny (model X.prog X.w) X.A (call (.ref f) us) (EP X pins σ Q) X.xe s := by
  have rr := r.append hd
  refine wpAny_call (codeAny_mono (F.run X.A X.stack s H ⟨us, []⟩ (us ++ ds) (vs ++ dvs) Q E hg hr I.env0 (hb s us I.kIn (rr.length.symm.trans (F.len _ _ _ _ h))) rr h) fun r s' q => ?_)
  cases r with
  | error e => exact hx pins σ H s e s' I q
  | ok fl =>
    cases fl with
    | ret u => exact I.after q
    | next => exact q.elim
    | brk => exact q.elim
    | cont => exact q.elim
theorem pe_callG (F : FnG X.prog X.w X.K X.mg X.base cx k f fd ps sp) (hgd : X.A.guards = some []) (hr : Room k X.A) (hg : Gl X x) (hm : X.mg x = some (.ref f)) (hk : PySem.W.keepIn X.K (.ref f) = true) (hb : Binds X.K fd ps ds) (hd : Vals dvs ds) (hx : Passes cx X E)
    (ha : PA X (e :: es) t) (hdb : (x == ("__debug__" : Str)) = false := by decide) (he : starEach (e :: es) X.env = (false, eval e X.env) :: starEach es X.env := by rfl) (hpl : (backTo pos (starEach es X.env)).any (·.1) = false := by rfl) :
    PE X (.Call (.Name x p) (e :: es) [] pos) (tCall sp dvs E t) := ⟨fun pins s σ H Q I h =>
  wpAny_Call_Name_kw (ld_glob I hg hm (PySem.W.callWith_K (h₀ := X.base) I.ok.mod.kin hk (thn (ha.run pos pins s σ H _ I h) fun us s1 ⟨vs, H1, I1, r, q⟩ => ⟨I1.kIn, go_fnG F hgd hr hb hd hx I1 r q⟩) he hpl) hdb)⟩
end
/-- the law's call, from its def -/
theorem law_callG {P : Program} {w : World} {K : PySem.W.Frag} {mg mb : Str → Option Value} {cx : CXT} {k : Nat} {fa a : Addr} {fd : FuncData} {x : Str} {sp : Sp} {s : Shared} {vs : List Value} {ns : List Int}
    (KX : K.In s.heap) (g1 : s.heap.Ns mainGlobals mg) (g2 : s.heap.Ns builtinsNs mb) (g3 : ∀ x : Str, x ≠ "__name__" → mb x = bootBuiltins x) (g4 : s.heap.NoLimit) (g5 : s.gens = #[])
    (oa : s.heap.get? a = some { cls := .type "list", data := .seq vs.toArray }) (iv : IntsAre vs ns) (few : ns.length ≤ sizeLine) (hr : Room k callerA)
    (F : ∀ base : Heap, K.In base → base.Ns mainGlobals mg → FnG P w K mg base cx k fa fd [x] sp) (hb : ∀ (s : Shared) (u : Value), BindsTo s fd ⟨[u], []⟩ [(x, u)])
    (hs : ∀ H : Hp, Only H → SqL K H a (ns.map V.int) → sp [.ref a] H (fun v _ => v = .bl true) fun _ _ _ => False) (hx : ∀ H e s', cx [] H s (fun _ _ _ => False) e s' → False) :
    codeAny (model P w) callerA (.call (.ref fa) ⟨[.ref a], []⟩) (fun r s' => r = .ok (.ret (.bool true)) ∧ OldK s.heap s'.heap ∧ s'.os = s.os ∧ AllBare s'.gens) s := by
  have rv := vals_ints iv
  have main : ∀ H : Hp, Only H → SqL K H a (ns.map V.int) → HOk P w H s.heap → (∀ b, b ≠ a → H b = none) → (K.lookup a ≠ none → H a = none) →
      codeAny (model P w) callerA (.call (.ref fa) ⟨[.ref a], []⟩) (fun r s' => r = .ok (.ret (.bool true)) ∧ OldK s.heap s'.heap ∧ s'.os = s.os ∧ AllBare s'.gens) s := by
    intro H on sq ok off lone
    have plainD : ∀ {b : Addr} {o : Obj} {es : Array DictEntry} {ep : Nat}, s.heap.get? b = some o → o.data = .dict es ep → H b = none := fun {b o es ep} e d => by
      by_cases q : b = a
      · rw [q, oa] at e
        cases e
        cases (show Data.seq vs.toArray _ = Data.dict es ep from d)
      · exact off b q
    have names : ∀ {b : Addr} {m : Str → Option Value}, s.heap.Ns b m → (hidT s.heap H).Ns b m := fun {b m} ⟨o, es, ep, e, d, r⟩ => ⟨o, es, ep, hidT_get e (plainD e d), d, r⟩
    have kin : K.In (hidT s.heap H) := fun b o e => hidT_get (KX b o e) (by
      by_cases q : b = a
      · rw [q] at e ⊢
        exact lone (by rw [e]; exact fun z => nomatch z)
      · exact off b q)
    have e0 : Env0 P w K mg (hidT s.heap H) callerA [] s H := ⟨rfl, ⟨kin, names g1, ⟨mb, names g2, g3⟩, g4.imp fun m z => ⟨names z.1, z.2⟩⟩, fun b o e => of_hidT e, Nat.le_of_eq (hidT_size _ _), trivial, fun b z => (by cases (show b ∈ ([] : List Addr) from z)), ok, .of_eq g5⟩
    refine codeAny_mono ((F _ kin (names g1)).run callerA [] s H ⟨[.ref a], []⟩ [.ref a] [.ref a] _ _ rfl hr e0 (hb s (.ref a)) (.cons rfl .nil) (hs H on sq)) fun r s' q => ?_
    match r, q with
    | .error e, q => exact (hx H e s' q).elim
    | .ok (.ret u), ⟨v, H2, y1, y2, un, ok2, rr, y3⟩ =>
      have y3 : v = .bl true := y3
      subst y3
      have rr : u = Value.bool true := rr
      subst rr
      refine ⟨rfl, OldK.of_keep fun b o e => ?_, y1, y2⟩
      rcases on b with z | ⟨ob, xs, z⟩
      · exact un.keep b o e z (by intro m; cases (show b ∈ ([] : List Addr) from m)) (by simp)
      · have t1 := (ok b _ z).1
        have t2 := (ok2 b _ (un.frzs b ob _ z)).1
        rw [e] at t1
        cases t1
        exact t2
    | .ok .next, q => exact q.elim
    | .ok .brk, q => exact q.elim
    | .ok .cont, q => exact q.elim
  have lv : ns.length = vs.length := iv.length.symm
  by_cases hk : K.lookup a = none
  · have one : ∀ b, (fun b => if b = a then some (HO.frz { cls := .type "list", data := .seq vs.toArray } (.lst (ns.map V.int))) else none : Hp) b = if b = a then some (HO.frz { cls := .type "list", data := .seq vs.toArray } (.lst (ns.map V.int))) else none := fun _ => rfl
    refine main (fun b => if b = a then some (HO.frz { cls := .type "list", data := .seq vs.toArray } (.lst (ns.map V.int))) else none) (fun b => ?_) (.inl (.inr ⟨_, if_pos rfl⟩)) (fun b u z => ?_) (fun b q => if_neg q) fun q => absurd hk q
    · by_cases q : b = a
      · exact .inr ⟨_, _, if_pos q⟩
      · exact .inl (if_neg q)
    · by_cases q : b = a
      · subst q
        cases (if_pos rfl).symm.trans z
        exact ⟨oa, by rw [List.length_map]; exact few, vs, _, rv, oa⟩
      · cases (if_neg q).symm.trans z
  · obtain ⟨o, e⟩ := Option.ne_none_iff_exists'.mp hk
    have e2 := KX a o e
    rw [oa] at e2
    cases e2
    exact main (fun _ => none) (fun _ => .inl rfl) (.inr ⟨_, vs.toArray, _, e, rfl, rfl, rfl, by rw [List.size_toArray, ← lv]; exact few, by simpa using rv⟩) (fun b u z => by cases (show (none : Option HO) = some u from z)) (fun b _ => rfl) fun _ => rfl
theorem walk_ofG {l : PySem.W.OpenLaw} {n k : Nat} {q : Program} {loose : List Str} {XP : (Str → Option Value) → Heap → Prop} {YP : World → Heap → Prop} {d : DefRec} {K : Params → PySem.W.Frag} {cx : World → CXT} {sp : World → Sp} {x : Str}
    (hn : l.most = some n) (few : n ≤ sizeLine) (hdf : d.params.defaults = []) (hr : Room k callerA) (hY : ∀ (w : World) (h : Heap), YP w h → (K w.params).In h)
    (F : ∀ (w : World) (mg : Str → Option Value) (fa : Addr) (h : Heap), (K w.params).In h → h.Ns mainGlobals mg → mg d.name = some (.ref fa) →
      ∃ fd : FuncData, (∀ (s : Shared) (u : Value), BindsTo s fd ⟨[u], []⟩ [(x, u)]) ∧ ∀ base : Heap, (K w.params).In base → base.Ns mainGlobals mg → FnG l.prog w (K w.params) mg base (cx w) k fa fd [x] (sp w))
    (hs : ∀ (w : World) (H : Hp) (a : Addr) (ns : List Int), ns.length ≤ n → (∀ z ∈ ns, Builtin.Int.intBits z ≤ 1048576) → Only H → SqL (K w.params) H a (ns.map V.int) → sp w [.ref a] H (fun v _ => v = .bl true) fun _ _ _ => False)
    (hx : ∀ (w : World) (H : Hp) (s : Shared) (e : Value) (s' : Shared), cx w [] H s (fun _ _ _ => False) e s' → False) : PySem.W.WalkO q loose XP YP l.row.toRowW d [] (fun f vs => PySem.call f vs) := by
  refine Att.attach_callB hn hdf fun w s0 s mg mb fa o pm cd doc a vs ns G Y _ _ _ hmg oa iv len bits hg => ?_
  obtain ⟨fd, hb, hF⟩ := F w mg fa _ (hY w _ Y) G.T.g hmg
  exact law_callG (hY w _ Y) G.T.g G.T.b G.T.builtins G.T.nolimit hg oa iv (Nat.le_trans len few) hr hF hb (fun H on sq => hs w H a ns len bits on sq) fun H e s' => hx w H s e s'
end DL
end
section
set_option maxHeartbeats 4000000
/-! Sets of keys: whole numbers and texts (by the scan), tuples of such (by the table). -/
namespace DL
open PySem PySem.Spec PyProof.Rows
/-- the keys -/
abbrev NK := NestedKey
def ofKey : L2.Key → NK
  | .inl i => .num i
  | .inr x => .text x
theorem ofKey_inj {a b : L2.Key} (h : ofKey a = ofKey b) : a = b := by
  cases a <;> cases b <;> simp [ofKey] at h <;> rw [h]
theorem ofKey_hash {w : World} (q : L2.Key) : (ofKey q).hash w = L2.keyH w q := by cases q <;> rfl
section
variable {P : Program} {w : World}
/-- what stands for a key: flat ones, and tuples -/
def Of (P : Program) (w : World) : Bool → Heap → NK → Value → Prop
  | true, _, k, v => ∃ q : L2.Key, k = ofKey q ∧ (L2.mixKind P w).is q v = true
  | false, h, k, v => (∃ a, v = .ref a) ∧ NestedIs h k v ∧ k.depth ≤ 8
theorem Of.nest {b : Bool} {h : Heap} {k : NK} {v : Value} (x : Of P w b h k v) : NestedIs h k v ∧ k.depth ≤ 8 := by
  cases b with
  | false => exact x.2
  | true =>
    obtain ⟨q, rfl, e⟩ := x
    rcases L2.keyIs_shape e with ⟨i, t, rfl, rfl⟩ | ⟨y, t, rfl, rfl⟩
    · exact ⟨.int i t, Nat.zero_le _⟩
    · exact ⟨.text y t, Nat.zero_le _⟩
theorem Of.inj {b : Bool} {h : Heap} {k j : NK} {v : Value} (x : Of P w b h k v) (y : Of P w b h j v) : k = j := NestedIs.inj _ _ _ x.nest.1 y.nest.1
theorem Of.seqs {b : Bool} {h h' : Heap} {k : NK} {v : Value} (x : Of P w b h k v) (z : ∀ a o vs n, h.get? a = some o → o.data = .seq vs n → h'.get? a = some o) : Of P w b h' k v := by
  cases b with
  | true => exact x
  | false => exact ⟨x.1, NestedIs.at z _ _ x.2.1, x.2.2⟩
theorem Of.up {b : Bool} {h h' : Heap} {k : NK} {v : Value} (x : Of P w b h k v) (z : ∀ a o, h.get? a = some o → h'.get? a = some o) : Of P w b h' k v := x.seqs fun a o _ _ e _ => z a o e
theorem Of.but {b : Bool} {h h' : Heap} {k : NK} {v : Value} {a : Addr} {o : Obj} {es : Array (Int × Value)} {ep : Nat} {t : SetTable} (x : Of P w b h k v) (ho : h.get? a = some o) (hd : o.data = .set es ep t) (z : Heap.SameBut a h h') : Of P w b h' k v :=
  x.seqs fun c u vs n e q => by
    have ne : c ≠ a := fun y => by
      rw [y, ho] at e
      cases e
      rw [hd] at q
      cases q
    exact (z.2 c ne).trans e
theorem nest_mem {h : Heap} : ∀ {ks : List NK} {vs : List Value}, NestedAll h ks vs → ∀ v ∈ vs, ∃ k, NestedIs h k v ∧ k.depth ≤ NestedKey.depthAll ks
  | _, _, .nil, v, hv => by cases hv
  | _, _, .cons (k := k) (ks := ks) x r, v, hv => by
    rw [NestedKey.depthAll]
    rcases List.mem_cons.mp hv with e | hv
    · exact ⟨k, e ▸ x, Nat.le_max_left _ _⟩
    · obtain ⟨j, hj, hd⟩ := nest_mem r v hv
      exact ⟨j, hj, Nat.le_trans hd (Nat.le_max_right _ _)⟩
/-- no key is of a class statement -/
theorem key_noclass : ∀ (n : Nat) (k : NK) (v : Value) (s : Shared), NestedIs s.heap k v → k.depth ≤ n → ∀ (A : Around) (E : Value → Shared → Prop) (Q : Bool → Shared → Prop), Q false s → wpAny (model P w) A (ofAClassStatement n v) Q E s := by
  intro n
  induction n with
  | zero =>
    intro k v s x hd A E Q q
    cases x with
    | tup _ _ _ _ => simp [NestedKey.depth] at hd
    | _ => exact wpAny_pure q
  | succ n ih =>
    intro k v s x hd A E Q q
    cases x with
    | tup ho hc hdt hk =>
      rename_i a o vs m ks
      have hT : s.TypeIs (.ref a) "tuple" := ⟨o, ho, hc⟩
      have hit := nest_mem hk
      rw [NestedKey.depth] at hd
      unfold ofAClassStatement
      refine wpAny_bind (wpAny_typeOf hT ?_)
      dsimp only
      have e : (("tuple" : String) == "tuple") = true := by decide
      simp only [e, if_true]
      refine wpAny_bind (wpAny_pure ?_)
      simp only [Bool.not_true, Bool.false_eq_true, if_false]
      try refine wpAny_bind (wpAny_pure ?_)
      show wpAny _ _ (seqItems? (.ref a) >>= _) _ _ s
      refine wpAny_bind (wpAny_seqItems ho hdt ?_)
      dsimp only
      try refine wpAny_bind (wpAny_pure ?_)
      refine wpAny_bind ?_
      show wpAny _ _ (forIn vs _ _) _ _ s
      rw [← Array.forIn_toList]
      refine wpAny_forIn_list _ (fun rest r u => r.1 = none ∧ u = s ∧ ∀ y ∈ rest, y ∈ vs.toList) _ (fun y rest r u hI => ?_) (fun r u hI => ?_) _ _ ⟨rfl, rfl, fun y hy => hy⟩
      · obtain ⟨h1, rfl, h3⟩ := hI
        obtain ⟨j, hj, hjd⟩ := hit y (h3 y List.mem_cons_self)
        refine wpAny_bind (ih j y u hj (by omega) _ _ _ ?_)
        simp only [Bool.false_eq_true, if_false]
        exact wpAny_pure ⟨rfl, rfl, fun z hz => h3 z (List.mem_cons_of_mem _ hz)⟩
      · obtain ⟨r1, r2⟩ := r
        obtain ⟨h1, rfl, _⟩ := hI
        simp only at h1
        subst h1
        exact wpAny_pure q
    | _ => exact wpAny_pure q
/-- a key's hash, by value or not -/
theorem key_byvalue : ∀ (n : Nat) (k : NK) (v : Value) (s : Shared), NestedIs s.heap k v → ∀ (A : Around) (E : Value → Shared → Prop) (Q : Bool → Shared → Prop), (∀ b, Q b s) → wpAny (model P w) A (hashByValue n v) Q E s := by
  intro n
  induction n with
  | zero =>
    intro k v s x A E Q q
    cases x <;> exact wpAny_pure (q _)
  | succ n ih =>
    intro k v s x A E Q q
    cases x with
    | tup ho hc hdt hk =>
      rename_i a o vs m ks
      have hT : s.TypeIs (.ref a) "tuple" := ⟨o, ho, hc⟩
      have hit := nest_mem hk
      unfold hashByValue
      refine wpAny_bind (wpAny_specialOf hT F.slot_tuple_hash.lookup ?_)
      show wpAny _ _ (seqItems? (.ref a) >>= _) _ _ s
      refine wpAny_bind (wpAny_seqItems ho hdt ?_)
      refine wpAny_bind ?_
      show wpAny _ _ (forIn vs _ _) _ _ s
      rw [← Array.forIn_toList]
      refine wpAny_forIn_list _ (fun rest r u => u = s ∧ r.1 = none ∧ ∀ y ∈ rest, y ∈ vs.toList) _ (fun y rest r u hI => ?_) (fun r u hI => ?_) _ _ ⟨rfl, rfl, fun y hy => hy⟩
      · obtain ⟨rfl, h1, h3⟩ := hI
        obtain ⟨j, hj, _⟩ := hit y (h3 y List.mem_cons_self)
        refine wpAny_bind (ih j y u hj _ _ _ fun b => ?_)
        cases b with
        | true =>
          simp only [Bool.not_true, Bool.false_eq_true, if_false]
          exact wpAny_pure ⟨rfl, rfl, fun z hz => h3 z (List.mem_cons_of_mem _ hz)⟩
        | false =>
          simp only [Bool.not_false, if_true]
          exact wpAny_pure (wpAny_pure (q _))
      · obtain ⟨r1, r2⟩ := r
        obtain ⟨rfl, h1, _⟩ := hI
        simp only at h1
        subst h1
        exact wpAny_pure (q _)
    | _ => exact wpAny_pure (q _)
/-- a search among keys shows nothing -/
theorem key_unseen {s : Shared} {A : Around} {E : Value → Shared → Prop} {Q : Bool → Shared → Prop} {k : NK} {v : Value} (hv : NestedIs s.heap k v ∧ k.depth ≤ 8) {ys : List Value} (hy : ∀ y ∈ ys, ∃ j : NK, NestedIs s.heap j y ∧ j.depth ≤ 8) (q : Q false s) :
    wpAny (model P w) A (searchCouldBeSeen v ys) Q E s := by
  unfold searchCouldBeSeen
  refine wpAny_bind ?_
  refine wpAny_forIn_list _ (fun rest r u => u = s ∧ r.1 = none ∧ ∀ y ∈ rest, y ∈ ys) _ (fun y rest r u hI => ?_) (fun r u hI => ?_) _ _ ⟨rfl, rfl, fun y hy => hy⟩
  · obtain ⟨rfl, h1, h3⟩ := hI
    obtain ⟨j, hj, hjd⟩ := hy y (h3 y List.mem_cons_self)
    dsimp only
    split
    all_goals
      split
      · exact wpAny_pure ⟨rfl, rfl, fun z hz => h3 z (List.mem_cons_of_mem _ hz)⟩
      · refine wpAny_bind (quiet_key k _ 8 u hv.1 hv.2 _ _ _ ?_)
        simp only [Bool.not_true, Bool.false_eq_true, if_false]
        refine wpAny_bind (quiet_key j _ 8 u hj hjd _ _ _ ?_)
        simp only [Bool.not_true, Bool.false_eq_true, if_false]
        refine wpAny_bind (key_noclass 8 k _ u hv.1 hv.2 _ _ _ ?_)
        simp only [Bool.false_eq_true, if_false]
        refine wpAny_bind (key_noclass 8 j _ u hj hjd _ _ _ ?_)
        simp only [Bool.false_eq_true, if_false]
        exact wpAny_pure ⟨rfl, rfl, fun z hz => h3 z (List.mem_cons_of_mem _ hz)⟩
  · obtain ⟨r1, r2⟩ := r
    obtain ⟨rfl, h1, _⟩ := hI
    simp only at h1
    subst h1
    exact wpAny_pure q
end
end DL
end
section
set_option maxHeartbeats 4000000
/-! Sets of keys: adding one. -/
namespace DL
open PySem PySem.Spec PyProof.Rows
theorem perm_lift {α β : Type} (f : α → β) : ∀ {l m : List β}, l.Perm m → ∀ M : List α, m = M.map f → ∃ N : List α, N.Perm M ∧ l = N.map f := by
  intro l m h
  induction h with
  | nil =>
    intro M e
    cases M with
    | nil => exact ⟨[], .nil, rfl⟩
    | cons x M => cases e
  | cons x _ ih =>
    intro M e
    cases M with
    | nil => cases e
    | cons y M =>
      rw [List.map_cons, List.cons.injEq] at e
      obtain ⟨N, h1, h2⟩ := ih M e.2
      exact ⟨y :: N, h1.cons y, by rw [List.map_cons, ← h2, e.1]⟩
  | swap x y l =>
    intro M e
    cases M with
    | nil => cases e
    | cons a M =>
      cases M with
      | nil => cases e
      | cons b M =>
        rw [List.map_cons, List.map_cons, List.cons.injEq, List.cons.injEq] at e
        exact ⟨b :: a :: M, List.Perm.swap a b M, by rw [List.map_cons, List.map_cons, ← e.2.2, e.1, e.2.1]⟩
  | trans _ _ ih1 ih2 =>
    intro M e
    obtain ⟨N, h1, h2⟩ := ih2 M e
    obtain ⟨N', h3, h4⟩ := ih1 N h2
    exact ⟨N', h3.trans h1, h4⟩
section
variable {P : Program} {w : World}
/-- an entry -/
def rowOf (w : World) (p : Value × NK) : Int × Value := (p.2.hash w, p.1)
/-- the set at a: its entries, each a value with its key -/
structure SetG (P : Program) (w : World) (b : Bool) (h : Heap) (a : Addr) (L : List (Value × NK)) (es : Array (Int × Value)) (ep : Nat) (t : SetTable) : Prop where
  ob : ∃ o, h.get? a = some o ∧ o.ExactSet ∧ o.data = .set es ep t
  rows : es.toList = L.map (rowOf w)
  nd : (L.map Prod.snd).Nodup
  its : ∀ p ∈ L, Of P w b h p.2 p.1
  fit : t.fits es.size = true
  ris : L2.Ris t.place.toList
  led : w.params.followText "set-order" = true ∨ t.led = true
  few : L.length < 64
  tab : b = false → L2.TabOk t (L.map fun p => p.2.hash w) ∧ L.length * 5 < t.mask * 3
variable {b : Bool} {h h' : Heap} {a : Addr} {L : List (Value × NK)} {es : Array (Int × Value)} {ep : Nat} {t : SetTable}
theorem SetG.size (R : SetG P w b h a L es ep t) : es.size = L.length := by
  have e := congrArg List.length R.rows
  rwa [Array.length_toList, List.length_map] at e
theorem SetG.small (R : SetG P w b h a L es ep t) : es.size < scanBound := by
  have := R.few
  rw [R.size]
  unfold scanBound
  omega
theorem SetG.row (R : SetG P w b h a L es ep t) {i : Nat} {p : Value × NK} (e : L[i]? = some p) : es[i]? = some (p.2.hash w, p.1) := by
  rw [← Array.getElem?_toList, R.rows, List.getElem?_map, e]
  rfl
theorem SetG.move (R : SetG P w b h a L es ep t) (ha : ∀ o, h.get? a = some o → h'.get? a = some o) (hk : ∀ p ∈ L, Of P w b h' p.2 p.1) : SetG P w b h' a L es ep t := by
  obtain ⟨o, ho, r⟩ := R.ob
  exact ⟨⟨o, ha o ho, r⟩, R.rows, R.nd, hk, R.fit, R.ris, R.led, R.few, R.tab⟩
abbrev newSet (w : World) : Obj := { cls := .type "set", dict := none, data := .set #[] 0 (.fresh 0 0 (!w.params.followText "set-order")) }
theorem setG_new (P : Program) (b : Bool) (ho : h.get? a = some (newSet w)) : SetG P w b h a [] #[] 0 (.fresh 0 0 (!w.params.followText "set-order")) := by
  refine ⟨⟨_, ho, ⟨rfl, rfl, rfl⟩, rfl⟩, rfl, List.nodup_nil, fun p hp => (by cases hp), rfl, List.Pairwise.nil, ?_, by decide, fun _ => ⟨⟨List.Pairwise.nil, rfl, rfl, .inl rfl, fun x hx => (by cases hx), fun i z j hi => (by simp at hi)⟩, by show 0 * 5 < 7 * 3; decide⟩⟩
  show _ ∨ (!w.params.followText "set-order") = true
  cases w.params.followText "set-order"
  · exact .inr rfl
  · exact .inl rfl
/-- what adding leaves: the same, or one more -/
structure Plus (P : Program) (w : World) (b : Bool) (a : Addr) (h : Heap) (L : List (Value × NK)) (x : Value) (k : NK) (h' : Heap) (L' : List (Value × NK)) : Prop where
  but : Heap.SameBut a h h'
  set : ∃ es ep t, SetG P w b h' a L' es ep t
  old : k ∈ L.map Prod.snd → L' = L
  new : k ∉ L.map Prod.snd → L'.Perm ((x, k) :: L)

variable {A : Around} {E : Value → Shared → Prop} {s : Shared} {x : Value} {k : NK}
theorem gives_way (c : Bool) {u : Shared} {Q : Unit → Shared → Prop} (q : Q () u) : wpAny (model P w) A (match c with | true => rule "set.scan.the-table-gave-way" | false => pure ()) Q E u := by
  cases c
  · exact wpAny_pure q
  · exact wpAny_rule q
/-! ### by the scan -/
theorem find_key (P : Program) (h : Heap) {q : L2.Key} : ∀ {L : List (Value × NK)}, (∀ p ∈ L, Of P w true h p.2 p.1) →
    (((L.map (rowOf w)).findIdx? fun e => (L2.mixKind P w).is q e.2) = none → ofKey q ∉ L.map Prod.snd) ∧ ∀ j, ((L.map (rowOf w)).findIdx? fun e => (L2.mixKind P w).is q e.2) = some j → ofKey q ∈ L.map Prod.snd
  | [], _ => ⟨fun _ => by simp, fun j e => by simp at e⟩
  | p :: L, hL => by
    obtain ⟨c1, c2⟩ := find_key P h (q := q) fun p hp => hL p (List.mem_cons_of_mem _ hp)
    obtain ⟨q', ek, iq⟩ := hL p List.mem_cons_self
    rw [List.map_cons, List.map_cons, List.findIdx?_cons]
    have his : (L2.mixKind P w).is q (rowOf w p).2 = decide (q = q') := KeyKind.is_eq_decide (knd := L2.mixKind P w) iq q
    rw [his, ek]
    by_cases e : q = q'
    · subst e
      rw [decide_eq_true rfl]
      exact ⟨fun z => by simp at z, fun _ _ => List.mem_cons_self⟩
    · rw [decide_eq_false e]
      have ne : ofKey q ≠ ofKey q' := fun z => e (ofKey_inj z)
      refine ⟨fun z => ?_, fun j z => ?_⟩
      · have z : List.findIdx? (fun e => (L2.mixKind P w).is q e.2) (L.map (rowOf w)) = none := by simpa using z
        exact fun m => (List.mem_cons.mp m).elim ne (c1 z)
      · cases q2 : List.findIdx? (fun e => (L2.mixKind P w).is q e.2) (L.map (rowOf w)) with
        | none => rw [q2] at z; simp at z
        | some i => exact List.mem_cons_of_mem _ (c2 i q2)
theorem scan_all (R : SetG P w true h a L es ep t) : ElemsOf (L2.mixKind P w) es.toList := by
  intro e he
  rw [R.rows] at he
  obtain ⟨p, hp, rfl⟩ := List.mem_map.mp he
  obtain ⟨q, ek, iq⟩ := R.its p hp
  refine ⟨⟨q, iq, ?_⟩, ?_⟩
  · show p.2.hash w = _
    rw [ek]
    exact ofKey_hash q
  · show p.1.scannable = true
    rcases L2.keyIs_shape iq with ⟨i, u, _, e⟩ | ⟨y, u, _, e⟩ <;> rw [e] <;> rfl
theorem add_scan (R : SetG P w true s.heap a L es ep t) (hx : Of P w true s.heap k x) (room : L.length + 1 < 64) {Q : Bool → Shared → Prop}
    (hQ : ∀ c g M, Plus P w true a s.heap L x k g M → Q c { s with heap := g }) : wpAny (model P w) A (setAddHashed a x (k.hash w)) Q E s := by
  obtain ⟨o, ho, hex, hd⟩ := R.ob
  obtain ⟨q, rfl, iq⟩ := id hx
  have hsc : x.scannable = true := by rcases L2.keyIs_shape iq with ⟨i, u, _, e⟩ | ⟨y, u, _, e⟩ <;> rw [e] <;> rfl
  have hel := scan_all R
  have hsz := R.size
  unfold setAddHashed setAddHashedIn
  refine wpAny_holding (wpAny_bind (wpAny_setState_of ho hd R.fit ?_))
  dsimp only
  rw [byScan_of hsc R.small hel, if_pos rfl]
  unfold setAddByScan
  refine wpAny_bind (wpAny_bind (wpAny_rule (wpAny_bind ?_)))
  rw [ofKey_hash]
  refine wpAny_setScan_of (knd := L2.mixKind P w) iq ho hd R.fit hel ?_
  obtain ⟨f1, f2⟩ := find_key P s.heap (w := w) (q := q) R.its
  rw [R.rows]
  cases hf : (L.map (rowOf w)).findIdx? fun e => (L2.mixKind P w).is q e.2 with
  | some j => exact wpAny_pure (wpAny_pure (hQ _ _ L ⟨Heap.SameBut.refl a s.heap, ⟨es, ep, t, R⟩, fun _ => rfl, fun z => absurd (f2 j hf) z⟩))
  | none =>
    have hk := f1 hf
    dsimp only
    have pm := layNew_perm t es (L2.keyH w q) x
    have g1 := layNew_fits t es (L2.keyH w q) x
    have g2 := L2.layNew_ris t es (L2.keyH w q) x R.ris
    have g3 := L2.layNew_led t es (L2.keyH w q) x
    generalize layNew t es (L2.keyH w q) x = Z at pm g1 g2 g3 ⊢
    obtain ⟨es1, t1, wd, gv⟩ := Z
    dsimp only at pm g1 g2 g3 ⊢
    have pc : es1.toList.Perm (((x, ofKey q) :: L).map (rowOf w)) := by
      rw [Array.toList_push, R.rows] at pm
      refine pm.trans ((List.perm_append_singleton _ _).trans ?_)
      rw [List.map_cons]
      unfold rowOf
      rw [ofKey_hash]
    obtain ⟨M, pM, eM⟩ := perm_lift (rowOf w) pc _ rfl
    have lM : M.length = L.length + 1 := pM.length_eq
    have z1 : es1.size = L.length + 1 := by rw [← Array.length_toList, eM, List.length_map, lM]
    have b1 : es1.size < scanBound := by rw [z1]; unfold scanBound; omega
    have ndM : (M.map Prod.snd).Nodup := (pM.map Prod.snd).nodup_iff.mpr (by rw [List.map_cons]; exact List.nodup_cons.mpr ⟨hk, R.nd⟩)
    have led1 : w.params.followText "set-order" = true ∨ t1.led = true := R.led.imp id fun z => by rw [g3]; exact z
    have last : ∀ g : Heap, Heap.SameBut a s.heap g → ∀ p ∈ M, Of P w true g p.2 p.1 := fun g hg p hp => by
      rcases List.mem_cons.mp (pM.mem_iff.mp hp) with z | z
      · rw [z]; exact hx.but ho hd hg
      · exact (R.its p z).but ho hd hg
    have fin : ∀ (g : Heap) (es2 : Array (Int × Value)) (ep2 : Nat) (t2 : SetTable) (o2 : Obj), Heap.SameBut a s.heap g → g.get? a = some o2 → o2.ExactSet → o2.data = .set es2 ep2 t2 → es2.toList.Perm es1.toList → t2.fits es2.size = true → L2.Ris t2.place.toList →
        (w.params.followText "set-order" = true ∨ t2.led = true) → Q true { s with heap := g } := fun g es2 ep2 t2 o2 sb e1 e2 e3 pp e4 e5 e6 => by
      obtain ⟨M2, p2, eM2⟩ := perm_lift (rowOf w) pp M eM
      exact hQ _ _ M2 ⟨sb, ⟨es2, ep2, t2, ⟨o2, e1, e2, e3⟩, eM2, (p2.map Prod.snd).nodup_iff.mpr ndM, fun p hp => last g sb p (p2.mem_iff.mp hp), e4, e5, e6, by rw [p2.length_eq, lM]; exact room, fun z => by cases z⟩, fun z => absurd z hk, fun _ => p2.trans pM⟩
    refine wpAny_bind (gives_way gv ?_)
    -- by value or not: the table's mark alone
    have rest : ∀ t2 : SetTable, t2.fits es1.size = true → L2.Ris t2.place.toList → (w.params.followText "set-order" = true ∨ t2.led = true) → wpAny (model P w) A (do
        storeSet a es1 t2
        if (!wd && t2.tooFull) = true then do
            (match (relayAll t2 es1 (SetTable.grown es1.size)).2.2 with | true => rule "set.scan.the-table-gave-way" | false => pure ())
            storeSet a (relayAll t2 es1 (SetTable.grown es1.size)).1 (relayAll t2 es1 (SetTable.grown es1.size)).2.1
            pure (some true)
          else pure (some true)) (fun r s' => wpAny (model P w) A (match r with | some added => pure added | none => setAddHashedIn a x (L2.keyH w q) 99999) Q E s') E s := fun t2 c1 c2 c3 => by
      refine wpAny_bind (wpAny_storeSet_of ho hd ?_ (fits_of_scanBound b1))
      have ho1 := L2.store_at (es' := es1) (t' := t2) ho hd
      have sb1 := Heap.SameBut.update s.heap a (Obj.putSet es1 t2)
      split
      · have y1 := relayAll_perm t2 es1 (SetTable.grown es1.size)
        have y2 := relayAll_fits t2 es1 (SetTable.grown es1.size)
        have y3 := L2.relayAll_ris t2 es1 (SetTable.grown es1.size)
        have y4 := L2.relayAll_led t2 es1 (SetTable.grown es1.size)
        generalize relayAll t2 es1 (SetTable.grown es1.size) = Z at y1 y2 y3 y4 ⊢
        obtain ⟨es2, t3, gv2⟩ := Z
        dsimp only at y1 y2 y3 y4 ⊢
        have z2 : es2.size = es1.size := by rw [← Array.length_toList, y1.length_eq, Array.length_toList]
        refine wpAny_bind (gives_way gv2 ?_)
        refine wpAny_bind (wpAny_storeSet_of ho1 rfl ?_ (fits_of_scanBound (by rw [z2]; exact b1)))
        exact wpAny_pure (wpAny_pure (fin _ es2 _ t3 _ (sb1.trans (Heap.SameBut.update _ a _)) (L2.store_at (es' := es2) (t' := t3) ho1 rfl) ⟨hex.1, hex.2.1, hex.2.2⟩ rfl y1 y2 y3 (by rw [y4]; exact c3)))
      · exact wpAny_pure (wpAny_pure (fin _ es1 _ t2 _ sb1 ho1 ⟨hex.1, hex.2.1, hex.2.2⟩ rfl (List.Perm.refl _) c1 c2 c3))
    by_cases hp : t1.plain = true
    · rw [if_pos hp]
      refine wpAny_bind (key_byvalue 8 _ x s hx.nest.1 _ _ _ fun c => ?_)
      cases c with
      | true => exact rest t1 g1 g2 led1
      | false => exact rest { t1 with plain := false } g1 g2 led1
    · rw [if_neg hp]
      refine wpAny_bind (wpAny_pure ?_)
      exact rest t1 g1 g2 led1
end
end DL
end
section
set_option maxHeartbeats 4000000
/-! Sets of keys: adding a tuple, by the table. -/
namespace DL
open PySem PySem.Spec PyProof.Rows
section
variable {P : Program} {w : World} {a : Addr} {L : List (Value × NK)} {es : Array (Int × Value)} {ep : Nat} {t : SetTable} {A : Around} {E : Value → Shared → Prop} {s : Shared} {x : Value} {k : NK}
theorem SetG.odd (R : SetG P w false s.heap a L es ep t) : ¬ t.gaveWay = true := by
  unfold SetTable.gaveWay
  rw [L2.mask_odd (R.tab rfl).1.mok]
  decide
/-- the c-th stop of a search for the hash z -/
def stop (m : Nat) (z : Int) (c : Nat) : SetTable.Probe := L2.nth m (L2.runAt m (SetTable.bits z % (m + 1)) (SetTable.bits z)) c
theorem stop_j (m : Nat) (z : Int) (c : Nat) : (stop m z c).j = L2.way m z c := rfl
theorem stop_add (m : Nat) (z : Int) (c d : Nat) : L2.nth m (stop m z c) d = stop m z (c + d) := (L2.nth_add m c _ d).symm
theorem nth_dummy (m : Nat) : ∀ (n : Nat) (p : SetTable.Probe), p.dummy = none → (L2.nth m p n).dummy = none
  | 0, _, h => h
  | n + 1, p, h => nth_dummy m n (L2.adv m p) (by unfold L2.adv; split <;> exact h)
theorem stop_dummy (m : Nat) (z : Int) (c : Nat) : (stop m z c).dummy = none := nth_dummy m c _ rfl
/-- one stop of the search: behind a candidate -/
theorem look_on (R : SetG P w false s.heap a L es ep t) (hx : Of P w false s.heap k x) (hu : A.units + 8 < cLine) {f j i : Nat} {nx : SetTable.Probe} {p : Value × NK} (hp : L[i]? = some p) (hj : t.place.toList[i]? = some j) {Q : SetFound → Shared → Prop}
    (yes : p.2 = k → Q (.there none) s) (no : p.2 ≠ k → wpAny (model P w) A (setSearchFrom a x (k.hash w) true f (some nx)) Q E s) : wpAny (model P w) A (L2.searchRest a x (k.hash w) true f es t j i nx) Q E s := by
  obtain ⟨o, ho, hex, hd⟩ := R.ob
  have hpk := R.its p (List.mem_of_getElem? hp)
  obtain ⟨⟨c, ec⟩, h1, h2⟩ := id hpk
  unfold L2.searchRest
  rw [R.row hp]
  dsimp only
  refine wpAny_bind (wpAny_holding (eqAt_key p.2 k A s _ _ h1 hx.nest.1 (by omega) _ _ _ _ ?_))
  rw [← NestedKey.decide_eq]
  refine wpAny_bind (wpAny_setState_of ho hd R.fit ?_)
  dsimp only
  by_cases e : p.2 = k
  · exact L2.wp_if_pos (by simp [e]) (wpAny_pure (yes e))
  · refine L2.wp_if_neg (by simp [e]) ?_
    try refine wpAny_bind (wpAny_pure ?_)
    rw [L2.sameMem]
    dsimp only
    simp only [if_true, L2.slot_live (R.tab rfl).1.ris hj, R.row hp]
    rw [ec]
    refine wpAny_bind (wpAny_isSame_ref_self (wpAny_bind (wpAny_pure ?_)))
    simp only [if_true]
    exact L2.wp_if_neg (by simp [e]) (no e)
theorem look_from (R : SetG P w false s.heap a L es ep t) (hx : Of P w false s.heap k x) (hu : A.units + 8 < cLine) {N : Nat} (hN : N < 10 * SetTable.turns t.mask)
    (free : L2.way t.mask (k.hash w) N ∉ t.place.toList) (occ : ∀ c, c < N → L2.way t.mask (k.hash w) c ∈ t.place.toList) {Q : SetFound → Shared → Prop}
    (yes : k ∈ L.map Prod.snd → Q (.there none) s) (no : k ∉ L.map Prod.snd → Q (.free (L2.way t.mask (k.hash w) N) false) s) :
    ∀ (f c : Nat) (from_ : Option SetTable.Probe), from_.getD (t.probeStart (k.hash w)) = stop t.mask (k.hash w) c → c ≤ N → N < c + f →
      (∀ (i : Nat) p, L[i]? = some p → p.2 = k → ∃ d, c ≤ d ∧ d < N ∧ t.place.toList[i]? = some (L2.way t.mask (k.hash w) d)) →
      wpAny (model P w) A (setSearchFrom a x (k.hash w) true f from_) Q E s := by
  obtain ⟨o, ho, hex, hd⟩ := R.ob
  obtain ⟨T, hroom⟩ := R.tab rfl
  intro f
  induction f with
  | zero => intro c _ _ h1 h2; omega
  | succ f ih =>
    intro c from_ hst hc hf ahead
    have len : t.place.toList.length = L.length := by
      have z := T.sz
      rw [List.length_map] at z
      rw [Array.length_toList, z]
    have hashes : ∀ (i : Nat) p, L[i]? = some p → (es[i]?.map (·.1)).getD 0 = p.2.hash w := fun i p e => by rw [R.row e]; rfl
    rw [L2.setSearchFrom_succ]
    refine wpAny_bind (wpAny_setState_of ho hd R.fit ?_)
    dsimp only
    refine L2.wp_if_neg R.odd ?_
    try refine wpAny_bind (wpAny_pure ?_)
    have ways : ∀ q, (L2.nth t.mask (stop t.mask (k.hash w) c) q).j = L2.way t.mask (k.hash w) (c + q) := fun q => congrArg SetTable.Probe.j (stop_add _ _ _ _)
    have cN : c + (N - c) = N := by omega
    have spec := L2.go_spec t T.ris T.dm (fun i => (es[i]?.map (·.1)).getD 0) (k.hash w) (10 * SetTable.turns t.mask) (N - c) (stop t.mask (k.hash w) c) (stop_dummy _ _ _) (by omega)
      (fun q hq => by rw [ways]; exact occ (c + q) (by omega)) (by rw [ways, cN]; exact free)
    rcases spec with ⟨q, i, hq, hi, hh, before, met⟩ | ⟨before, met⟩
    · have met' : t.probe (fun i => (es[i]?.map (·.1)).getD 0) (k.hash w) (from_.getD (t.probeStart (k.hash w))) = some (.candidate (L2.way t.mask (k.hash w) (c + q)) i (stop t.mask (k.hash w) (c + (q + 1)))) := by
        rw [hst, ← ways, ← stop_add]
        exact met
      rw [met']
      dsimp only
      rw [ways] at hi
      have hiL : i < L.length := by
        rw [← len]
        exact (List.getElem?_eq_some_iff.mp hi).1
      have hp := List.getElem?_eq_getElem hiL
      generalize L[i] = p at hp
      have go : wpAny (model P w) A (L2.searchRest a x (k.hash w) true f es t (L2.way t.mask (k.hash w) (c + q)) i (stop t.mask (k.hash w) (c + (q + 1)))) Q E s := by
        refine look_on R hx hu hp hi (fun e => yes (List.mem_map.mpr ⟨p, List.mem_of_getElem? hp, e⟩)) fun ne => ?_
        refine ih (c + (q + 1)) _ rfl (by omega) (by omega) fun i0 p0 e0 ek => ?_
        obtain ⟨d, d1, d2, d3⟩ := ahead i0 p0 e0 ek
        refine ⟨d, ?_, d2, d3⟩
        have d4 : ¬ d < c + q := fun z => by
          refine before (d - c) i0 (by omega) (by rw [ways, show c + (d - c) = d by omega]; exact d3) ?_
          exact (hashes i0 p0 e0).trans (congrArg (fun z : NK => z.hash w) ek)
        have d5 : d ≠ c + q := fun z => by
          rw [z] at d3
          have y1 := L2.slot_live T.ris d3
          rw [L2.slot_live T.ris hi] at y1
          injection y1 with y1
          rw [← y1, hp] at e0
          exact ne ((congrArg Prod.snd (Option.some.inj e0)).trans ek)
        omega
      by_cases hl : t.led = true
      · refine L2.wp_if_neg (by simp [hl]) ?_
        try refine wpAny_bind (wpAny_pure ?_)
        exact go
      · refine L2.wp_if_pos (by simp [hl]) ?_
        refine wpAny_bind (key_unseen hx.nest (fun y hy => ?_) ?_)
        · obtain ⟨e, he, ee⟩ := List.mem_map.mp hy
          have he1 : e ∈ es ∧ e.1 = k.hash w := by simpa using he
          have he2 : e ∈ es.toList := by simpa using he1.1
          rw [R.rows] at he2
          obtain ⟨p2, hp2, e2⟩ := List.mem_map.mp he2
          refine ⟨p2.2, ?_⟩
          rw [← ee, ← e2]
          exact (R.its p2 hp2).nest
        · refine L2.wp_if_neg (by decide) ?_
          try refine wpAny_bind (wpAny_pure ?_)
          exact go
    · have met' : t.probe (fun i => (es[i]?.map (·.1)).getD 0) (k.hash w) (from_.getD (t.probeStart (k.hash w))) = some (.empty (L2.way t.mask (k.hash w) N) none) := by
        have e2 : L2.way t.mask (k.hash w) N = (L2.nth t.mask (stop t.mask (k.hash w) c) (N - c)).j := by rw [ways, cN]
        rw [hst, e2]
        exact met
      rw [met']
      dsimp only
      refine wpAny_pure (no fun hm => ?_)
      obtain ⟨p0, h0, ek⟩ := List.mem_map.mp hm
      obtain ⟨i0, e0⟩ := List.mem_iff_getElem?.mp h0
      obtain ⟨d, d1, d2, d3⟩ := ahead i0 p0 e0 ek
      refine before (d - c) i0 (by omega) (by rw [ways, show c + (d - c) = d by omega]; exact d3) ?_
      exact (hashes i0 p0 e0).trans (congrArg (fun z : NK => z.hash w) ek)
theorem look_at (R : SetG P w false s.heap a L es ep t) (hx : Of P w false s.heap k x) (hu : A.units + 8 < cLine) {Q : SetFound → Shared → Prop} (yes : k ∈ L.map Prod.snd → Q (.there none) s)
    (no : ∀ N, k ∉ L.map Prod.snd → L2.way t.mask (k.hash w) N ∉ t.place.toList → (∀ c, c < N → L2.way t.mask (k.hash w) c ∈ t.place.toList) → Q (.free (L2.way t.mask (k.hash w) N) false) s) : wpAny (model P w) A (setSearch a x (k.hash w) true) Q E s := by
  obtain ⟨T, hroom⟩ := R.tab rfl
  obtain ⟨N, n1, n2, n3⟩ := T.first (by rw [List.length_map]; omega) (k.hash w)
  have few : 10 * SetTable.turns t.mask ≤ 1420 := by
    unfold SetTable.turns
    rcases T.mok with e | e | e <;> rw [e] <;> decide
  unfold setSearch
  refine look_from R hx hu n1 n2 n3 yes (fun h => no N h n2 n3) 100000 0 none rfl (Nat.zero_le _) (by omega) fun i p hp ek => ?_
  have e1 : (L.map fun p => p.2.hash w)[i]? = some (k.hash w) := by rw [List.getElem?_map, hp, ← ek]; rfl
  have hi : i < t.place.toList.length := by
    have z := T.sz
    rw [List.length_map] at z
    rw [Array.length_toList, z]
    exact (List.getElem?_eq_some_iff.mp hp).1
  obtain ⟨d, d1, d2⟩ := T.before n2 e1 (List.getElem?_eq_getElem hi)
  exact ⟨d, Nat.zero_le _, d1, by rw [List.getElem?_eq_getElem hi, d2]⟩
/-! ### the table laid anew -/
theorem pick_rows (es : Array (Int × Value)) : ∀ l : List Nat, (∀ i ∈ l, i < es.size) → (l.filterMap fun i => es[i]?).map (·.1) = l.map fun i => (es.map (·.1)).getD i 0
  | [], _ => rfl
  | i :: l, h => by
    have hi := h i List.mem_cons_self
    rw [List.filterMap_cons_some (Array.getElem?_eq_getElem hi), List.map_cons, List.map_cons, pick_rows es l fun j hj => h j (List.mem_cons_of_mem _ hj)]
    simp [Array.getD_eq_getD_getElem?, hi]
theorem range_rows (es : Array (Int × Value)) : ((List.range es.size).filterMap fun i => es[i]?) = es.toList := by
  have key : ∀ n, n ≤ es.size → ((List.range n).filterMap fun i => es[i]?) = es.toList.take n := by
    intro n
    induction n with
    | zero => intro _; rfl
    | succ n ih =>
      intro hn
      have hlt : n < es.toList.length := by rw [Array.length_toList]; exact hn
      rw [List.range_succ, List.filterMap_append, ih (Nat.le_of_lt hn), List.take_succ, List.getElem?_eq_getElem hlt]
      have e : es[n]? = some (es.toList[n]) := by rw [← Array.getElem?_toList]; exact List.getElem?_eq_getElem hlt
      rw [List.filterMap_cons_some e]
      rfl
  rw [key es.size (Nat.le_refl _), List.take_of_length_le (Nat.le_of_eq (by rw [Array.length_toList]))]
theorem lay_anew {o : Obj} (ho : s.heap.get? a = some o) (hex : o.ExactSet) (hd : o.data = .set es ep t) (rows : es.toList = L.map (rowOf w)) (fit : t.fits es.size = true) (few : L.length < 64) {n M : Nat}
    (e1 : SetTable.sizeAbove n - 1 = M) (e2 : L2.MaskOk M) (e3 : SetTable.sizeAbove n ≤ 128) (e4 : L.length * 5 < M * 3) {Q : Unit → Shared → Prop}
    (hQ : ∀ (g : Heap) (L' : List (Value × NK)) (es' : Array (Int × Value)) (t' : SetTable), Heap.SameBut a s.heap g → g.get? a = some { o with data := .set es' (ep + 1) t' } → es'.toList = L'.map (rowOf w) → L'.Perm L → L2.TabOk t' (L'.map fun p => p.2.hash w) → L'.length * 5 < t'.mask * 3 → t'.fits es'.size = true → t'.led = t.led → Q () { s with heap := g }) :
    wpAny (model P w) A (setRelay a n) Q E s := by
  have sz : es.size = L.length := by
    have e := congrArg List.length rows
    rwa [Array.length_toList, List.length_map] at e
  obtain ⟨t', order, re, hp, T, em, el, epl, ed⟩ := L2.relaid_ok t (hs := es.map (·.1)) e1 e2 (by rw [Array.size_map, sz]; omega)
  rw [Array.size_map] at hp
  have pp : ((order.filterMap (es[·]?)).toList).Perm es.toList := by
    have e : (order.filterMap (es[·]?)).toList = order.toList.filterMap fun i => es[i]? := by simp
    rw [e, ← range_rows es]
    exact hp.filterMap _
  obtain ⟨L', pL, eL⟩ := perm_lift (rowOf w) pp L rows
  have hh : (order.toList.map fun i => (es.map (·.1)).getD i 0) = L'.map fun p => p.2.hash w := by
    rw [← pick_rows es order.toList fun i hi => List.mem_range.mp (hp.mem_iff.mp hi)]
    have e : (order.filterMap (es[·]?)).toList = order.toList.filterMap fun i => es[i]? := by simp
    rw [← e, eL, List.map_map]
    rfl
  rw [hh] at T
  have sz2 : (order.filterMap (es[·]?)).size = es.size := by rw [← Array.length_toList, pp.length_eq, Array.length_toList]
  rw [L2.setRelay_eq]
  refine wpAny_bind (wpAny_setState_of ho hd fit ?_)
  dsimp only
  refine L2.wp_if_neg (by rw [sizeLine_eq]; omega) ?_
  try refine wpAny_bind (wpAny_pure ?_)
  rw [re]
  dsimp only
  refine wpAny_bind ?_
  refine L2.wp_if_neg (by rw [sz2]; simp) ?_
  try refine wpAny_bind (wpAny_pure ?_)
  refine wpAny_pure ?_
  dsimp only
  refine wpAny_storeSet_of ho hd ?_ (by rw [sz2, sz, sizeLine_eq]; omega)
  have fit' : t'.fits (order.filterMap (es[·]?)).size = true := by
    have z := T.sz
    rw [List.length_map, pL.length_eq] at z
    unfold SetTable.fits SetTable.fill
    rw [ed, Bool.and_eq_true, beq_iff_eq, decide_eq_true_eq, sz2, sz]
    show t'.place.size = L.length ∧ t'.place.size + 0 ≤ t'.mask
    omega
  exact hQ _ L' _ t' (Heap.SameBut.update ..) (L2.store_at ho hd) eL pL T (by rw [pL.length_eq, em]; exact e4) fit' el
theorem tab_fit {t : SetTable} {hs : List Int} {n : Nat} (T : L2.TabOk t hs) (e : hs.length = n) (h : n ≤ t.mask) : t.fits n = true := by
  have z := T.sz
  unfold SetTable.fits SetTable.fill
  rw [T.dm, Bool.and_eq_true, beq_iff_eq, decide_eq_true_eq]
  show t.place.size = n ∧ t.place.size + 0 ≤ t.mask
  omega
theorem tab_plain {t : SetTable} {hs : List Int} (c : Bool) (T : L2.TabOk t hs) : L2.TabOk (if c = true then t else { t with plain := false }) hs := by
  cases c with
  | true => exact T
  | false => exact ⟨T.ris, T.dm, T.sz, T.mok, T.bd, T.reach⟩
theorem add_tab (R : SetG P w false s.heap a L es ep t) (hx : Of P w false s.heap k x) (room : L.length + 1 < 64) (hu : A.units + 8 < cLine) {Q : Bool → Shared → Prop}
    (hQ : ∀ c g M, Plus P w false a s.heap L x k g M → Q c { s with heap := g }) : wpAny (model P w) A (setAddHashed a x (k.hash w)) Q E s := by
  obtain ⟨o, ho, hex, hd⟩ := R.ob
  obtain ⟨T, full⟩ := R.tab rfl
  have sz := R.size
  have hns : x.scannable = false := by
    obtain ⟨⟨c, rfl⟩, _⟩ := hx
    rfl
  unfold setAddHashed
  refine wpAny_holding ?_
  rw [show (100000 : Nat) = 99999 + 1 from rfl, L2.setAddHashedIn_succ]
  refine wpAny_bind (wpAny_setState_of ho hd R.fit ?_)
  dsimp only
  refine L2.wp_if_neg (by simp [byScan, hns]) ?_
  try refine wpAny_bind (wpAny_pure ?_)
  refine wpAny_bind (look_at R hx hu (fun hm => ?_) fun N hm n1 n2 => ?_)
  · dsimp only
    exact wpAny_pure (hQ false s.heap L ⟨Heap.SameBut.refl a s.heap, ⟨es, ep, t, R⟩, fun _ => rfl, fun z => absurd hm z⟩)
  · dsimp only
    refine wpAny_bind (wpAny_setState_of ho hd R.fit ?_)
    dsimp only
    obtain ⟨q1, q2, q3, q4, q5, q6, q7, q8, q9⟩ := T.put n1 n2
    generalize hpt : t.put (L2.way t.mask (k.hash w) N) = pt at q1 q3 q4 q5 q6 q7 q8 q9 ⊢
    obtain ⟨t1, p⟩ := pt
    dsimp only at q1 q3 q4 q5 q6 q7 q8 q9 ⊢
    subst q1
    generalize SetTable.below t.place (L2.way t.mask (k.hash w) N) = p at q2 q3 ⊢
    have pm : (L.take p ++ (x, k) :: L.drop p).Perm ((x, k) :: L) := by
      have z : (L.take p ++ (x, k) :: L.drop p).Perm ((x, k) :: (L.take p ++ L.drop p)) := List.perm_middle
      rwa [List.take_append_drop] at z
    have rows1 : (SetTable.insertAt es p (k.hash w, x)).toList = (L.take p ++ (x, k) :: L.drop p).map (rowOf w) := by
      rw [SetTable.toList_insertAt, R.rows, List.map_append, List.map_cons, List.map_take, List.map_drop]
      rfl
    have hash1 : (L.map fun p => p.2.hash w).take p ++ k.hash w :: (L.map fun p => p.2.hash w).drop p = (L.take p ++ (x, k) :: L.drop p).map fun p => p.2.hash w := by
      rw [List.map_append, List.map_cons, List.map_take, List.map_drop]
    rw [hash1] at q3
    rw [sz]
    generalize SetTable.insertAt es p (k.hash w, x) = es1 at rows1 ⊢
    generalize L.take p ++ (x, k) :: L.drop p = M at pm rows1 q3
    have lM : M.length = L.length + 1 := pm.length_eq
    have sz1 : es1.size = L.length + 1 := by
      have e := congrArg List.length rows1
      rwa [Array.length_toList, List.length_map, lM] at e
    have ndM : (M.map Prod.snd).Nodup := (pm.map Prod.snd).nodup_iff.mpr (by rw [List.map_cons]; exact List.nodup_cons.mpr ⟨hm, R.nd⟩)
    have last : ∀ g : Heap, Heap.SameBut a s.heap g → ∀ p ∈ M, Of P w false g p.2 p.1 := fun g hg p hp => by
      rcases List.mem_cons.mp (pm.mem_iff.mp hp) with z | z
      · rw [z]; exact hx.but ho hd hg
      · exact (R.its p z).but ho hd hg
    have rest : ∀ c : Bool, wpAny (model P w) A (do
        storeSet a es1 (if c = true then t1 else { t1 with plain := false })
        if (!false && (if c = true then t1 else { t1 with plain := false }).tooFull) = true then do
          setRelay a (SetTable.grown (L.length + 1))
          pure true
        else pure true) Q E s := fun c => by
      have T2 := tab_plain c q3
      have m2 : (if c = true then t1 else { t1 with plain := false }).mask = t.mask := by cases c <;> exact q4
      have l2 : (if c = true then t1 else { t1 with plain := false }).led = t.led := by cases c <;> exact q5
      have f2 : (if c = true then t1 else { t1 with plain := false }).fill = L.length + 1 := by cases c <;> (rw [List.length_map] at q9; exact q9)
      generalize (if c = true then t1 else { t1 with plain := false }) = t2 at T2 m2 l2 f2 ⊢
      have fit2 : t2.fits es1.size = true := by
        rw [sz1]
        refine tab_fit T2 (by rw [List.length_map, lM]) ?_
        rw [m2]
        omega
      refine wpAny_bind (wpAny_storeSet_of ho hd ?_ (by rw [sz1, sizeLine_eq]; omega))
      have ho1 := L2.store_at (es' := es1) (t' := t2) ho hd
      have sb1 : Heap.SameBut a s.heap (s.heap.update a (Obj.putSet es1 t2)) := Heap.SameBut.update ..
      generalize s.heap.update a (Obj.putSet es1 t2) = g1 at ho1 sb1 ⊢
      have led2 : w.params.followText "set-order" = true ∨ t2.led = true := R.led.imp id fun z => by rw [l2]; exact z
      by_cases hf : t2.tooFull = true
      · refine L2.wp_if_pos (by simp [hf]) ?_
        have hfull : (L.length + 1) * 5 ≥ t2.mask * 3 := by
          unfold SetTable.tooFull at hf
          rwa [decide_eq_true_eq, f2] at hf
        have go : ∀ m, SetTable.sizeAbove (SetTable.grown (L.length + 1)) - 1 = m → L2.MaskOk m → SetTable.sizeAbove (SetTable.grown (L.length + 1)) ≤ 128 → (L.length + 1) * 5 < m * 3 →
            wpAny (model P w) A (do setRelay a (SetTable.grown (L.length + 1)); pure true) Q E { s with heap := g1 } := fun m h1 h2 h3 h4 => by
          refine wpAny_bind (lay_anew (s := { s with heap := g1 }) ho1 ⟨hex.1, hex.2.1, hex.2.2⟩ rfl rows1 fit2 (by rw [lM]; exact room) h1 h2 h3 (by rw [lM]; exact h4) fun g2 M2 es3 t3 sb2 y1 y2 y3 y4 y5 y6 y7 => ?_)
          have sb3 := sb1.trans sb2
          exact wpAny_pure (hQ true g2 M2 ⟨sb3, ⟨es3, _, t3, ⟨_, y1, ⟨hex.1, hex.2.1, hex.2.2⟩, rfl⟩, y2, (y3.map Prod.snd).nodup_iff.mpr ndM, fun p hp => last g2 sb3 p (y3.mem_iff.mp hp), y6, y4.ris, led2.imp id fun z => by rw [y7]; exact z, by rw [y3.length_eq, lM]; exact room, fun _ => ⟨y4, y5⟩⟩, fun z => absurd z hm, fun _ => y3.trans pm⟩)
        have two : (t.mask = 7 ∧ L.length = 4) ∨ (t.mask = 31 ∧ L.length = 18) := by
          rw [m2] at hfull
          rcases T.mok with e | e | e
          · exact .inl ⟨e, by omega⟩
          · exact .inr ⟨e, by omega⟩
          · omega
        rcases two with ⟨_, e⟩ | ⟨_, e⟩
        · exact go 31 (by rw [e, L2.size_20]) (.inr (.inl rfl)) (by rw [e, L2.size_20]; decide) (by omega)
        · exact go 127 (by rw [e, L2.size_76]) (.inr (.inr rfl)) (by rw [e, L2.size_76]; decide) (by omega)
      · refine L2.wp_if_neg (by simp [hf]) ?_
        refine wpAny_pure (hQ true g1 M ⟨sb1, ⟨es1, _, t2, ⟨_, ho1, ⟨hex.1, hex.2.1, hex.2.2⟩, rfl⟩, rows1, ndM, last g1 sb1, fit2, T2.ris, led2, by rw [lM]; exact room, fun _ => ⟨T2, ?_⟩⟩, fun z => absurd z hm, fun _ => pm⟩)
        unfold SetTable.tooFull at hf
        rw [decide_eq_true_eq, f2] at hf
        rw [lM]
        omega
    by_cases hp : t1.plain = true
    · rw [if_pos hp]
      exact wpAny_bind (key_byvalue 8 k x s hx.nest.1 _ _ _ fun c => rest c)
    · rw [if_neg hp]
      exact wpAny_bind (wpAny_pure (rest true))
/-- adding one, either way -/
theorem add_key {b : Bool} (R : SetG P w b s.heap a L es ep t) (hx : Of P w b s.heap k x) (room : L.length + 1 < 64) (hu : A.units + 8 < cLine) {Q : Bool → Shared → Prop}
    (hQ : ∀ c g tk M, s.toks ≤ tk → Plus P w b a s.heap L x k g M → Q c { s with heap := g, toks := tk }) : wpAny (model P w) A (setAdd a x) Q E s := by
  unfold setAdd
  refine wpAny_holding (wpAny_bind (pyHash_key k x A s _ hx.nest.1 (by have := hx.nest.2; omega) ?_))
  cases b with
  | true => exact add_scan (s := { s with toks := s.toks + k.draws }) R hx room fun c g M p => hQ c g _ M (Nat.le_add_right _ _) p
  | false => exact add_tab (s := { s with toks := s.toks + k.draws }) R hx room hu fun c g M p => hQ c g _ M (Nat.le_add_right _ _) p
end
end DL
end
section
set_option maxHeartbeats 4000000
/-! Sets of keys: set(xs), xs a list or a tuple; sorted(set). -/
namespace DL
open PySem PySem.Spec PyProof.Rows
/-- from the first i items -/
structure Took (ks : List (Value × NK)) (i : Nat) (L : List (Value × NK)) : Prop where
  sub : ∀ p ∈ L, p ∈ ks.take i
  all : ∀ p ∈ ks.take i, p.2 ∈ L.map Prod.snd
  len : L.length ≤ i
theorem take_snoc {α : Type} {l : List α} {i : Nat} {x : α} (h : l[i]? = some x) : l.take (i + 1) = l.take i ++ [x] := by
  rw [List.take_add_one, h]
  rfl
section
variable {P : Program} {w : World} {A : Around} {E : Value → Shared → Prop} {s : Shared}
theorem Took.next {b : Bool} {a : Addr} {h h' : Heap} {ks L M : List (Value × NK)} {i : Nat} {p : Value × NK} (g : Took ks i L) (e : ks[i]? = some p) (x : Plus P w b a h L p.1 p.2 h' M) : Took ks (i + 1) M := by
  have tk := take_snoc e
  by_cases m : p.2 ∈ L.map Prod.snd
  · rw [x.old m]
    refine ⟨fun q hq => ?_, fun q hq => ?_, Nat.le_succ_of_le g.len⟩
    · rw [tk]
      exact List.mem_append_left _ (g.sub q hq)
    · rw [tk, List.mem_append, List.mem_singleton] at hq
      rcases hq with z | z
      · exact g.all q z
      · rw [z]; exact m
  · have pm := x.new m
    refine ⟨fun q hq => ?_, fun q hq => ?_, ?_⟩
    · rw [tk]
      rcases List.mem_cons.mp (pm.mem_iff.mp hq) with z | z
      · rw [z]; exact List.mem_append_right _ List.mem_cons_self
      · exact List.mem_append_left _ (g.sub q z)
    · rw [(pm.map Prod.snd).mem_iff, List.map_cons]
      rw [tk, List.mem_append, List.mem_singleton] at hq
      rcases hq with z | z
      · exact List.mem_cons_of_mem _ (g.all q z)
      · rw [z]; exact List.mem_cons_self
    · rw [pm.length_eq, List.length_cons]
      exact Nat.succ_le_succ g.len
theorem fill_loop {b : Bool} {I a : Addr} {fp wr : List Addr} {G : Array GenState → Array GenState → Prop} {n : Nat} {Pv : Nat → Value → Prop} {Sv : Nat → Shared → Prop} {R : Result → Shared → Prop}
    (W : WalksS P w A.in1 I fp wr G n Pv Sv) (ha : a ∉ fp) (ks : List (Value × NK)) (hn : n = ks.length) (few : ks.length < 64) (val : ∀ i v, Pv i v → ∃ p, ks[i]? = some p ∧ p.1 = v)
    (h0 : Heap) (hk : ∀ p ∈ ks, Of P w b h0 p.2 p.1) (ha0 : h0.get? a = none) (hw0 : ∀ c ∈ wr, h0.get? c = none) (hu : A.in1.units + 8 < cLine) :
    ∀ (m i : Nat) (s : Shared), n = i + m → Sv i s → (∀ c o, h0.get? c = some o → s.heap.get? c = some o) → (∃ L es ep t, SetG P w b s.heap a L es ep t ∧ Took ks i L) →
      (∀ s' L es ep t, Moved (a :: wr) G s s' → SetG P w b s'.heap a L es ep t → Took ks n L → (∀ c o, h0.get? c = some o → s'.heap.get? c = some o) → R (.ok (.ret .none)) s') →
      codeAny (model P w) A (.builtin "set.update.loop" ⟨[.ref a, .ref I], []⟩) R s := by
  have haw : a ∉ wr := fun z => ha (W.sub _ z)
  have more : ∀ c ∈ wr, c ∈ a :: wr := fun c z => List.mem_cons_of_mem _ z
  have kept : ∀ {s s' : Shared}, Moved wr G s s' → (∀ c o, h0.get? c = some o → s.heap.get? c = some o) → ∀ c o, h0.get? c = some o → s'.heap.get? c = some o := fun hm k c o e =>
    hm.heap c o (fun z => by rw [hw0 c z] at e; cases e) (k c o e)
  have inks : ∀ {i : Nat} {L : List (Value × NK)}, Took ks i L → ∀ p ∈ L, p ∈ ks := fun g p hp => List.mem_of_mem_take (g.sub p hp)
  intro m
  induction m with
  | zero =>
    intro i s hi hst k0 ⟨L, es, ep, t, hS, g⟩ fin
    cases (show n = i from hi)
    refine codeAny_builtin F.entry_set_update_loop ?_
    rw [Around.under_plainId F.plain_set_update_loop _]
    show wpAny _ A.in1 (pyNext (.ref I) >>= _) _ _ s
    refine wpAny_bind (W.done s _ _ hst fun s' hm => ?_)
    show wpAny _ A.in1 (ret Value.none) _ _ s'
    have k1 := kept hm k0
    exact wpAny_pure (fin s' L es ep t (hm.mono more) (hS.move (fun o e => hm.heap a o haw e) fun p hp => (hk p (inks g p hp)).up k1) g k1)
  | succ m ih =>
    intro i s hi hst k0 ⟨L, es, ep, t, hS, g⟩ fin
    refine codeAny_builtin F.entry_set_update_loop ?_
    rw [Around.under_plainId F.plain_set_update_loop _]
    show wpAny _ A.in1 (pyNext (.ref I) >>= _) _ _ s
    refine wpAny_bind (W.item i s _ _ (by omega) hst fun v s' hP hst' hm => ?_)
    obtain ⟨p, hp, rfl⟩ := val i v hP
    have k1 := kept hm k0
    have hS' : SetG P w b s'.heap a L es ep t := hS.move (fun o e => hm.heap a o haw e) fun q hq => (hk q (inks g q hq)).up k1
    show wpAny _ A.in1 (holding [p.1] (setAdd a p.1) >>= _) _ _ s'
    refine wpAny_bind (wpAny_holding (add_key hS' ((hk p (List.mem_of_getElem? hp)).up k1) (by have z := g.len; omega) hu fun c h' tk M htk x => ?_))
    have oth : ∀ c o, c ≠ a → s'.heap.get? c = some o → h'.get? c = some o := fun c o ne e => (x.but.2 c ne).trans e
    have k2 : ∀ c o, h0.get? c = some o → h'.get? c = some o := fun c o e => oth c o (fun z => by rw [z, ha0] at e; cases e) (k1 c o e)
    obtain ⟨es2, ep2, t2, hS2⟩ := x.set
    refine wpAny_pure ⟨plainId_quiet F.plain_set_update_loop _, ih (i + 1) _ (by omega) (W.frame _ s' _ _ hst' htk fun c hc o e => oth c o (fun z => ha (z ▸ hc)) e) k2 ⟨M, es2, ep2, t2, hS2, g.next hp x⟩ fun s'' L3 es3 ep3 t3 hm3 hS3 g3 k3 => ?_⟩
    exact fin s'' L3 es3 ep3 t3 (Moved.trans W.gtrans ((hm.mono more).then_heap htk fun c o hc e => oth c o (fun z => hc (z ▸ List.mem_cons_self)) e) hm3) hS3 g3 k3
/-- a list's or a tuple's class -/
structure SeqTy (T : String) : Prop where
  sls : isSubtype (.type T) (.type "set") = pure false
  slf : isSubtype (.type T) (.type "frozenset") = pure false
  ne : (Value.type T == Value.type "dict") = false
  walk : ∀ (P : Program) (w : World), ∃ f : Obj → Obj, ∀ (h : Heap) (l : Addr) (o : Obj) (items : Array Value) (n : Nat), h.get? l = some o → o.cls = .type T → o.data = .seq items n →
    ∃ u : Obj, (∀ (A : Around) (E : Value → Shared → Prop) (s : Shared) (Q : Value → Shared → Prop), s.heap = h → Q (.ref h.objs.size) { s with heap := h.push u } → wpAny (model P w) A (pyIter (.ref l)) Q E s) ∧
      ∃ Sv : Nat → Heap → Prop, (∀ A : Around, A.handled = none → Walks P w A h.objs.size [h.objs.size, l] [h.objs.size] items.size (fun i v => items[i]? = some v) Sv) ∧ Sv 0 (h.push u)
theorem seqTy_list : SeqTy "list" := ⟨F.sub_list_set, F.sub_list_frozenset, by decide, fun P w => ⟨id, fun h l o items n e1 e2 e3 => by
  have hl : h.IsList l items := ⟨o, e1, e2, n, e3⟩
  refine ⟨{ cls := .type "list_iterator", data := .fields #[.ref l, .int 0 0] }, fun A E s Q hs q => ?_, _, fun A hh => Walks.list hh _ l (Nat.ne_of_lt (Heap.lt_size e1)) items, ⟨_, Heap.get?_push_size _ rfl, rfl, rfl⟩, hl.push _⟩
  subst hs
  exact wpAny_pyIter_list hl q⟩⟩
theorem seqTy_tuple : SeqTy "tuple" := ⟨F.sub_tuple_set, F.sub_tuple_frozenset, by decide, fun P w => ⟨id, fun h l o items n e1 e2 e3 => by
  have hl : h.IsTuple l items := ⟨o, e1, e2, n, e3⟩
  refine ⟨{ cls := .type "tuple_iterator", data := .fields #[.ref l, .int 0 0] }, fun A E s Q hs q => ?_, _, fun A hh => Walks.tuple hh _ l (Nat.ne_of_lt (Heap.lt_size e1)) items, ⟨_, Heap.get?_push_size _ rfl, rfl, rfl⟩, hl.push _⟩
  subst hs
  exact wpAny_pyIter_tuple hl q⟩⟩
/-- set(xs) -/
theorem set_of {b : Bool} {T : String} (ty : SeqTy T) {l : Addr} {ol : Obj} {items : Array Value} {nl : Nat} (ks : List (Value × NK)) {Q : Value → Shared → Prop} (hh : A.handled = none) (hol : s.heap.get? l = some ol) (hcl : ol.cls = .type T) (hdl : ol.data = .seq items nl)
    (hit : items.toList = ks.map Prod.fst) (hk : ∀ p ∈ ks, Of P w b s.heap p.2 p.1) (few : ks.length < 64) (hu : A.units + 16 < cLine)
    (q : ∀ (h' : Heap) (tk : Nat) L es ep t, SetG P w b h' s.heap.objs.size L es ep t → Took ks ks.length L → (∀ c o, s.heap.get? c = some o → h'.get? c = some o) → Q (.ref s.heap.objs.size) { s with heap := h', toks := tk }) :
    wpAny (model P w) A (call (.type "set") [.ref l]) Q E s := by
  have hisz : items.size = ks.length := by
    have e := congrArg List.length hit
    rwa [Array.length_toList, List.length_map] at e
  obtain ⟨c, tl, hmro⟩ := F.called_set.mro
  have hmade := F.called_set.made
  have hsub := F.called_set.sub
  refine wpAny_call (codeAny_of_tree ?_)
  show wpAny _ _ (callAny (.type "set") _) _ _ _
  refine wpAny_pure ⟨Code.quiet_builtin _ (by decide +kernel), codeAny_builtin F.entry_type_call ?_⟩
  rw [Around.under_plain (weight_type_call_type "set" [.ref l] []) rfl]
  have h1 := F.called_set.notType
  have h2 := F.called_set.canCreate
  have hct := F.typeCall_set_1 (.ref l)
  repeat (any_goals (first | assumption | wp_step))
  refine codeAny_mono (L2.code_set_led1 (.ref l) (E := E) (Q₁ := fun obj u => obj = .ref s.heap.objs.size ∧ u = { s with heap := s.heap.push (newSet w) }) ⟨rfl, rfl⟩) fun r u hr => ?_
  cases r with
  | error e => exact hr
  | ok fl =>
    cases fl with
    | ret obj =>
      obtain ⟨rfl, rfl⟩ := hr
      have hS : (s.heap.push (newSet w)).get? s.heap.objs.size = some (newSet w) := Heap.get?_push_size _ rfl
      have hT : Shared.TypeIs { s with heap := s.heap.push (newSet w) } (.ref s.heap.objs.size) "set" := ⟨_, hS, rfl⟩
      have hli := F.called_set.init.lookup
      have hbi := F.called_set.init.bind (.ref s.heap.objs.size)
      repeat (any_goals (first | assumption | wp_step))
      refine codeAny_mono (codeAny_call_builtin (R := wants (fun r v => r = .none ∧ ∃ h' tk L es ep t, v = { s with heap := h', toks := tk } ∧ SetG P w b h' s.heap.objs.size L es ep t ∧ Took ks ks.length L ∧
          (∀ c o, s.heap.get? c = some o → h'.get? c = some o)) E) F.called_set.init.plain F.entry_set_init (check_set_init_1 hT ?_)) fun r2 u2 hr2 => ?_
      · have hol' : (s.heap.push (newSet w)).get? l = some ol := Heap.get?_push_of_some _ hol
        obtain ⟨f, wk⟩ := ty.walk P w
        obtain ⟨uo, iter, Sv, hW, hS0⟩ := wk (s.heap.push (newSet w)) l ol items nl hol' hcl hdl
        have hsls := ty.sls
        have hslf := ty.slf
        have hne := ty.ne
        obtain ⟨ocls, odict, odata, oslots⟩ := ol
        simp only at hcl hdl
        subst hcl; subst hdl
        unfold Builtin.«set.__init__» noKeywords Builtin.Frozenset.updateFrom
        generalize hPI : pyIter = PI
        wp_walk
        subst hPI
        refine iter _ _ _ _ rfl ?_
        refine wpAny_bind (wpAny_runValue ?_)
        have hlS : l < s.heap.objs.size := Heap.lt_size hol
        have hh3 : A.in1.in1.in1.handled = none := by simp [hh]
        have hz1 : (s.heap.push (newSet w)).objs.size = s.heap.objs.size + 1 := Heap.size_push ..
        have none_of : ∀ c, s.heap.objs.size ≤ c → s.heap.get? c = none := fun c hc => by
          cases z : s.heap.get? c with
          | none => rfl
          | some o => exact absurd (Nat.lt_of_lt_of_le (Heap.lt_size z) hc) (Nat.lt_irrefl _)
        refine fill_loop (b := b) (hW _ hh3).toS (fun z => ?_) ks hisz few (fun i v hv => ?_) s.heap hk (none_of _ (Nat.le_refl _)) (fun c hc => none_of c (by
            rw [List.mem_singleton.mp hc, hz1]
            exact Nat.le_succ _)) (by show A.units + 3 + 8 < cLine; omega) items.size 0 _ (by omega) hS0 (fun c o e => Heap.get?_push_of_some _ (Heap.get?_push_of_some _ e)) ⟨[], #[], 0, _, setG_new P b (Heap.get?_push_of_some _ hS), ⟨fun p hp => (by cases hp), fun p hp => (by simp at hp), Nat.le_refl _⟩⟩ ?_
        · rw [List.mem_cons, List.mem_singleton, hz1] at z
          rcases z with z | z
          · exact absurd z (Nat.ne_of_lt (Nat.lt_succ_self _))
          · exact absurd z (Nat.ne_of_gt hlS)
        · have e : items.toList[i]? = some v := by rw [Array.getElem?_toList]; exact hv
          rw [hit, List.getElem?_map] at e
          cases z : ks[i]? with
          | none => rw [z] at e; cases e
          | some p => rw [z] at e; exact ⟨p, rfl, Option.some.inj e⟩
        · intro s' L es ep t hm hS' g' k'
          obtain ⟨h', g2, d', tk', os'⟩ := s'
          have eg : g2 = s.gens := hm.gens
          have ed : d' = s.drawn := hm.drawn
          have eo : os' = s.os := hm.os
          subst eg; subst ed; subst eo
          show wpAny _ _ _ _ _ _
          refine wpAny_pure ?_
          show wpAny _ _ (ret Value.none) _ _ _
          rw [hisz] at g'
          exact wpAny_pure ⟨rfl, h', tk', L, es, ep, t, rfl, hS', g', k'⟩
      · cases r2 with
        | error e => exact hr2
        | ok fl2 =>
          cases fl2 with
          | ret r =>
            obtain ⟨rfl, h', tk, L, es, ep, t, rfl, hS', g', k'⟩ := hr2
            repeat (any_goals (first | assumption | wp_step))
            exact q _ _ _ _ _ _ hS' g' k'
          | _ => exact hr2.elim
    | _ => exact hr.elim
end
end DL
end
section
set_option maxHeartbeats 4000000
/-! Sets of keys: sorted(set). -/
namespace DL
open PySem PySem.Spec PyProof.Rows
theorem dle_trans {β : Type} (k : β → PyData) (a b c : β) (h1 : W.dataLe false k a b = true) (h2 : W.dataLe false k b c = true) : W.dataLe false k a c = true := by
  rw [W.dataLe_eq] at h1 h2 ⊢
  have h1 : (!W.dataLt (k b) (k a)) = true := h1
  have h2 : (!W.dataLt (k c) (k b)) = true := h2
  show (!W.dataLt (k c) (k a)) = true
  cases e : W.dataLt (k c) (k a) with
  | false => rfl
  | true =>
    rcases lex_negTrans _ (W.keyToks (k b)) _ e with z | z
    · rw [show W.dataLt (k c) (k b) = true from z] at h2; cases h2
    · rw [show W.dataLt (k b) (k a) = true from z] at h1; cases h1
theorem dle_total {β : Type} (k : β → PyData) (a b : β) : (W.dataLe false k a b || W.dataLe false k b a) = true := by
  rw [W.dataLe_eq]
  show ((!W.dataLt (k b) (k a)) || (!W.dataLt (k a) (k b))) = true
  cases e : W.dataLt (k b) (k a) with
  | false => rfl
  | true =>
    cases e2 : W.dataLt (k a) (k b) with
    | false => rfl
    | true =>
      have z := lex_trans _ _ _ e e2
      rw [lex_irrefl] at z
      cases z
section
variable {P : Program} {w : World} {A : Around} {E : Value → Shared → Prop} {s : Shared}
theorem each_fst {vs : List Value} {M : List (Value × NK)} (h : W.EachIs (fun v p => v = p.1) vs M) : vs = M.map Prod.fst := by
  induction h with
  | nil => rfl
  | cons h _ ih => rw [List.map_cons, ← h, ← ih]
theorem fst_each {R : Value → (Value × NK) → Prop} : ∀ {M : List (Value × NK)}, (∀ p ∈ M, R p.1 p) → W.EachIs R (M.map Prod.fst) M
  | [], _ => .nil
  | p :: M, h => .cons (h p List.mem_cons_self) (fst_each fun r hr => h r (List.mem_cons_of_mem _ hr))
/-- sorted(a set) -/
theorem sorted_setG {b : Bool} {a : Addr} {L : List (Value × NK)} {es : Array (Int × Value)} {ep : Nat} {t : SetTable} {Q : Value → Shared → Prop} (R : SetG P w b s.heap a L es ep t) (hh : A.handled = none) (hu : A.units + 16 < cLine)
    (hal : W.AllAlike (L.map fun p => p.2.data)) (hso : W.Sortable (L.map fun p => p.2.data)) (hrd : ∀ p ∈ L, Reads s.heap p.1 p.2.data []) (hdp : ∀ p ∈ L, p.2.data.depth ≤ 8)
    (q : ∀ (s' : Shared) (p : Addr) (c : Nat) (M : List (Value × NK)), (∀ c o, s.heap.get? c = some o → s'.heap.get? c = some o) → s'.gens = s.gens → s'.os = s.os → s.heap.objs.size ≤ p → s'.heap.get? p = some (seqObj "list" (M.map Prod.fst).toArray c) →
      M.Perm L → M.Pairwise (fun x y => W.dataLt y.2.data x.2.data = false) → Q (.ref p) s') : wpAny (model P w) A (call (.builtin "sorted") [.ref a]) Q E s := by
  obtain ⟨o, ho, hex, hd⟩ := R.ob
  have few := R.few
  refine Calls.call_function_entry kind_sorted plain_sorted entry_sorted (args_sorted1 _) ?_
  unfold Builtin.«sorted»
  refine wpAny_bind (m := checkCount "sorted" 1 1 _) (wpAny_pure ?_)
  refine wpAny_bind (L2.collect_set (A := A.in1) hh ⟨o, ho, hex.1, hd⟩ R.fit R.small R.ris R.led fun s1 vs k1 hz g1 o1 pm => ?_)
  have pv : vs.Perm (L.map Prod.fst) := by
    refine pm.trans ?_
    rw [R.rows, List.map_map]
    exact List.Perm.refl _
  obtain ⟨M0, p0, rfl⟩ := perm_lift Prod.fst pv L rfl
  have l0 : M0.length = L.length := p0.length_eq
  have big : (M0.map Prod.fst).length ≤ sizeLine := by rw [List.length_map, l0, sizeLine_eq]; omega
  refine wpAny_bind (wpAny_newList ?_ big)
  have hoL : (s1.heap.push (seqObj "list" (M0.map Prod.fst).toArray 0)).get? s1.heap.objs.size = some (seqObj "list" (M0.map Prod.fst).toArray 0) := Heap.get?_push_size _ rfl
  have inL : ∀ p ∈ M0, p ∈ L := fun p hp => p0.mem_iff.mp hp
  have sub : ∀ d ∈ M0.map (fun p => p.2.data), d ∈ L.map fun p => p.2.data := fun d h => by
    obtain ⟨p, hp, e⟩ := List.mem_map.mp h
    exact List.mem_map.mpr ⟨p, inL p hp, e⟩
  have so : W.Sortable (M0.map fun p => p.2.data) := hso.imp (fun z d hd => z d (sub d hd)) fun z d hd => z d (sub d hd)
  refine wpAny_bind (wpAny_holding (W.list_sort_data (s := { s1 with heap := s1.heap.push (seqObj "list" (M0.map Prod.fst).toArray 0) }) (bs := M0) (enc := fun p => p.2.data) (R := fun v p => v = p.1) hoL (fst_each fun _ _ => rfl)
    (fst_each fun p hp => ⟨[], Reads.keeps (fun c u e => Heap.get?_push_of_some _ (k1 c u e)) (hrd p (inL p hp)), fun z => by cases z⟩) (fun d hd d' hd' => hal d (sub d hd) d' (sub d' hd')) so (by rw [l0, sizeLine_eq]; omega)
    (fun p hp => by have z := hdp p (inL p hp); show A.in1.units + 1 + _ < _; have y : A.in1.units = A.units + 1 := rfl; omega) fun out hl eo => ?_))
  rw [each_fst eo]
  have pS : (M0.mergeSort (W.dataLe false fun p => p.2.data)).Perm M0 := List.mergeSort_perm _ _
  have sS := List.pairwise_mergeSort (le := W.dataLe false fun p : Value × NK => p.2.data) (fun a b c => dle_trans _ a b c) (fun a b => dle_total _ a b) M0
  generalize M0.mergeSort (W.dataLe false fun p => p.2.data) = M at pS sS ⊢
  obtain ⟨c, hc⟩ := sortedHeap_at (vs := M0.map Prod.fst) (out := (M.map Prod.fst).toArray) hoL
  refine wpAny_pure ⟨_, rfl, q _ s1.heap.objs.size c M (fun d u e => ?_) g1 o1 hz hc (pS.trans p0) (sS.imp fun {x y} h => ?_)⟩
  · have e1 := k1 d u e
    have hlt := Heap.lt_size e1
    show (sortedHeap (s1.heap.push (seqObj "list" (M0.map Prod.fst).toArray 0)) s1.heap.objs.size (M0.map Prod.fst) (M.map Prod.fst).toArray).get? d = some u
    rw [sortedHeap_old (Nat.ne_of_lt hlt) (by rw [Heap.size_push]; exact Nat.lt_succ_of_lt hlt)]
    exact Heap.get?_push_of_some _ e1
  · rw [W.dataLe_eq] at h
    have h : (!W.dataLt y.2.data x.2.data) = true := h
    cases z : W.dataLt y.2.data x.2.data with
    | false => rfl
    | true => rw [z] at h; cases h
end
end DL
end
section
set_option maxHeartbeats 4000000
/-! sorted(set(xs)), as an expression over data. -/
namespace DL
open PySem PySem.Spec L2
mutual
def nkP : PyData → Option NK
  | .none => some .none
  | .int i => some (.num i)
  | .str x => some (.text x)
  | .tuple xs => (nkL xs).map NestedKey.tup
  | .bool _ => none
  | .list _ => none
  | .dict _ => none
def nkL : List PyData → Option (List NK)
  | [] => some []
  | x :: xs => match nkP x, nkL xs with
    | some k, some ks => some (k :: ks)
    | _, _ => none
end
mutual
theorem nkP_data : ∀ (p : PyData) {k : NK}, nkP p = some k → k.data = p ∧ k.depth = p.depth
  | .none, k, h => by rw [nkP] at h; cases h; simp [NestedKey.data, NestedKey.depth, PyData.depth]
  | .int i, k, h => by rw [nkP] at h; cases h; simp [NestedKey.data, NestedKey.depth, PyData.depth]
  | .str i, k, h => by rw [nkP] at h; cases h; simp [NestedKey.data, NestedKey.depth, PyData.depth]
  | .tuple xs, k, h => by
    rw [nkP] at h
    obtain ⟨ks, h1, rfl⟩ := Option.map_eq_some_iff.mp h
    obtain ⟨a, b⟩ := nkL_data xs h1
    rw [NestedKey.data, NestedKey.depth, PyData.depth, a, b]
    exact ⟨rfl, rfl⟩
  | .bool _, k, h => by rw [nkP] at h; cases h
  | .list _, k, h => by rw [nkP] at h; cases h
  | .dict _, k, h => by rw [nkP] at h; cases h
theorem nkL_data : ∀ (ps : List PyData) {ks : List NK}, nkL ps = some ks → NestedKey.datas ks = ps ∧ NestedKey.depthAll ks = PyData.depthAll ps
  | [], ks, h => by rw [nkL] at h; cases h; simp [NestedKey.datas, NestedKey.depthAll, PyData.depthAll]
  | p :: ps, ks, h => by
    rw [nkL] at h
    split at h
    · rename_i k ks' e1 e2
      cases h
      obtain ⟨a, b⟩ := nkP_data p e1
      obtain ⟨c, d⟩ := nkL_data ps e2
      rw [NestedKey.datas, NestedKey.depthAll, PyData.depthAll, a, b, c, d]
      exact ⟨rfl, rfl⟩
    · cases h
end
mutual
theorem nkP_nest {h : Heap} : ∀ (p : PyData) {k : NK} {v : Value} {as : List Addr}, nkP p = some k → Reads h v p as → NestedIs h k v ∧ as = []
  | .none, k, v, as, e, r => by rw [nkP] at e; cases e; cases r; exact ⟨.none, rfl⟩
  | .int i, k, v, as, e, r => by rw [nkP] at e; cases e; cases r; exact ⟨.int _ _, rfl⟩
  | .str x, k, v, as, e, r => by rw [nkP] at e; cases e; cases r; exact ⟨.text _ _, rfl⟩
  | .tuple xs, k, v, as, e, r => by
    rw [nkP] at e
    obtain ⟨ks, h1, rfl⟩ := Option.map_eq_some_iff.mp e
    cases r with
    | tuple a b c d =>
      obtain ⟨z1, z2⟩ := nkL_nest xs h1 d
      exact ⟨.tup a b c z1, z2⟩
  | .bool _, k, v, as, e, r => by rw [nkP] at e; cases e
  | .list _, k, v, as, e, r => by rw [nkP] at e; cases e
  | .dict _, k, v, as, e, r => by rw [nkP] at e; cases e
theorem nkL_nest {h : Heap} : ∀ (ps : List PyData) {ks : List NK} {vs : List Value} {as : List Addr}, nkL ps = some ks → ReadsAll h vs ps as → NestedAll h ks vs ∧ as = []
  | [], ks, vs, as, e, r => by rw [nkL] at e; cases e; cases r; exact ⟨.nil, rfl⟩
  | p :: ps, ks, vs, as, e, r => by
    rw [nkL] at e
    split at e
    · rename_i k ks' e1 e2
      cases e
      cases r with
      | cons r1 r2 =>
        obtain ⟨a, rfl⟩ := nkP_nest p e1 r1
        obtain ⟨b, rfl⟩ := nkL_nest ps e2 r2
        exact ⟨.cons a b, rfl⟩
    · cases e
end
/-- flat: a whole number or a text; else a tuple that isn't empty -/
def keyOk : Bool → PyData → Bool
  | true, .int _ => true
  | true, .str _ => true
  | false, .tuple (x :: xs) => (nkL (x :: xs)).isSome
  | _, _ => false
theorem keyOk_nk {b : Bool} {p : PyData} (h : keyOk b p = true) : ∃ k, nkP p = some k := by
  cases b <;> cases p with
  | tuple xs =>
    cases xs with
    | nil => cases h
    | cons x xs =>
      first
        | (cases h; done)
        | (have h : (nkL (x :: xs)).isSome = true := h
           rw [nkP]
           cases e : nkL (x :: xs) with
           | none => rw [e] at h; cases h
           | some ks => exact ⟨_, rfl⟩)
  | int i => exact ⟨_, rfl⟩
  | str x => exact ⟨_, rfl⟩
  | _ => cases h
/-- the keys of some data, all of one kind -/
def keysOk (b : Bool) (xs : List D) : Prop := xs.length < 64 ∧ (∀ d ∈ xs, isDat d = true ∧ keyOk b (toPy d) = true) ∧ ∀ d ∈ xs, ∀ e ∈ xs, PySem.W.alike (toPy d) (toPy e) = true
/-- the same, each once, ascending -/
structure Sorted (xs ys : List D) : Prop where
  sub : ∀ y ∈ ys, y ∈ xs
  all : ∀ x ∈ xs, ∃ y ∈ ys, toPy y = toPy x
  nd : (ys.map toPy).Nodup
  asc : ys.Pairwise fun x y => PySem.W.dataLt (toPy y) (toPy x) = false
section
variable {X : Cx}
theorem triples {pins : List (Addr × Obj)} {σ : St} {H : Hp} {S : Sto} {s : Shared} (I : Inv X pins σ H s) {b : Bool} : ∀ {vs : List V} {us : List Value} {xs : List D}, RpL X.K H S vs xs → Vals vs us → (∀ d ∈ xs, isDat d = true ∧ keyOk b (toPy d) = true) →
    ∃ Z : List (V × D × Value × NK), vs = Z.map (·.1) ∧ xs = Z.map (·.2.1) ∧ us = Z.map (·.2.2.1) ∧ ∀ z ∈ Z, Rp X.K H S z.1 z.2.1 ∧ RelV z.1 z.2.2.1 ∧ nkP (toPy z.2.1) = some z.2.2.2 ∧ Reads s.heap z.2.2.1 (toPy z.2.1) [] ∧ NestedIs s.heap z.2.2.2 z.2.2.1
  | vs, us, [], l, r, _ => by
    cases l.inv_nil
    cases r
    exact ⟨[], rfl, rfl, rfl, fun z hz => by cases hz⟩
  | vs, us, d :: xs, l, r, h => by
    obtain ⟨v, vs', rfl, r1, l1⟩ := l.inv_cons
    cases r with
    | cons q t =>
      obtain ⟨Z, e1, e2, e3, hZ⟩ := triples I l1 t fun d hd => h d (List.mem_cons_of_mem _ hd)
      obtain ⟨h1, h2⟩ := h d List.mem_cons_self
      obtain ⟨k, hk⟩ := keyOk_nk h2
      obtain ⟨as, rd⟩ := Dp.reads I _ v _ (dp_of 8 v d r1 h1) q
      obtain ⟨ni, rfl⟩ := nkP_nest _ hk rd
      refine ⟨(v, d, _, k) :: Z, by rw [List.map_cons, ← e1], by rw [List.map_cons, ← e2], by rw [List.map_cons, ← e3], fun z hz => ?_⟩
      rcases List.mem_cons.mp hz with e | hz
      · rw [e]; exact ⟨r1, q, hk, rd, ni⟩
      · exact hZ z hz
theorem pick_sub {α β : Type} (f : α → β) {Z : List α} : ∀ {M : List β}, (∀ p ∈ M, ∃ z ∈ Z, f z = p) → ∃ N : List α, M = N.map f ∧ ∀ z ∈ N, z ∈ Z
  | [], _ => ⟨[], rfl, fun z hz => by cases hz⟩
  | p :: M, h => by
    obtain ⟨z, hz, e⟩ := h p List.mem_cons_self
    obtain ⟨N, e1, h1⟩ := pick_sub f fun q hq => h q (List.mem_cons_of_mem _ hq)
    refine ⟨z :: N, by rw [List.map_cons, e, ← e1], fun y hy => ?_⟩
    rcases List.mem_cons.mp hy with q | hy
    · rw [q]; exact hz
    · exact h1 y hy
def dSS (te : DTE) : DTE := fun ρ S R => te ρ S fun d S1 => ∃ xs b, seqD (vw S1 d) = some xs ∧ keysOk b xs ∧ ∀ ys, Sorted xs ys → R (.lst ys) S1
/-- what stands at a: a list or a tuple, with its values -/
theorem seq_val {pins : List (Addr × Obj)} {σ : St} {H : Hp} {S : Sto} {s : Shared} (I : Inv X pins σ H s) {v : V} {d : D} {xs : List D} {u : Value} (rv : Rp X.K H S v d) (rs : RS X.K H S) (r : RelV v u) (h : seqD (vw S d) = some xs) :
    ∃ (a : Addr) (vs : List V) (us : List Value) (T : String) (o : Obj) (n : Nat), u = .ref a ∧ RpL X.K H S vs xs ∧ Vals vs us ∧ SeqTy T ∧ s.heap.get? a = some o ∧ o.cls = .type T ∧ o.data = .seq us.toArray n := by
  cases e : vw S d with
  | lst ys =>
    rw [e] at h
    cases h
    obtain ⟨a, vs, rfl, q, l⟩ := vw_lst rv rs e
    obtain ⟨its, rr, pl, _⟩ := I.list (SqL.of q)
    obtain ⟨o, h1, h2, n, h3⟩ := pl.isList
    cases r
    exact ⟨a, vs, its, _, o, n, rfl, l, rr, seqTy_list, h1, h2, h3⟩
  | scr ys =>
    rw [e] at h
    cases h
    obtain ⟨a, rfl, q⟩ := vw_scr rv rs e
    obtain ⟨its, rr, pl, _⟩ := I.list q
    obtain ⟨o, h1, h2, n, h3⟩ := pl.isList
    cases r
    exact ⟨a, _, its, _, o, n, rfl, RpL.ints ys, rr, seqTy_list, h1, h2, h3⟩
  | tup ys =>
    rw [e] at h
    cases h
    obtain ⟨_, a, vs, rfl, q, _, l⟩ := vw_tup rv rs e
    obtain ⟨its, rr, ⟨o, h1, h2, n, h3⟩, _⟩ := I.tuple (SqT.of q)
    cases r
    exact ⟨a, vs, its, _, o, n, rfl, l, rr, seqTy_tuple, h1, h2, h3⟩
  | ktp ys =>
    rw [e] at h
    cases h
    obtain ⟨a, vs, rfl, q, l⟩ := vw_ktp rv rs e
    obtain ⟨its, rr, ⟨o, h1, h2, n, h3⟩, _⟩ := I.tuple q
    cases r
    exact ⟨a, vs, its, _, o, n, rfl, l, rr, seqTy_tuple, h1, h2, h3⟩
  | _ => rw [e] at h; cases h
theorem de_sset {e : Expr} {te : DTE} {p p2 q pos : Pos} (hc : X.calm = true) (hu : X.A.units + 64 < cLine) (hg : Gl X "sorted") (hm : X.mg "sorted" = none) (hg2 : Gl X "set") (hm2 : X.mg "set" = none) (he : DE X e te)
    (na : starEach [e] X.env = (false, eval e X.env) :: starEach [] X.env := by rfl) : DE X (.Call (.Name "sorted" p) [.Call (.Name "set" p2) [e] [] q] [] pos) (dSS te) := by
  refine ⟨fun pins s σ H Q I h => ?_⟩
  obtain ⟨ρ, S, R, sl, rs, h, n⟩ := h
  refine PyProof.Rows.Call_ (ld_blt I hg hm PyProof.Rows.boot_sorted ?_)
  refine PyProof.Rows.callWith_builtin1 (PyProof.Rows.args_cons ?_ rfl) rfl rfl
  refine PyProof.Rows.Call_ (ld_blt I hg2 hm2 PyProof.Rows.boot_set ?_)
  refine PyProof.Rows.callWith_type1 (PyProof.Rows.args_cons (thn (he.run pins s σ H (fun v H1 => ∃ d S1, Rp X.K H1 S1 v d ∧ RS X.K H1 S1 ∧ Fr H S H1 S1 ∧ ∃ xs b, seqD (vw S1 d) = some xs ∧ keysOk b xs ∧ ∀ ys, Sorted xs ys → R (.lst ys) S1) I
    ⟨ρ, S, _, sl, rs, h, fun d S1 h1 v H1 rv rs1 f1 => ⟨d, S1, rv, rs1, f1, h1⟩⟩) fun u s1 ⟨v, H1, I1, r1, d, S1, rv, rs1, f1, xs, b, hx, hk, q1⟩ => PyProof.Rows.args_nil ?_) na) na rfl
  obtain ⟨a, vs, us, T, o, m, rfl, l, vl, ty, g1, g2, g3⟩ := seq_val I1 rv rs1 r1 hx
  obtain ⟨k1, k2, k3⟩ := hk
  obtain ⟨Z, e1, e2, e3, hZ⟩ := triples I1 l vl k2
  subst e1 e2 e3
  have hdp : ∀ z ∈ Z, z.2.2.2.depth ≤ 8 := fun z hz => by
    rw [(nkP_data _ (hZ z hz).2.2.1).2]
    exact isDat_depth (k2 _ (List.mem_map.mpr ⟨z, hz, rfl⟩)).1
  have hdt : ∀ z ∈ Z, z.2.2.2.data = toPy z.2.1 := fun z hz => (nkP_data _ (hZ z hz).2.2.1).1
  have hof : ∀ p ∈ Z.map (fun z => (z.2.2.1, z.2.2.2)), Of X.prog X.w b s1.heap p.2 p.1 := fun p hp => by
    obtain ⟨z, hz, rfl⟩ := List.mem_map.mp hp
    obtain ⟨z1, z2, z3, z4, z5⟩ := hZ z hz
    have hd := hdp z hz
    have ok := (k2 _ (List.mem_map.mpr ⟨z, hz, rfl⟩)).2
    show Of X.prog X.w b s1.heap z.2.2.2 z.2.2.1
    generalize z.2.2.2 = k at *
    generalize z.2.2.1 = u at *
    generalize toPy z.2.1 = p at *
    cases b with
    | true =>
      cases p with
      | int i =>
        rw [nkP] at z3
        cases z3
        cases z4 with
        | int _ tk => exact ⟨.inl i, rfl, keyIs_int i tk⟩
      | str x =>
        rw [nkP] at z3
        cases z3
        cases z4 with
        | str _ tk => exact ⟨.inr x, rfl, keyIs_str x tk⟩
      | _ => cases ok
    | false =>
      cases p with
      | tuple xs =>
        cases z4 with
        | tuple a _ _ _ => exact ⟨⟨_, rfl⟩, z5, hd⟩
      | _ => cases ok
  refine set_of (P := X.prog) (w := X.w) (b := b) ty (Z.map fun z => (z.2.2.1, z.2.2.2)) (I1.ok.hd hc) g1 g2 g3 (by rw [List.map_map]; rfl) hof (by rw [List.length_map] at k1 ⊢; exact k1) (by omega) fun h' tk L es ep t R2 g kp => ?_
  have I2 : Inv X pins σ H1 { s1 with heap := h', toks := tk } := I1.kept fun c u e => kp c u e
  refine PyProof.Rows.args_nil ?_
  have inZ : ∀ p ∈ L, ∃ z ∈ Z, (z.2.2.1, z.2.2.2) = p := fun p hp => List.mem_map.mp (List.mem_of_mem_take (g.sub p hp))
  have al : PySem.W.AllAlike (L.map fun p => p.2.data) := fun x hx y hy => by
    obtain ⟨p, hp, rfl⟩ := List.mem_map.mp hx
    obtain ⟨p', hp', rfl⟩ := List.mem_map.mp hy
    obtain ⟨z, hz, rfl⟩ := inZ p hp
    obtain ⟨z', hz', rfl⟩ := inZ p' hp'
    show PySem.W.alike z.2.2.2.data z'.2.2.2.data = true
    rw [hdt z hz, hdt z' hz']
    exact k3 _ (List.mem_map.mpr ⟨z, hz, rfl⟩) _ (List.mem_map.mpr ⟨z', hz', rfl⟩)
  have each : ∀ x ∈ L.map (fun p => p.2.data), keyOk b x = true := fun x hx => by
    obtain ⟨p, hp, rfl⟩ := List.mem_map.mp hx
    obtain ⟨z, hz, rfl⟩ := inZ p hp
    show keyOk b z.2.2.2.data = true
    rw [hdt z hz]
    exact (k2 _ (List.mem_map.mpr ⟨z, hz, rfl⟩)).2
  have so : PySem.W.Sortable (L.map fun p => p.2.data) := by
    cases b with
    | true =>
      refine .inr fun x hx => ?_
      have z := each x hx
      cases x <;> first | (cases z; done) | exact ⟨(fun e => nomatch e), (fun _ e => nomatch e)⟩
    | false =>
      refine .inl fun x hx => ?_
      have z := each x hx
      cases x with
      | tuple xs =>
        cases xs with
        | nil => cases z
        | cons x xs => exact ⟨x, xs, rfl⟩
      | _ => cases z
  refine sorted_setG (s := { s1 with heap := h', toks := tk }) R2 (I1.ok.hd hc) (by show X.A.units + 16 < cLine; omega) al so (fun p hp => ?_) (fun p hp => ?_) fun s' pa c M kp2 og oo hpa hg' pM pw => ?_
  · obtain ⟨z, hz, rfl⟩ := inZ p hp
    show Reads h' z.2.2.1 z.2.2.2.data []
    rw [hdt z hz]
    exact PyProof.Rows.Reads.keeps kp (hZ z hz).2.2.2.1
  · obtain ⟨z, hz, rfl⟩ := inZ p hp
    show z.2.2.2.data.depth ≤ 8
    rw [hdt z hz, ← (nkP_data _ (hZ z hz).2.2.1).2]
    exact hdp z hz
  · obtain ⟨N, eN, hN⟩ := pick_sub (fun z : V × D × Value × NK => (z.2.2.1, z.2.2.2)) fun p hp => inZ p (pM.mem_iff.mp hp)
    subst eN
    have ln : N.length < 64 := by
      have y := pM.length_eq
      rw [List.length_map] at y
      rw [y]
      exact R2.few
    have fresh : H1 pa = none := I2.hok.fresh hpa
    have va : Vals (N.map (·.1)) (N.map (·.2.2.1)) := by
      clear pM pw hg' ln
      induction N with
      | nil => exact .nil
      | cons z N ih => exact .cons (hZ z (hN z List.mem_cons_self)).2.1 (ih fun y hy => hN y (List.mem_cons_of_mem _ hy))
    have J : Inv X pins σ (upd H1 pa (.lst (N.map (·.1)))) s' := by
      refine I2.call' (ch := []) oo (Un.laid kp2 hpa fresh) (I2.hok.laid kp2 hpa ⟨by rw [List.length_map, sizeLine_eq]; omega, _, c, va, ?_⟩) (by rw [og]; exact I2.bare) (fun _ z => nomatch z)
      rw [List.map_map] at hg'
      exact hg'
    have lN : RpL X.K H1 S1 (N.map (·.1)) (N.map (·.2.1)) := by
      clear pM pw hg' ln va J
      induction N with
      | nil => exact .nil
      | cons z N ih => exact .cons (hZ z (hN z List.mem_cons_self)).1 (ih fun y hy => hN y (List.mem_cons_of_mem _ hy))
    refine ⟨.ref pa, _, J, rfl, (n.from f1).new (q1 (N.map (·.2.1)) ⟨fun y hy => ?_, fun x hx => ?_, ?_, ?_⟩) fresh rs1 (rp_lst fresh rs1 lN)⟩
    · obtain ⟨z, hz, rfl⟩ := List.mem_map.mp hy
      exact List.mem_map.mpr ⟨z, hN z hz, rfl⟩
    · obtain ⟨z, hz, rfl⟩ := List.mem_map.mp hx
      have m := g.all (z.2.2.1, z.2.2.2) (by rw [List.take_length]; exact List.mem_map.mpr ⟨z, hz, rfl⟩)
      have m2 := (pM.map Prod.snd).mem_iff.mpr m
      rw [List.map_map] at m2
      obtain ⟨y, hy, ey⟩ := List.mem_map.mp m2
      refine ⟨y.2.1, List.mem_map.mpr ⟨y, hy, rfl⟩, ?_⟩
      have ey : y.2.2.2 = z.2.2.2 := ey
      rw [← hdt y (hN y hy), ← hdt z hz, ey]
    · have nd := (pM.map Prod.snd).nodup_iff.mpr R2.nd
      rw [List.map_map] at nd ⊢
      refine List.pairwise_map.mpr ((List.pairwise_map.mp nd).imp_of_mem fun {y z} hy hz ne e => ne ?_)
      have d1 := (hZ y (hN y hy)).2.2.1
      have d2 := (hZ z (hN z hz)).2.2.1
      have e : toPy y.2.1 = toPy z.2.1 := e
      rw [e, d2] at d1
      exact (Option.some.inj d1).symm
    · refine List.pairwise_map.mpr ((List.pairwise_map.mp pw).imp_of_mem fun {y z} hy hz h => ?_)
      have h : PySem.W.dataLt z.2.2.2.data y.2.2.2.data = false := h
      rw [hdt y (hN y hy), hdt z (hN z hz)] at h
      exact h
end
end DL
end
section
set_option maxHeartbeats 4000000
/-! The data layer, part h: chains, [::-1], enumerate, zip, index, own == and isinstance, repr, int of a text. -/
namespace DL
open PySem PySem.Spec L2
section
variable {X : Cx} {a b c e : Expr} {ta tb tc te : DTE} {pos p : Pos} {r r' : DOp}
/-! ### a < b < c -/
theorem de_chain {op op' : CmpOp} (ho : OpR X (compareOp op) (lO X.K r)) (ho' : OpR X (compareOp op') (lO X.K r')) (ha : DE X a ta) (hb : DE X b tb) (hc : DE X c tc) (hm : lastMarks [op, op'] [b, c] = false := by with_unfolding_all rfl) :
    DE X (.Compare a [op, op'] [b, c] pos) (dChain r r' ta tb tc) := (pe_chain ho ho' ha hb hc hm).weak fun σ H Q ⟨ρ, S, R, sl, rs, h, n⟩ =>
  ⟨ρ, S, _, sl, rs, h, fun d S1 h1 v H1 rv rs1 f1 => ⟨ρ, S1, _, sl.fr f1, rs1, h1, fun d2 S2 h2 u H2 ru rs2 f2 => ⟨d, d2, S2, _, rv.fr f2, ru, rs2, h2, fun z S3 h3 w H3 rw3 rs3 f3 => by
    obtain ⟨k, rfl, h3⟩ := h3
    cases rw3
    refine ⟨k, rfl, ?_⟩
    have f := (f1.trans f2).trans f3
    cases k with
    | true => exact ⟨ρ, S3, _, sl.fr f, rs3, h3, fun d4 S4 h4 y H4 ry rs4 f4 => ⟨d2, d4, S4, R, (ru.fr f3).fr f4, ry, rs4, h4, n.from (f.trans f4)⟩⟩
    | false => exact n _ S3 h3 _ H3 (.bl false) rs3 f⟩⟩⟩
theorem dt_chain {op op' : CmpOp} (ho : OpR X (compareOp op) (lO X.K r)) (ho' : OpR X (compareOp op') (lO X.K r')) (ha : DE X a ta) (hb : DE X b tb) (hc : DE X c tc) (hm : lastMarks [op, op'] [b, c] = false := by with_unfolding_all rfl) :
    DT X (.Compare a [op, op'] [b, c] pos) (dTest (dChain r r' ta tb tc)) := (pt_chain ho ho' ha hb hc hm).weak fun σ H Q ⟨ρ, S, R, sl, rs, h, n⟩ =>
  ⟨ρ, S, _, sl, rs, h, fun d S1 h1 v H1 rv rs1 f1 => ⟨ρ, S1, _, sl.fr f1, rs1, h1, fun d2 S2 h2 u H2 ru rs2 f2 => ⟨d, d2, S2, _, rv.fr f2, ru, rs2, h2, fun z S3 h3 w H3 rw3 rs3 f3 => by
    obtain ⟨k, rfl, h3⟩ := h3
    cases rw3
    refine ⟨k, rfl, ?_⟩
    have f := (f1.trans f2).trans f3
    have fin : ∀ d S' (_ : ∃ k, d = .bl k ∧ R k S') v H', Rp X.K H' S' v d → RS X.K H' S' → Fr H S H' S' → ∃ k, v = .bl k ∧ Q k H' := fun d S' ⟨k, e, h⟩ v H' rv rs f => by
      subst e
      cases rv
      exact ⟨k, rfl, n k S' h H' rs f⟩
    cases k with
    | true => exact ⟨ρ, S3, _, sl.fr f, rs3, h3, fun d4 S4 h4 y H4 ry rs4 f4 => ⟨d2, d4, S4, _, (ru.fr f3).fr f4, ry, rs4, h4, fun d' S' h' v' H' rv' rs' f' => fin d' S' h' v' H' rv' rs' ((f.trans f4).trans f')⟩⟩
    | false => exact fin _ S3 h3 _ H3 (.bl false) rs3 f⟩⟩⟩
/-! ### xs[::-1] -/
def dRev (te : DTE) : DTE := fun ρ S R => te ρ S fun d S1 => ∃ xs, vw S1 d = .lst xs ∧ R (.lst xs.reverse) S1
theorem de_rev {k : Nat} {p1 p2 p3 : Pos} (he : DE X e te) : DE X (.Subscript e (.Slice none none (some (.UnaryOp .USub (.Constant (.int 1) k p1) p2)) p3) pos) (dRev te) := (pe_revL he).weak fun σ H Q ⟨ρ, S, R, sl, rs, h, n⟩ =>
  ⟨ρ, S, _, sl, rs, h, fun d S1 ⟨xs, hx, h1⟩ v H1 rv rs1 f1 => by
    obtain ⟨a, vs, rfl, q, l⟩ := vw_lst rv rs1 hx
    exact ⟨a, vs, rfl, SqL.of q, fun p hp => (n.from f1).new h1 hp rs1 (rp_lst hp rs1 l.reverse)⟩⟩
/-! ### enumerate and zip -/
theorem seq_sq {K : PySem.W.Frag} {H : Hp} {S : Sto} {v : V} {d : D} {xs : List D} (rv : Rp K H S v d) (rs : RS K H S) (h : seqD (vw S d) = some xs) : ∃ b a vs, v = .ref a ∧ Sq K H b a vs ∧ RpL K H S vs xs := by
  cases e : vw S d with
  | lst ys =>
    rw [e] at h
    cases h
    obtain ⟨a, vs, rfl, q, l⟩ := vw_lst rv rs e
    exact ⟨true, a, vs, rfl, SqL.of q, l⟩
  | scr ys =>
    rw [e] at h
    cases h
    obtain ⟨a, rfl, q⟩ := vw_scr rv rs e
    exact ⟨true, a, _, rfl, q, RpL.ints ys⟩
  | tup ys =>
    rw [e] at h
    cases h
    obtain ⟨_, a, vs, rfl, q, _, l⟩ := vw_tup rv rs e
    exact ⟨false, a, vs, rfl, SqT.of q, l⟩
  | ktp ys =>
    rw [e] at h
    cases h
    obtain ⟨a, vs, rfl, q, l⟩ := vw_ktp rv rs e
    exact ⟨false, a, vs, rfl, q, l⟩
  | _ => rw [e] at h; cases h
/-- a list stays a list, a tuple a tuple -/
theorem seq_again {K : PySem.W.Frag} {H H' : Hp} {S S' : Sto} {a : Addr} {b : Bool} {d : D} {vs : List V} {xs : List D} (rv : Rp K H S (.ref a) d) (rs : RS K H S) (q : Sq K H b a vs) (l : RpL K H S vs xs) (h : seqD (vw S d) = some xs)
    (hb : ∀ ys, (vw S d = .lst ys ∨ (∃ ns, vw S d = .scr ns)) → b = true) (hb2 : ∀ ys, (vw S d = .tup ys ∨ vw S d = .ktp ys) → b = false) (f : Fr H S H' S') (rs' : RS K H' S') (e : vw S' d = vw S d) : ∃ ws, Sq K H' b a ws ∧ RpL K H' S' ws xs := by
  have rv' := rv.fr f
  cases z : vw S d with
  | lst ys =>
    rw [z] at h
    cases h
    obtain ⟨a', ws, ea, q', l'⟩ := vw_lst rv' rs' (e.trans z)
    cases ea
    rw [hb _ (.inl z)]
    exact ⟨ws, SqL.of q', l'⟩
  | scr ys =>
    rw [z] at h
    cases h
    obtain ⟨a', ea, q'⟩ := vw_scr rv' rs' (e.trans z)
    cases ea
    rw [hb [] (.inr ⟨_, z⟩)]
    exact ⟨_, q', RpL.ints _⟩
  | tup ys =>
    rw [z] at h
    cases h
    obtain ⟨_, a', ws, ea, q', _, l'⟩ := vw_tup rv' rs' (e.trans z)
    cases ea
    rw [hb2 _ (.inl z)]
    exact ⟨ws, SqT.of q', l'⟩
  | ktp ys =>
    rw [z] at h
    cases h
    obtain ⟨a', ws, ea, q', l'⟩ := vw_ktp rv' rs' (e.trans z)
    cases ea
    rw [hb2 _ (.inr z)]
    exact ⟨ws, q', l'⟩
  | _ => rw [z] at h; cases h
def seqB (d : D) : Bool := match d with
  | .lst _ => true
  | .scr _ => true
  | _ => false
theorem seq_src {K : PySem.W.Frag} {H : Hp} {S : Sto} {v : V} {d : D} {xs : List D} (rv : Rp K H S v d) (rs : RS K H S) (h : seqD (vw S d) = some xs) :
    ∃ a, v = .ref a ∧ ∀ H' S', Fr H S H' S' → RS K H' S' → vw S' d = vw S d → ∃ ws, Sq K H' (seqB (vw S d)) a ws ∧ RpL K H' S' ws xs := by
  obtain ⟨b0, a, vs, rfl, q, l⟩ := seq_sq rv rs h
  refine ⟨a, rfl, fun H' S' f rs' e => ?_⟩
  have q2 : Sq K H (seqB (vw S d)) a vs ∨ True := .inr trivial
  have key : ∃ ws, Sq K H (seqB (vw S d)) a ws ∧ RpL K H S ws xs := by
    cases z : vw S d with
    | lst ys =>
      rw [z] at h; cases h
      obtain ⟨a', ws, ea, q', l'⟩ := vw_lst rv rs z
      cases ea
      exact ⟨ws, SqL.of q', l'⟩
    | scr ys =>
      rw [z] at h; cases h
      obtain ⟨a', ea, q'⟩ := vw_scr rv rs z
      cases ea
      exact ⟨_, q', RpL.ints _⟩
    | tup ys =>
      rw [z] at h; cases h
      obtain ⟨_, a', ws, ea, q', _, l'⟩ := vw_tup rv rs z
      cases ea
      exact ⟨ws, SqT.of q', l'⟩
    | ktp ys =>
      rw [z] at h; cases h
      obtain ⟨a', ws, ea, q', l'⟩ := vw_ktp rv rs z
      cases ea
      exact ⟨ws, q', l'⟩
    | _ => rw [z] at h; cases h
  obtain ⟨ws, k1, k2⟩ := key
  exact seq_again rv rs k1 k2 h (fun ys z => by rcases z with z | ⟨ns, z⟩ <;> rw [z] <;> rfl) (fun ys z => by rcases z with z | z <;> rw [z] <;> rfl) f rs' e
theorem num_get (xs : List D) (i : Nat) : ((List.range xs.length).zip xs)[i]? = (xs[i]?).map fun x => (i, x) := by
  rw [List.getElem?_zip_eq_some_iff' xs i]
where
  List.getElem?_zip_eq_some_iff' (xs : List D) (i : Nat) : ((List.range xs.length).zip xs)[i]? = (xs[i]?).map fun x => (i, x) := by
    by_cases h : i < xs.length
    · rw [List.getElem?_eq_getElem (by rw [List.length_zip, List.length_range, Nat.min_self]; exact h), List.getElem?_eq_getElem h, List.getElem_zip, List.getElem_range]
      rfl
    · rw [List.getElem?_eq_none (by rw [List.length_zip, List.length_range, Nat.min_self]; omega), List.getElem?_eq_none (by omega)]
      rfl
/-- the pairs that enumerate gives -/
def numD (xs : List D) : List D := ((List.range xs.length).zip xs).map fun p => .tup [.int (p.1 : Nat), p.2]
theorem numD_length (xs : List D) : (numD xs).length = xs.length := by unfold numD; rw [List.length_map, List.length_zip, List.length_range, Nat.min_self]
theorem numD_get (xs : List D) {i : Nat} {x : D} (h : xs[i]? = some x) : (numD xs)[i]? = some (.tup [.int (i : Nat), x]) := by
  unfold numD
  rw [List.getElem?_map, num_get, h]
  rfl
def dEnum (ta : DTA) : DTI := fun ρ S R => ta ρ S fun ds S1 => ∃ d xs, ds = [d] ∧ seqD (vw S1 d) = some xs ∧ R (numD xs) (fun S2 => vw S2 d = vw S1 d) S1
theorem di_enum {ta : DTA} {tpos : Pos} {elts : List Expr} {kk : Nat} (hg : Gl X "enumerate") (hm : X.mg "enumerate" = none) (ha : DA X [e] ta) (hs : starEach [e] X.env = [(false, eval e X.env)] := by rfl) :
    DI X (.Tuple elts kk tpos) (.Call (.Name "enumerate" p) [e] [] pos) (dEnum ta) := (pi_enumB hg hm ha hs).weak fun σ H Q ⟨ρ, S, R, sl, rs, h, n⟩ =>
  ⟨ρ, S, _, sl, rs, h, fun ds S1 ⟨d, xs, ed, hx, h1⟩ vs H1 l rs1 f1 => by
    subst ed
    obtain ⟨v, ev, rv⟩ := rl1 l
    subst ev
    obtain ⟨a, rfl, src⟩ := seq_src rv rs1 hx
    obtain ⟨ws, q0, _⟩ := src H1 S1 (Fr.refl _ _) rs1 rfl
    refine ⟨_, a, ws, rfl, q0, n _ _ S1 h1 _ H1 ⟨fun i H2 S2 hi ⟨g1, g2⟩ rs2 => ?_, fun H2 S2 ⟨g1, g2⟩ rs2 => ?_, fun i H2 S2 x H3 hi ⟨g1, g2⟩ rs2 y => ?_⟩ rs1 f1⟩
    · obtain ⟨us, k1, k2⟩ := src H2 S2 g1 rs2 g2
      rw [numD_length] at hi
      exact ⟨us, _, k1, List.getElem?_eq_getElem (by rw [k2.len]; exact hi)⟩
    · obtain ⟨us, k1, k2⟩ := src H2 S2 g1 rs2 g2
      exact ⟨us, k1, by rw [numD_length, k2.len]⟩
    · obtain ⟨us, k1, k2⟩ := src H2 S2 g1 rs2 g2
      obtain ⟨T, u, rfl, hT, rfl, z⟩ := y
      obtain ⟨d', e1, e2⟩ := k2.get' (z us k1)
      exact ⟨_, numD_get xs e1, rp_tup hT rs2 (.cons (.int _) (.cons e2 .nil)), rs2.new hT, Fr.new hT⟩⟩
/-- the pairs that zip gives -/
def zipD (xs ys : List D) : List D := (xs.zip ys).map fun p => .tup [p.1, p.2]
theorem zipD_length (xs ys : List D) : (zipD xs ys).length = min xs.length ys.length := by unfold zipD; rw [List.length_map, List.length_zip]
theorem zipD_get {xs ys : List D} {i : Nat} {x y : D} (h : xs[i]? = some x) (k : ys[i]? = some y) : (zipD xs ys)[i]? = some (.tup [x, y]) := by
  obtain ⟨h1, h2⟩ := List.getElem?_eq_some_iff.mp h
  obtain ⟨k1, k2⟩ := List.getElem?_eq_some_iff.mp k
  unfold zipD
  rw [List.getElem?_map, List.getElem?_eq_getElem (by rw [List.length_zip]; omega), List.getElem_zip, h2, k2]
  rfl
def dZip (ta : DTA) : DTI := fun ρ S R => ta ρ S fun ds S1 => ∃ d d' xs ys, ds = [d, d'] ∧ seqD (vw S1 d) = some xs ∧ seqD (vw S1 d') = some ys ∧ R (zipD xs ys) (fun S2 => vw S2 d = vw S1 d ∧ vw S2 d' = vw S1 d') S1
theorem di_zip {e2 : Expr} {ta : DTA} {tpos : Pos} {elts : List Expr} {kk : Nat} (hg : Gl X "zip") (hm : X.mg "zip" = none) (ha : DA X [e, e2] ta) (hs : starEach [e, e2] X.env = (false, eval e X.env) :: starEach [e2] X.env := by rfl) (hpl : (backTo pos (starEach [e2] X.env)).any (·.1) = false := by rfl) :
    DI X (.Tuple elts kk tpos) (.Call (.Name "zip" p) [e, e2] [] pos) (dZip ta) := (pi_zipB hg hm ha hs hpl).weak fun σ H Q ⟨ρ, S, R, sl, rs, h, n⟩ =>
  ⟨ρ, S, _, sl, rs, h, fun ds S1 ⟨d, d', xs, ys, ed, hx, hy, h1⟩ vs H1 l rs1 f1 => by
    subst ed
    obtain ⟨v, v', ev, rv, rv'⟩ := rl2 l
    subst ev
    obtain ⟨a, rfl, src⟩ := seq_src rv rs1 hx
    obtain ⟨a', rfl, src'⟩ := seq_src rv' rs1 hy
    obtain ⟨ws, q0, _⟩ := src H1 S1 (Fr.refl _ _) rs1 rfl
    obtain ⟨ws', q0', _⟩ := src' H1 S1 (Fr.refl _ _) rs1 rfl
    refine ⟨_, _, a, a', ws, ws', rfl, q0, q0', n _ _ S1 h1 _ H1 ⟨fun i H2 S2 hi ⟨g1, g2, g3⟩ rs2 => ?_, fun H2 S2 ⟨g1, g2, g3⟩ rs2 => ?_, fun i H2 S2 x H3 hi ⟨g1, g2, g3⟩ rs2 y => ?_⟩ rs1 f1⟩
    · obtain ⟨us, k1, k2⟩ := src H2 S2 g1 rs2 g2
      obtain ⟨us', k1', k2'⟩ := src' H2 S2 g1 rs2 g3
      rw [zipD_length, Nat.lt_min] at hi
      exact ⟨us, us', _, _, k1, k1', List.getElem?_eq_getElem (by rw [k2.len]; exact hi.1), List.getElem?_eq_getElem (by rw [k2'.len]; exact hi.2)⟩
    · obtain ⟨us, k1, k2⟩ := src H2 S2 g1 rs2 g2
      obtain ⟨us', k1', k2'⟩ := src' H2 S2 g1 rs2 g3
      refine ⟨us, us', k1, k1', ?_⟩
      rw [zipD_length, k2.len, k2'.len]
      omega
    · obtain ⟨us, k1, k2⟩ := src H2 S2 g1 rs2 g2
      obtain ⟨us', k1', k2'⟩ := src' H2 S2 g1 rs2 g3
      obtain ⟨T, u, u', rfl, hT, rfl, z, z'⟩ := y
      obtain ⟨x1, e1, e2⟩ := k2.get' (z us k1)
      obtain ⟨x2, e3, e4⟩ := k2'.get' (z' us' k1')
      exact ⟨_, zipD_get e1 e3, rp_tup hT rs2 (.cons e2 (.cons e4 .nil)), rs2.new hT, Fr.new hT⟩⟩
/-! ### int(a text), xs.index(x) -/
def dIntS : DCl := fun ds S R => ∃ x n, ds = [.str x] ∧ PySem.intText? x = some n ∧ x.length ≤ 640 ∧ R (.int n) S
theorem cd_intS : CallR X (.type "int") (lC X.K dIntS) := by
  intro pins s σ H xs us Q I r h
  obtain ⟨ds, S, R, l, rs, ⟨x, n, rfl, h1, h2, h⟩, nx⟩ := h
  obtain ⟨v, rfl, rv⟩ := rl1 l
  cases rv
  exact call_int_str pins s σ H _ us Q I r ⟨x, n, rfl, h1, h2, nx.same h (.int _) rs⟩
theorem depth_mem {n : Nat} : ∀ {xs : List PyData}, PyData.depthAll xs ≤ n → ∀ x ∈ xs, x.depth ≤ n
  | [], _, x, hx => by cases hx
  | y :: xs, h, x, hx => by
    rw [PyData.depthAll] at h
    rcases List.mem_cons.mp hx with e | hx
    · rw [e]; exact Nat.le_trans (Nat.le_max_left _ _) h
    · exact depth_mem (Nat.le_trans (Nat.le_max_right _ _) h) x hx
/-- the first place at which an equal one stands -/
def idxN' (ps : List PyData) (p : PyData) : Option Nat := ps.findIdx? fun z => PyData.eqv z p
def dIdx : DMt := fun d ds S R => ∃ e xs j, ds = [e] ∧ vw S d = .lst xs ∧ xs.length ≤ sizeLine ∧ (∀ x ∈ xs, isDat x = true) ∧ isDat (vw S e) = true ∧ idxN' (xs.map toPy) (toPy (vw S e)) = some j ∧ R (.int (j : Nat)) S
theorem md_idx (hu : X.A.units + 64 < cLine) : MtR X "list.index" (lM X.K dIdx) := by
  intro pins s σ H x xs v us Q I rx rxs h
  obtain ⟨d, ds, S, R, rd, l, rs, ⟨e, ys, j, rfl, hd, hz, hy, he, hj, h⟩, n⟩ := h
  obtain ⟨w, rfl, rw'⟩ := rl1 l
  obtain ⟨a, vs, rfl, q, lv⟩ := vw_lst rd rs hd
  cases rx
  cases rxs with
  | cons ru rr =>
    cases rr
    rename_i u
    obtain ⟨its, rv, ⟨⟨cls, dd, data, sl⟩, m, ho, hc, hdn, hdt⟩, hlen⟩ := I.list (SqL.of q)
    simp only at hc hdt
    subst hc hdt
    obtain ⟨bs, rb⟩ := Dp.reads I _ w u (dp_vw rw' rs he) ru
    have each : ∀ i (hi : i < its.length), ∃ dy, ys[i]? = some dy ∧ ∃ as, Reads s.heap its[i] (toPy dy) as := fun i hi => by
      have hv : i < vs.length := by rw [rv.length]; exact hi
      obtain ⟨dy, e1, e2⟩ := lv.get' (List.getElem?_eq_getElem hv)
      obtain ⟨u1, e3, e4⟩ := rv.get (List.getElem?_eq_getElem hv)
      rw [List.getElem?_eq_getElem hi] at e3
      cases e3
      exact ⟨dy, e1, Dp.reads I _ _ _ (dp_of 8 _ _ e2 (hy dy (List.mem_of_getElem? e1))) e4⟩
    obtain ⟨j1, j2, j3⟩ := List.findIdx?_eq_some_iff_getElem.mp hj
    rw [List.length_map] at j1
    have lens : its.length = ys.length := by rw [← rv.length, lv.len]
    refine call_meets PySem.F.slot_list_index ⟨_, ho, rfl⟩ PySem.F.entry_list_index (PySem.F.args_list_index_2 _ _)
      (PySem.SeqAt.list_index2_found a its.toArray m dd sl u (fun i => PyData.eqv (toPy (ys.getD i .non)) (toPy (vw S e))) j (by rw [List.size_toArray, lens]; exact j1) (Nat.zero_le _) (by rw [sizeLine_eq] at hz; omega) ?_ fun i hi _ hij => ?_) ⟨ho, fun i hi => ?_, ?_⟩
    · rw [List.getD_eq_getElem?_getD, List.getElem?_eq_getElem j1]
      simpa using j2
    · have hi' : i < ys.length := by rw [List.size_toArray, lens] at hi; exact hi
      have z := j3 i hij
      rw [List.getElem_map] at z
      rw [List.getD_eq_getElem?_getD, List.getElem?_eq_getElem hi']
      simpa using z
    · have hi' : i < its.length := by rw [List.size_toArray] at hi; exact hi
      obtain ⟨dy, e1, as, r1⟩ := each i hi'
      have ed : ys.getD i .non = dy := by rw [List.getD_eq_getElem?_getD, e1]; rfl
      rw [ed]
      have dy1 := hy dy (List.mem_of_getElem? e1)
      have e5 : its.toArray[i] = its[i] := by simp
      rw [e5]
      exact PySem.SeqAt.eqAt_plain _ _ _ _ _ _ as bs r1 rb (isDat_plain dy1) (isDat_plain he) (by
        have z := isDat_room (e := vw S e) dy1 hu
        show X.A.in1.units + _ < _
        have y : X.A.in1.units = X.A.units + 1 := rfl
        have := isDat_depth dy1
        have := Nat.min_le_left (toPy dy).depth (toPy (vw S e)).depth
        omega)
    · exact ⟨.int _, H, I.tok _, ⟨_, rfl⟩, n.same h (.int _) rs⟩
/-! ### own classes: isinstance, == -/
/-- what isinstance asks of an own class -/
structure IsiC (K : PySem.W.Frag) (C : Addr) : Prop where
  cl : Cls K C
  ha : PySem.W.findIn K (.ref C) "__class__" = some (some (.builtin "object.__class__"))
  hn : PySem.W.specialIn K (.builtin "object.__class__") "__get__" = some (some (.builtin "getset_descriptor.__get__"))
  htk : PySem.W.takesIn K (.builtin "object.__class__") = some true
  hm : PySem.W.mroIn K C (.type "object") = some true
def dIsiC (C : Addr) : DCl := fun ds S R => ∃ d fs, ds = [d, .ref C] ∧ fldsD C (vw S d) = some fs ∧ R (.bl true) S
theorem cd_isiC {C : Addr} (F : IsiC X.K C) : CallR X (.builtin "isinstance") (lC X.K (dIsiC C)) := by
  intro pins s σ H xs us Q I r h
  obtain ⟨ds, S, R, l, rs, ⟨d, fs, rfl, hf, h⟩, n⟩ := h
  obtain ⟨v, u, rfl, rv, ru⟩ := rl2 l
  cases ru
  obtain ⟨a, dx, vs, rfl, q, _⟩ := fldsD_rp rv rs hf
  exact call_isi pins s σ H _ us Q I r ⟨.ref a, .ref C, .ref C, .ref C, true, rfl, .own C, .base (.ins q F.cl F.ha F.hn F.htk F.hm), if_pos (beq_self_eq_true _), n.same h (.bl _) rs⟩
/-- x == y by the class's own __eq__ -/
def dEqC (C : Addr) (sp : DSp) : DOp := fun d e S R => ∃ fs gs, fldsD C (vw S d) = some fs ∧ fldsD C (vw S e) = some gs ∧ sp [d, e] S (fun z S' => ∃ b, z = .bl b ∧ R (.bl b) S') DX0
theorem od_eqC {C f : Addr} {fd : FuncData} {ps : List Str} {k : Nat} {sp : DSp} (F : FnOk X.prog X.w X.K X.mg X.base CX0 k f fd ps (lP X.K sp)) (hr : Room k X.A) (hs : PySem.W.findIn X.K (.ref C) "__eq__" = some (some (.ref f))) (hf : PySem.W.isFn X.K (.ref f) = true) (hb : Binds X.K fd ps []) :
    OpR X (compareOp .Eq) (lO X.K (dEqC C sp)) := by
  intro pins s σ H x y v u Q I rx ry h
  obtain ⟨d, e, S, R, rd, re, rs, ⟨fs, gs, h1, h2, h⟩, n⟩ := h
  obtain ⟨a, dx, vs, rfl, ha, _⟩ := fldsD_rp rd rs h1
  obtain ⟨b, dy, ws, rfl, hb', _⟩ := fldsD_rp re rs h2
  cases rx
  cases ry
  obtain ⟨mA, J, _⟩ := ins_get I.hok ha
  obtain ⟨mB, J', _⟩ := ins_get I.hok hb'
  obtain ⟨od, J, _⟩ := J.look
  obtain ⟨od', J', _⟩ := J'.look
  obtain ⟨m, hF⟩ := I.fr
  show wpAny (model X.prog X.w) X.A (richCompare .Eq (.ref a) (.ref b)) (EP X pins σ Q) X.xe s
  refine PySem.W.cmp_K (op := .Eq) (tb := .ref C) hr.units0 hF I.ok.mod.kin J J'.type (by simp [PySem.W.notFirst]) hs hf ?_
  have hsp : lP X.K sp [.ref a, .ref b] H (fun v H' => ∃ b, v = .bl b ∧ Q (.bl b) H') E0 := ⟨[d, e], S, _, DX0, .cons rd (.cons re .nil), rs, h, fun z S' ⟨b, ez, hz⟩ v H' rv rs' f' => by
    subst ez
    cases rv
    exact ⟨b, rfl, n _ S' hz _ H' (.bl b) rs' f'⟩, .none⟩
  refine wpAny_mono (run_fn (us := [.ref a, .ref b]) (vs := [.ref a, .ref b]) (Q := fun v H' => ∃ b, v = .bl b ∧ Q (.bl b) H') F hr hb .nil (pass0 (X := X)) I (.cons rfl (.cons rfl .nil)) hsp) (fun w s' hw => ?_) fun _ _ x => x
  obtain ⟨z, H', I', rz, b, rfl, q⟩ := hw
  cases rz
  exact ⟨.bl b, H', I', rfl, q⟩
/-! ### repr of data -/
def dRepr : DCl := fun ds S R => ∃ d xs, ds = [d] ∧ (vw S d = .lst xs ∨ vw S d = .tup xs ∨ vw S d = .ktp xs) ∧ isDat (vw S d) = true ∧ (toPy (vw S d)).showable = true ∧ (toPy (vw S d)).hasDict = false ∧ (toPy (vw S d)).shown.length ≤ sizeLine ∧ R (.str (toPy (vw S d)).shown) S
theorem cd_repr (hg : X.A.guards = some []) (hu : X.A.units + 64 < cLine) : CallR X (.builtin "repr") (lC X.K dRepr) := by
  intro pins s σ H xs us Q I r h
  obtain ⟨ds, S, R, l, rs, ⟨d, xs, rfl, sq, hd, h1, h2, h3, h⟩, n⟩ := h
  obtain ⟨v, rfl, rv⟩ := rl1 l
  have rf : ∃ a, v = .ref a := by
    rcases sq with e | e | e
    · obtain ⟨a, _, ev, _⟩ := vw_lst rv rs e; exact ⟨a, ev⟩
    · obtain ⟨_, a, _, ev, _⟩ := vw_tup rv rs e; exact ⟨a, ev⟩
    · obtain ⟨a, _, ev, _⟩ := vw_ktp rv rs e; exact ⟨a, ev⟩
  obtain ⟨a, rfl⟩ := rf
  cases r with
  | cons r1 r2 =>
    cases r2
    cases r1
    obtain ⟨as, rd⟩ := Dp.reads I _ _ _ (dp_vw rv rs hd) (show RelV (.ref a) (.ref a) from rfl)
    refine repr_of_reads' (h₀ := s.heap) rd h1 (PySem.PyData.noDict_hsm h2) hg (by have := isDat_depth hd; omega) (fun _ _ e => e) (fun h' u tk hk => ?_) h3
    exact ⟨.str _, H, I.kept hk, ⟨u, rfl⟩, n.same h (.str _) rs⟩
end
end DL
end
section
set_option maxHeartbeats 4000000
/-! The data layer, part i: names of the module, defs as they stand behind the top. -/
namespace DL
open PySem PySem.Spec L2 PyProof.Rows
/-- a def of the module: its object and its text -/
structure Src (K : PySem.W.Frag) (mg : Str → Option Value) (x : Str) (ps : List Str) (st : Stmt) : Prop where
  ex : ∃ (f : Addr) (fd : FuncData), Fun K x x st f fd ∧ mg x = some (.ref f) ∧ Binds K fd ps []
/-- .. and its promise -/
structure Fn (P : Program) (w : World) (K : PySem.W.Frag) (mg : Str → Option Value) (base : Heap) (x : Str) (k : Nat) (ps : List Str) (sp : DSp) : Prop where
  ex : ∃ (f : Addr) (fd : FuncData), FnOk P w K mg base CX0 k f fd ps (lP K sp) ∧ mg x = some (.ref f) ∧ PySem.W.keepIn K (.ref f) = true ∧ Binds K fd ps []
/-- .. where no repr is under way -/
structure FnR (P : Program) (w : World) (K : PySem.W.Frag) (mg : Str → Option Value) (base : Heap) (x : Str) (k : Nat) (ps : List Str) (sp : DSp) : Prop where
  ex : ∃ (f : Addr) (fd : FuncData), FnG P w K mg base CX0 k f fd ps (lP K sp) ∧ mg x = some (.ref f) ∧ PySem.W.keepIn K (.ref f) = true ∧ Binds K fd ps []
section
variable {P : Program} {w : World} {K : PySem.W.Frag} {mg : Str → Option Value} {base : Heap} {x : Str} {k j : Nat} {ps N : List Str} {sp : DSp} {st : Stmt} {t : DTS}
theorem Fn.mono (F : Fn P w K mg base x j ps sp) (h : j ≤ k) : Fn P w K mg base x k ps sp := by
  obtain ⟨f, fd, h1, r⟩ := F.ex
  exact ⟨f, fd, h1.mono h, r⟩
/-- the body's context -/
abbrev bX (P : Program) (w : World) (K : PySem.W.Frag) (mg : Str → Option Value) (base : Heap) (N : List Str) (qual : Str) (st : Stmt) (f : Addr) (cd : Value) (A : Around) (out : List Env) (s : Shared) (H : Hp) (E : XK) : Cx := (cxOf CX0 P w K mg base N qual (defScope st) f cd A out s H E).nox
theorem ok_of {qual : Str} {f : Addr} {fd : FuncData} (F : Fun K x qual st f fd) (Sc : FnScope N ps (defScope st)) (len : ∀ ds S R RE, sp ds S R RE → ds.length = ps.length)
    (der : ∀ (cd : Value) (A : Around) (out : List Env) (s : Shared) (H : Hp) (E : XK), Room k (A.deeper (envOfC qual (defScope st) s.heap.objs.size f cd)) → DSs (bX P w K mg base N qual st f cd A out s H E) (defBody st) t)
    (sem : ∀ ds S R RE, sp ds S R RE → t (dEnds R) (startD N ds) S) : FnOk P w K mg base CX0 (k + 1) f fd ps (lP K sp) := by
  refine F.ok Sc (fun vs H Q E h => ?_) (fun cd A out s H vs Q E hr h => ?_)
  · obtain ⟨ds, S, R, RE, l, _, h, _⟩ := h
    rw [l.len]
    exact len ds S R RE h
  · refine ⟨_, der cd A out s H E hr, ?_⟩
    obtain ⟨ds, S, R, RE, l, rs, h, n, _⟩ := h
    exact ⟨startD N ds, S, dEnds R, sl_start N l, rs, sem ds S R RE h, ends_ok n⟩
theorem fn_src (F : Src K mg x ps st) (Sc : FnScope N ps (defScope st)) (len : ∀ ds S R RE, sp ds S R RE → ds.length = ps.length)
    (der : ∀ (f : Addr) (cd : Value) (A : Around) (out : List Env) (s : Shared) (H : Hp) (E : XK), Room k (A.deeper (envOfC x (defScope st) s.heap.objs.size f cd)) → DSs (bX P w K mg base N x st f cd A out s H E) (defBody st) t)
    (sem : ∀ ds S R RE, sp ds S R RE → t (dEnds R) (startD N ds) S) : Fn P w K mg base x (k + 1) ps sp := by
  obtain ⟨f, fd, h, m, b⟩ := F.ex
  exact ⟨f, fd, ok_of h Sc len (der f) sem, m, h.kp, b⟩
theorem fnR_src (F : Src K mg x ps st) (Sc : FnScope N ps (defScope st)) (len : ∀ ds S R RE, sp ds S R RE → ds.length = ps.length)
    (der : ∀ (f : Addr) (cd : Value) (A : Around) (out : List Env) (s : Shared) (H : Hp) (E : XK), A.guards = some [] → Room k (A.deeper (envOfC x (defScope st) s.heap.objs.size f cd)) → DSs (bX P w K mg base N x st f cd A out s H E) (defBody st) t)
    (sem : ∀ ds S R RE, sp ds S R RE → t (dEnds R) (startD N ds) S) : FnR P w K mg base x (k + 1) ps sp := by
  obtain ⟨f, fd, h, m, b⟩ := F.ex
  refine ⟨f, fd, fnG_of h Sc (fun vs H Q E h => ?_) (fun cd A out s H vs Q E hg hr h => ?_), m, h.kp, b⟩
  · obtain ⟨ds, S, R, RE, l, _, h, _⟩ := h
    rw [l.len]
    exact len ds S R RE h
  · refine ⟨_, (der f cd A out s H E hg hr).nox, ?_⟩
    obtain ⟨ds, S, R, RE, l, rs, h, n, _⟩ := h
    exact ⟨startD N ds, S, dEnds R, sl_start N l, rs, sem ds S R RE h, ends_ok n⟩
end
section
variable {X : Cx} {x : Str} {p pos : Pos} {e : Expr} {es : List Expr} {te : DTE} {ta : DTA} {k : Nat} {ps : List Str} {sp : DSp}
theorem de_call (F : Fn X.prog X.w X.K X.mg X.base x k ps sp) (hr : Room k X.A) (hg : Gl X x) (ha : DA X (e :: es) ta) (hdb : (x == ("__debug__" : Str)) = false := by decide) (he : starEach (e :: es) X.env = (false, eval e X.env) :: starEach es X.env := by rfl) (hpl : (backTo pos (starEach es X.env)).any (·.1) = false := by rfl) :
    DE X (.Call (.Name x p) (e :: es) [] pos) (dFn sp ta) := by
  obtain ⟨f, fd, h, m, kp, b⟩ := F.ex
  exact de_fn h hr hg m kp b ha hdb he hpl
theorem de_callR (hgd : X.A.guards = some []) (F : FnR X.prog X.w X.K X.mg X.base x k ps sp) (hr : Room k X.A) (hg : Gl X x) (ha : DA X (e :: es) ta) (hdb : (x == ("__debug__" : Str)) = false := by decide) (he : starEach (e :: es) X.env = (false, eval e X.env) :: starEach es X.env := by rfl) (hpl : (backTo pos (starEach es X.env)).any (·.1) = false := by rfl) :
    DE X (.Call (.Name x p) (e :: es) [] pos) (dFn sp ta) := by
  obtain ⟨f, fd, h, m, kp, b⟩ := F.ex
  exact (pe_callG h hgd hr hg m kp b .nil pass0 ha hdb he hpl).weak fun _ _ _ => lE_fn
/-- a constant of the module -/
def GCon (mg : Str → Option Value) (x : Str) (v : V) : Prop := ∃ u, mg x = some u ∧ RelV v u
theorem de_gl {v : V} {d : D} (h : L2.Gl X x) (c : GCon X.mg x v) (f : Flat v d) (hd : (x == ("__debug__" : Str)) = false := by decide) : DE X (.Name x pos) (dC d) := by
  obtain ⟨u, h1, h2⟩ := c
  exact de_c (pe_glob h h1 h2 hd) f
theorem de_ty {T : String} (h : L2.Gl X x) (hm : X.mg x = none) (hv : bootBuiltins x = some (.type T)) (hn : x ≠ "__name__" := by decide) (hd : (x == ("__debug__" : Str)) = false := by decide) : DE X (.Name x pos) (dC (.ty T)) :=
  de_c (pe_bltn h hm hv (show RelV (.ty T) (.type T) from rfl) hn hd) (.ty T)
theorem pgs1 {e : Expr} {t : Tgt} (h : PG X e (gT X.K t)) (hs : (assignEach [e] X.env).map (·.2) = assign e X.env :: (assignEach [] X.env).map (·.2) := by rfl) : PGs X [e] (gTs X.K [t]) := by
  rw [gTs, gTs]
  exact pgs_cons h pgs_nil hs
theorem pgsc {e : Expr} {es : List Expr} {t : Tgt} {ts : List Tgt} (h : PG X e (gT X.K t)) (r : PGs X es (gTs X.K ts)) (hs : (assignEach (e :: es) X.env).map (·.2) = assign e X.env :: (assignEach es X.env).map (·.2) := by rfl) : PGs X (e :: es) (gTs X.K (t :: ts)) := by
  rw [gTs]
  exact pgs_cons h r hs
theorem pg_nm {i : Nat} (hN : X.N.Nodup) (hi : X.N[i]? = some x) (hx : Loc X.env.scope x) (hf : X.fn x = true ∨ X.env.scope.names.lookup x = some .local := by first | exact .inl rfl | exact .inr rfl | assumption) : PG X (.Name x pos) (gT X.K (.nm i)) := by
  rw [gT]
  exact pg_name hN hi hx hf
theorem pg_tp {es : List Expr} {k : Nat} {ts : List Tgt} (hc : X.calm = true) (h : PGs X es (gTs X.K ts)) (hn : (assignEach es X.env).length = ts.length := by rfl) (hst : (assignEach es X.env).findIdx? (·.1) = none := by rfl) : PG X (.Tuple es k pos) (gT X.K (.tp ts)) := by
  rw [gT]
  exact pg_tup hc h hn hst
end
/-! ### classes -/
/-- a method's object and its text -/
structure SrcM (K : PySem.W.Frag) (x qual : Str) (ps : List Str) (st : Stmt) (f : Addr) : Prop where
  ex : ∃ fd : FuncData, Fun K x qual st f fd ∧ Binds K fd ps []
structure FnM (P : Program) (w : World) (K : PySem.W.Frag) (mg : Str → Option Value) (base : Heap) (f : Addr) (k : Nat) (ps : List Str) (sp : DSp) : Prop where
  ex : ∃ fd : FuncData, FnOk P w K mg base CX0 k f fd ps (lP K sp) ∧ Binds K fd ps []
theorem fn_srcM {P : Program} {w : World} {K : PySem.W.Frag} {mg : Str → Option Value} {base : Heap} {x qual : Str} {k : Nat} {ps N : List Str} {sp : DSp} {st : Stmt} {t : DTS} {f : Addr} (F : SrcM K x qual ps st f) (Sc : FnScope N ps (defScope st)) (len : ∀ ds S R RE, sp ds S R RE → ds.length = ps.length)
    (der : ∀ (cd : Value) (A : Around) (out : List Env) (s : Shared) (H : Hp) (E : XK), Room k (A.deeper (envOfC qual (defScope st) s.heap.objs.size f cd)) → DSs (bX P w K mg base N qual st f cd A out s H E) (defBody st) t)
    (sem : ∀ ds S R RE, sp ds S R RE → t (dEnds R) (startD N ds) S) : FnM P w K mg base f (k + 1) ps sp := by
  obtain ⟨fd, h, b⟩ := F.ex
  exact ⟨fd, ok_of h Sc len der sem, b⟩
section
variable {X : Cx} {x m g : Str} {p pos apos : Pos} {e o : Expr} {es : List Expr} {te to : DTE} {ta : DTA} {k : Nat} {ps : List Str} {sp : DSp} {C f : Addr}
theorem de_new (M : Mk X.K C f) (F : FnM X.prog X.w X.K X.mg X.base f k ps sp) (hr : Room (k + 1) X.A) (hg : L2.Gl X x) (hm : X.mg x = some (.ref C)) (ha : DA X (e :: es) ta) (hdb : (x == ("__debug__" : Str)) = false := by decide)
    (he : starEach (e :: es) X.env = (false, eval e X.env) :: starEach es X.env := by rfl) (hpl : (backTo pos (starEach es X.env)).any (·.1) = false := by rfl) : DE X (.Call (.Name x p) (e :: es) [] pos) (dMk C sp ta) := by
  obtain ⟨fd, h, b⟩ := F.ex
  exact de_mk M h hr hg hm b ha hdb he hpl
theorem de_newM (M : Mk X.K C f) (F : FnM X.prog X.w X.K X.mg X.base f k ps sp) (hr : Room (k + 1) X.A) (hg : L2.Gl X x) (hm : X.mg x = some (.ref C)) (ha : DA X (e :: es) ta) (hdb : (x == ("__debug__" : Str)) = false := by decide)
    (he : starEach (e :: es) X.env = (false, eval e X.env) :: starEach es X.env := by rfl) (hpl : (backTo pos (starEach es X.env)).any (·.1) = false := by rfl) : DE X (.Call (.Name x p) (e :: es) [] pos) (dMkM C sp ta) := by
  obtain ⟨fd, h, b⟩ := F.ex
  exact de_mkM M h hr hg hm b ha hdb he hpl
theorem de_attr {q : Addr} (c : Cls X.K C) (hp : PropOf X.K C g q f) (F : FnM X.prog X.w X.K X.mg X.base f k ps sp) (hr : Room (k + 1) X.A) (he : DE X e te) (hab : attributeBase e g X.env (eval e X.env) = eval e X.env := by rfl) : DE X (.Attribute e g pos) (dProp C sp te) := by
  obtain ⟨fd, h, b⟩ := F.ex
  exact de_prop c hp h hr b he hab
theorem de_meth {pl : Sem Bool} (he : DE X o to) (c : Cls X.K C) (hm : Meth X.K C m f) (F : FnM X.prog X.w X.K X.mg X.base f k ps sp) (hr : Room k X.A) (ha : DA X (e :: es) ta)
    (hst : starEach (e :: es) X.env = (false, eval e X.env) :: starEach es X.env := by rfl) (hpl : (backTo pos (starEach es X.env)).any (·.1) = false := by rfl)
    (ht : eval (.Call (.Attribute o m apos) (e :: es) [] pos) X.env = (do
      let ov ← eval o X.env
      standAt apos.atName
      let (f, first) ← holding [ov] (getMethod ov m pl)
      callWith pos f first (backTo pos (starEach (e :: es) X.env)) (backToKw pos (keywordEach [] X.env))) := by rfl) : DE X (.Call (.Attribute o m apos) (e :: es) [] pos) (dMeth C m sp to ta) := by
  obtain ⟨fd, h, b⟩ := F.ex
  exact (pe_meth (pl := pl) he c hm h hr b .nil pass0 ha hst hpl ht).weak fun _ _ _ => lE_meth
theorem od_own (F : FnM X.prog X.w X.K X.mg X.base f k ps sp) (hr : Room k X.A) (hs : PySem.W.findIn X.K (.ref C) "__eq__" = some (some (.ref f))) (hf : PySem.W.isFn X.K (.ref f) = true) : OpR X (compareOp .Eq) (lO X.K (dEqC C sp)) := by
  obtain ⟨fd, h, b⟩ := F.ex
  exact od_eqC h hr hs hf b
end
end DL
end
section
set_option maxHeartbeats 4000000
/-! The data layer, part j: the built-in names. -/
namespace DL
open PySem PySem.Spec L2
structure Blt (mg : Str → Option Value) : Prop where
  abs_ : mg "abs" = none
  all_ : mg "all" = none
  any_ : mg "any" = none
  isinstance_ : mg "isinstance" = none
  len_ : mg "len" = none
  max_ : mg "max" = none
  min_ : mg "min" = none
  repr_ : mg "repr" = none
  sorted_ : mg "sorted" = none
  sum_ : mg "sum" = none
  int_ : mg "int" = none
  str_ : mg "str" = none
  tuple_ : mg "tuple" = none
  list_ : mg "list" = none
  bool_ : mg "bool" = none
  dict_ : mg "dict" = none
  set_ : mg "set" = none
  enumerate_ : mg "enumerate" = none
  range_ : mg "range" = none
  zip_ : mg "zip" = none
theorem bt_abs : bootBuiltins "abs" = some (.builtin "abs") := by decide +kernel
theorem bt_all : bootBuiltins "all" = some (.builtin "all") := by decide +kernel
theorem bt_any : bootBuiltins "any" = some (.builtin "any") := by decide +kernel
theorem bt_isinstance : bootBuiltins "isinstance" = some (.builtin "isinstance") := by decide +kernel
theorem bt_len : bootBuiltins "len" = some (.builtin "len") := by decide +kernel
theorem bt_max : bootBuiltins "max" = some (.builtin "max") := by decide +kernel
theorem bt_min : bootBuiltins "min" = some (.builtin "min") := by decide +kernel
theorem bt_repr : bootBuiltins "repr" = some (.builtin "repr") := by decide +kernel
theorem bt_sorted : bootBuiltins "sorted" = some (.builtin "sorted") := by decide +kernel
theorem bt_sum : bootBuiltins "sum" = some (.builtin "sum") := by decide +kernel
theorem bt_int : bootBuiltins "int" = some (.type "int") := by decide +kernel
theorem bt_str : bootBuiltins "str" = some (.type "str") := by decide +kernel
theorem bt_tuple : bootBuiltins "tuple" = some (.type "tuple") := by decide +kernel
theorem bt_list : bootBuiltins "list" = some (.type "list") := by decide +kernel
theorem bt_bool : bootBuiltins "bool" = some (.type "bool") := by decide +kernel
theorem bt_dict : bootBuiltins "dict" = some (.type "dict") := by decide +kernel
theorem bt_set : bootBuiltins "set" = some (.type "set") := by decide +kernel
theorem bt_enumerate : bootBuiltins "enumerate" = some (.type "enumerate") := by decide +kernel
theorem bt_range : bootBuiltins "range" = some (.type "range") := by decide +kernel
theorem bt_zip : bootBuiltins "zip" = some (.type "zip") := by decide +kernel
end DL
end
section
set_option maxHeartbeats 4000000
/-! The data layer, part k: readings, step by step (each rule from what follows to what is asked). -/
namespace DL
open PySem PySem.Spec L2
section
variable {ρ : DSt} {S : Sto} {R : DK} {E : DEnds} {t u : DTS} {te ta tb tc : DTE} {ts tr : DTA} {c c2 : DTT} {d e : D} {ds : List D} {i j : Int} {k n m : Nat} {RT : Bool → Sto → Prop} {RA : List D → Sto → Prop} {x y : Str} {b : Bool}
/-! ### statements -/
theorem l_seq (h : t { E with nx := u E } ρ S) : dSeq t u E ρ S := h
theorem l_next (h : E.nx ρ S) : dNext E ρ S := h
theorem l_set (h : te ρ S fun d S1 => E.nx (ρ.set k (some d)) S1) : dSet k te E ρ S := h
theorem l_expr (h : te ρ S fun _ S1 => E.nx ρ S1) : dExpr te E ρ S := h
theorem l_ret (h : te ρ S E.rt) : dRet te E ρ S := h
theorem l_retN (h : E.rt .non S) : dRetN E ρ S := h
theorem l_if (h : c ρ S fun b S1 => if b = true then t E ρ S1 else u E ρ S1) : dIf c t u E ρ S := h
theorem l_par (h : ts ρ S fun ds S1 => ∃ d e, ds = [d, e] ∧ E.nx ((ρ.set k (some d)).set n (some e)) S1) : dPar k n ts E ρ S := h
theorem l_par2 {Q : D → D → Prop} (h : Q d e) : ∃ d' e', [d, e] = [d', e'] ∧ Q d' e' := ⟨d, e, rfl, h⟩
theorem l_asg {g : Tgt} (h : te ρ S fun d S1 => ∃ ρ1, bindD S1 g d ρ = some ρ1 ∧ E.nx ρ1 S1) : dAsg te g E ρ S := h
theorem l_for {ti : DTI} {g : Tgt} (h : ti ρ S fun ds chk S1 => forD g t chk ds E ρ S1) : dFor ti g t E ρ S := h
theorem l_putIx {td ti tv : DTE} (h : tv ρ S fun v S1 => td ρ S1 fun d S2 => ti ρ S2 fun z S3 => ∃ a xs i j, d = .ref a ∧ z = .int i ∧ S3 a = some (.lst xs) ∧ ixN xs.length i = some j ∧ E.nx ρ (S3.put a (.lst (xs.set j v)))) : dPutIx td ti tv E ρ S := h
theorem l_put {a : Addr} {xs : List D} {v : D} {N : Sto → Prop} (h : S a = some (.lst xs)) (hi : ixN xs.length i = some k) (q : N (S.put a (.lst (xs.set k v)))) : ∃ a' xs' i' j', D.ref a = .ref a' ∧ D.int i = .int i' ∧ S a' = some (.lst xs') ∧ ixN xs'.length i' = some j' ∧ N (S.put a' (.lst (xs'.set j' v))) := ⟨a, xs, i, k, rfl, rfl, h, hi, q⟩
theorem l_end {R' : DK} {S' : Sto} (sb : Sub S' S) (h : R' d S') : (dEnds R').rt d S := ⟨S', sb, h⟩
theorem l_end0 {R' : DK} (h : R' d S) : (dEnds R').rt d S := ⟨S, Sub.refl S, h⟩
theorem l_endN {R' : DK} {S' : Sto} (sb : Sub S' S) (h : R' .non S') : (dEnds R').nx ρ S := ⟨S', sb, h⟩
theorem l_endN0 {R' : DK} (h : R' .non S) : (dEnds R').nx ρ S := ⟨S, Sub.refl S, h⟩
theorem l_ite {p q : Prop} (h1 : b = true → p) (h2 : b = false → q) : if b = true then p else q := by
  cases b with
  | true => exact h1 rfl
  | false => exact h2 rfl
theorem l_it {p q : Prop} (h : b = true) (h1 : p) : if b = true then p else q := by rw [if_pos h]; exact h1
theorem l_if0 {p q : Prop} (h : b = false) (h1 : q) : if b = true then p else q := by rw [h]; exact h1
/-! ### expressions -/
theorem l_var (h : ρ[k]? = some (some d)) (q : R d S) : dVar k ρ S R := ⟨d, h, q⟩
theorem l_c (q : R d S) : dC d ρ S R := q
theorem l_bin {r : DOp} (h : ta ρ S fun d S1 => tb ρ S1 fun e S2 => r d e S2 R) : dBin r ta tb ρ S R := h
theorem l_test (h : te ρ S fun d S1 => ∃ k, d = .bl k ∧ RT k S1) : dTest te ρ S RT := h
theorem l_bl {Q : Bool → Prop} (h : Q b) : ∃ k, D.bl b = .bl k ∧ Q k := ⟨b, rfl, h⟩
theorem l_and (h : c ρ S fun b S1 => if b = true then c2 ρ S1 RT else RT false S1) : dAnd c c2 ρ S RT := h
theorem l_or (h : c ρ S fun b S1 => if b = true then RT true S1 else c2 ρ S1 RT) : dOr c c2 ρ S RT := h
theorem l_not (h : c ρ S fun b S1 => RT (!b) S1) : dNot c ρ S RT := h
theorem l_andV (h : ta ρ S fun d S1 => ∃ c, d = .bl c ∧ if c = true then tb ρ S1 R else R (.bl false) S1) : dAndV ta tb ρ S R := h
theorem l_orV (h : ta ρ S fun d S1 => ∃ c, d = .bl c ∧ if c = true then R (.bl true) S1 else tb ρ S1 R) : dOrV ta tb ρ S R := h
theorem l_notV (h : ta ρ S fun d S1 => ∃ c, d = .bl c ∧ R (.bl (!c)) S1) : dNotV ta ρ S R := h
theorem l_ifE (h : c ρ S fun b S1 => if b = true then ta ρ S1 R else tb ρ S1 R) : dIfE c ta tb ρ S R := h
theorem l_tru (h : te ρ S fun d S1 => ∃ k, truD (vw S1 d) = some k ∧ RT k S1) : dTru te ρ S RT := h
theorem l_truB {Q : Bool → Prop} (h : Q b) : ∃ k, truD (vw S (.bl b)) = some k ∧ Q k := ⟨b, rfl, h⟩
theorem l_tru1 {Q : Bool → Prop} (h : truD (vw S d) = some b) (q : Q b) : ∃ k, truD (vw S d) = some k ∧ Q k := ⟨b, h, q⟩
theorem l_yes (h : RT true S) : dYes ρ S RT := h
theorem l_chain {r r' : DOp} (h : ta ρ S fun d S1 => tb ρ S1 fun e S2 => r d e S2 fun z S3 => ∃ k, z = .bl k ∧ if k = true then tc ρ S3 fun g S4 => r' e g S4 R else R (.bl false) S3) : dChain r r' ta tb tc ρ S R := h
theorem l_nil (h : RA [] S) : dNil ρ S RA := h
theorem l_cons (h : te ρ S fun d S1 => tr ρ S1 fun ds S2 => RA (d :: ds) S2) : dCons te tr ρ S RA := h
theorem l_star (h : te ρ S fun d S1 => ∃ xs, seqD (vw S1 d) = some xs ∧ tr ρ S1 fun ds S2 => RA (xs ++ ds) S2) : dStar te tr ρ S RA := h
theorem l_starX {xs : List D} {Q : List D → Prop} (h : seqD (vw S d) = some xs) (q : Q xs) : ∃ xs, seqD (vw S d) = some xs ∧ Q xs := ⟨xs, h, q⟩
theorem l_tup (h : ts ρ S fun ds S1 => ds.length ≤ sizeLine ∧ R (.tup ds) S1) : dTup ts ρ S R := h
theorem l_lst (h : ts ρ S fun ds S1 => ds.length ≤ sizeLine ∧ R (.lst ds) S1) : dLst ts ρ S R := h
theorem l_lstM (h : ts ρ S fun ds S1 => ds.length ≤ sizeLine ∧ ∀ a, S1 a = none → R (.ref a) (S1.put a (.lst ds))) : dLstM ts ρ S R := h
theorem l_short {p : Prop} (h : ds.length ≤ 1000) (q : p) : ds.length ≤ sizeLine ∧ p := ⟨Nat.le_trans h (by decide), q⟩
theorem l_frz (h : te ρ S fun d S1 => match d with
  | .ref a => ∃ ds, S1 a = some (.lst ds) ∧ R (.lst ds) (S1.del a)
  | _ => R d S1) : dFrz te ρ S R := h
theorem l_call {r : DCl} (h : ts ρ S fun ds S1 => r ds S1 R) : dCall r ts ρ S R := h
theorem l_fn {sp : DSp} (h : ts ρ S fun ds S1 => sp ds S1 R DX0) : dFn sp ts ρ S R := h
theorem l_bm {T : String} {r : DMt} (h : te ρ S fun d S1 => mtyD T (vw S1 d) = true ∧ ts ρ S1 fun ds S2 => r d ds S2 R) : dBM T r te ts ρ S R := h
theorem l_and2 {p q : Prop} (h : p) (k : q) : p ∧ k = k ∧ q := ⟨h, rfl, k⟩
theorem l_rng1 {RI : List D → (Sto → Prop) → Sto → Prop} (h : ts ρ S fun ds S1 => ∃ j : Int, ds = [.int j] ∧ (-(2 ^ 62) ≤ j ∧ j < 2 ^ 62) ∧ RI ((List.range j.toNat).map fun (i : Nat) => D.int ((0 : Int) + (i : Int))) (fun _ => True) S1) : dRng1 ts ρ S RI := h
theorem l_rng2 {RI : List D → (Sto → Prop) → Sto → Prop} (h : ts ρ S fun ds S1 => ∃ i j : Int, ds = [.int i, .int j] ∧ (-(2 ^ 62) ≤ i ∧ i < 2 ^ 62 ∧ -(2 ^ 62) ≤ j ∧ j < 2 ^ 62) ∧ RI ((List.range (j - i).toNat).map fun (k : Nat) => D.int (i + (k : Int))) (fun _ => True) S1) : dRng2 ts ρ S RI := h
theorem l_seqI {RI : List D → (Sto → Prop) → Sto → Prop} (h : te ρ S fun d S1 => ∃ xs, itemsD (vw S1 d) = some xs ∧ RI xs (fun S2 => vw S2 d = vw S1 d) S1) : dSeqI te ρ S RI := h
theorem l_enum {RI : List D → (Sto → Prop) → Sto → Prop} (h : ts ρ S fun ds S1 => ∃ d xs, ds = [d] ∧ seqD (vw S1 d) = some xs ∧ RI (numD xs) (fun S2 => vw S2 d = vw S1 d) S1) : dEnum ts ρ S RI := h
theorem l_zip {RI : List D → (Sto → Prop) → Sto → Prop} (h : ts ρ S fun ds S1 => ∃ d d' xs ys, ds = [d, d'] ∧ seqD (vw S1 d) = some xs ∧ seqD (vw S1 d') = some ys ∧ RI (zipD xs ys) (fun S2 => vw S2 d = vw S1 d ∧ vw S2 d' = vw S1 d') S1) : dZip ts ρ S RI := h
theorem l_lc {ti : DTI} {g : Tgt} {tt : DTT} {vs : List Nat} (h : ti ρ S fun ds chk S1 => ∀ a, S1 a = none → compD a g tt te chk ds [] (wipeD ρ vs) (S1.put a (.lst [])) fun acc S2 => R (.lst acc) (S2.del a)) : dLc ti g tt te vs ρ S R := h
theorem l_lcM {ti : DTI} {g : Tgt} {tt : DTT} {vs : List Nat} (h : ti ρ S fun ds chk S1 => ∀ a, S1 a = none → compD a g tt te chk ds [] (wipeD ρ vs) (S1.put a (.lst [])) fun _ S2 => R (.ref a) S2) : dLcM ti g tt te vs ρ S R := h
theorem l_sl {tl th : DTO} (h : te ρ S fun d S1 => tl ρ S1 fun lo S2 => th ρ S2 fun hi S3 => match vw S3 d with
  | .lst xs => R (.lst (cutD xs lo hi)) S3
  | .tup xs => R (.tup (cutD xs lo hi)) S3
  | .str x => x.length ≤ sizeLine ∧ R (.str (cutS x lo hi)) S3
  | _ => False) : dSl te tl th ρ S R := h
theorem l_noP {RO : Option Int → Sto → Prop} (h : RO none S) : dNoPart ρ S RO := h
theorem l_part {RO : Option Int → Sto → Prop} (h : te ρ S fun d S1 => ∃ i, d = .int i ∧ RO (some i) S1) : dPart te ρ S RO := h
theorem l_int {Q : Int → Prop} (h : Q i) : ∃ k, D.int i = .int k ∧ Q k := ⟨i, rfl, h⟩
theorem l_rev (h : te ρ S fun d S1 => ∃ xs, vw S1 d = .lst xs ∧ R (.lst xs.reverse) S1) : dRev te ρ S R := h
theorem l_ss (h : te ρ S fun d S1 => ∃ xs b, seqD (vw S1 d) = some xs ∧ keysOk b xs ∧ ∀ ys, Sorted xs ys → R (.lst ys) S1) : dSS te ρ S R := h
theorem l_fld {C : Addr} {g : Str} (h : te ρ S fun d S1 => ∃ fs z, fldsD C (vw S1 d) = some fs ∧ fs.lookup g = some z ∧ R z S1) : dFld C g te ρ S R := h
theorem l_prop {C : Addr} {sp : DSp} (h : te ρ S fun d S1 => ∃ fs, fldsD C (vw S1 d) = some fs ∧ sp [d] S1 R DX0) : dProp C sp te ρ S R := h
theorem l_mk {C : Addr} {sp : DSp} (h : ts ρ S fun ds S1 => ∀ x, S1 x = none → sp (.ref x :: ds) (S1.put x (.obj C [])) (fun v S2 => v = .non ∧ ∃ fs, S2 x = some (.obj C fs) ∧ R (.obj C fs) (S2.del x)) DX0) : dMk C sp ts ρ S R := h
theorem l_putF {C : Addr} {g : Str} (h : tb ρ S fun v S1 => ta ρ S1 fun d S2 => ∃ a fs, d = .ref a ∧ S2 a = some (.obj C fs) ∧ fs.length < 1000 ∧ E.nx ρ (S2.put a (.obj C (putFD g v fs)))) : dPutF C g ta tb E ρ S := h
theorem l_fmt (h : te ρ S fun d S1 => match d with
  | .str y => y.length ≤ sizeLine ∧ R (.str y) S1
  | .int i => i.natAbs.log2 < 1920 ∧ R (.str (toString i)) S1
  | _ => False) : dFmt te ρ S R := h
theorem l_joined {ts : List DTE} (h : dJs ts Str.empty ρ S fun out S1 => R (.str out) S1) : dJoined ts ρ S R := h
theorem l_js0 {RO : Str → Sto → Prop} (h : RO x S) : dJs [] x ρ S RO := h
theorem l_jsc {ts : List DTE} {RO : Str → Sto → Prop} (h : te ρ S fun d S1 => ∃ y : Str, d = .str y ∧ (x ++ y).length ≤ sizeLine ∧ dJs ts (x ++ y) ρ S1 RO) : dJs (te :: ts) x ρ S RO := h
/-! ### operators on whole numbers -/
theorem l_add (h : R (.int (i + j)) S) : dAdd (.int i) (.int j) S R := h
theorem l_sub (h : R (.int (i - j)) S) : dSub (.int i) (.int j) S R := h
theorem l_mulL (hb : -(2 ^ 64) < i ∧ i < 2 ^ 64) (h : R (.int (i * j)) S) : dMul (.int i) (.int j) S R := ⟨.inl (.inl hb), h⟩
theorem l_mulR (hb : -(2 ^ 64) < j ∧ j < 2 ^ 64) (h : R (.int (i * j)) S) : dMul (.int i) (.int j) S R := ⟨.inl (.inr hb), h⟩
theorem l_mod (hj : 0 < j) (h : R (.int (i % j)) S) : dMod (.int i) (.int j) S R := ⟨hj, h⟩
theorem log2_lt {a k : Nat} (h : a < 2 ^ k) (hk : 0 < k) : a.log2 < k := by
  by_cases z : a = 0
  · subst z; simpa using hk
  · exact (Nat.log2_lt z).mpr h
theorem l_fdiv (hj : 0 < j) (hb : j < 2 ^ 8000) (h : R (.int (i / j)) S) : dFdiv (.int i) (.int j) S R := by
  refine ⟨⟨hj, Nat.lt_of_lt_of_le (log2_lt (k := 8000) ?_ (by decide)) (by decide)⟩, h⟩
  have e : ((j.natAbs : Nat) : Int) = j := Int.natAbs_of_nonneg (Int.le_of_lt hj)
  exact Int.ofNat_lt.mp (by rw [e, Int.natCast_pow]; exact hb)
theorem l_lt (h : R (.bl (decide (i < j))) S) : dLt (.int i) (.int j) S R := ⟨rfl, by show R (.bl (PySem.W.dataLt (.int i) (.int j))) S; rw [PySem.W.dataLt_int]; exact h⟩
theorem l_gt (h : R (.bl (decide (j < i))) S) : dGt (.int i) (.int j) S R := ⟨rfl, by show R (.bl (PySem.W.dataLt (.int j) (.int i))) S; rw [PySem.W.dataLt_int]; exact h⟩
theorem l_le (h : R (.bl (decide (i ≤ j))) S) : dLe (.int i) (.int j) S R := ⟨rfl, by
  show R (.bl (!PySem.W.dataLt (.int j) (.int i))) S
  rw [PySem.W.dataLt_int, ← decide_not]
  rw [decide_eq_decide.mpr (Int.not_lt (a := j) (b := i))]
  exact h⟩
theorem l_ge (h : R (.bl (decide (j ≤ i))) S) : dGe (.int i) (.int j) S R := ⟨rfl, by
  show R (.bl (!PySem.W.dataLt (.int i) (.int j))) S
  rw [PySem.W.dataLt_int, ← decide_not]
  rw [decide_eq_decide.mpr (Int.not_lt (a := i) (b := j))]
  exact h⟩
theorem l_eq (h : R (.bl (decide (i = j))) S) : dEq (.int i) (.int j) S R := ⟨⟨rfl, rfl⟩, by
  show R (.bl (PyData.eqv (.int i) (.int j))) S
  have e : PyData.eqv (.int i) (.int j) = decide (i = j) := by
    unfold PyData.eqv
    by_cases z : i = j
    · rw [z, decide_eq_true rfl]; first | rfl | simp
    · rw [decide_eq_false z]; simpa using z
  rw [e]; exact h⟩
theorem l_ne (h : R (.bl (!decide (i = j))) S) : dNe (.int i) (.int j) S R := ⟨⟨rfl, rfl⟩, by
  show R (.bl (!PyData.eqv (.int i) (.int j))) S
  have e : PyData.eqv (.int i) (.int j) = decide (i = j) := by
    unfold PyData.eqv
    by_cases z : i = j
    · rw [z, decide_eq_true rfl]; first | rfl | simp
    · rw [decide_eq_false z]; simpa using z
  rw [e]; exact h⟩
/-! ### others -/
theorem l_addS (hl : x.length + y.length ≤ sizeLine) (h : R (.str (x ++ y)) S) : dAdd (.str x) (.str y) S R := ⟨hl, h⟩
theorem l_addL {xs ys : List D} (hd : vw S d = .lst xs) (he : vw S e = .lst ys) (hl : xs.length + ys.length ≤ sizeLine) (h : R (.lst (xs ++ ys)) S) : dAdd d e S R := by
  unfold dAdd; rw [hd, he]; exact ⟨hl, h⟩
theorem l_ixL {xs : List D} {z : D} (hd : vw S d = .lst xs) (hz : atI xs i = some z) (h : R z S) : dIx d (.int i) S R := by
  have e : vw S (.int i) = .int i := rfl
  unfold dIx; rw [hd, e]; exact ⟨z, hz, h⟩
theorem l_ixT {xs : List D} {z : D} (hz : atI xs i = some z) (h : R z S) : dIx (.tup xs) (.int i) S R := ⟨z, hz, h⟩
theorem l_ixC {ns : List Int} {z : Int} (hz : atI ns i = some z) (h : R (.int z) S) : dIx (.scr ns) (.int i) S R := ⟨z, hz, h⟩
theorem l_ixS {z : Nat} (hl : x.length ≤ sizeLine) (hz : atI x.cps.toList i = some z) (h : R (.str ⟨#[z]⟩) S) : dIx (.str x) (.int i) S R := ⟨hl, z, hz, h⟩
theorem l_len (hn : lenD (vw S d) = some n) (h : R (.int n) S) : dLen [d] S R := ⟨d, n, rfl, hn, h⟩
theorem l_intI (h : R (.int i) S) : dInt [.int i] S R := ⟨.int i, rfl, h⟩
theorem l_intB (h : R (.int (if b then 1 else 0)) S) : dInt [.bl b] S R := ⟨.bl b, rfl, h⟩
theorem l_intS (hl : x.length ≤ 640) (hx : PySem.intText? x = some i) (h : R (.int i) S) : dInt [.str x] S R := ⟨.str x, rfl, hl, i, hx, h⟩
theorem l_abs (h : R (.int (if i < 0 then -i else i)) S) : dAbs [.int i] S R := ⟨i, rfl, h⟩
theorem l_max (h : R (.int (if j > i then j else i)) S) : dMax2 [.int i, .int j] S R := ⟨i, j, rfl, h⟩
theorem l_min (h : R (.int (if j < i then j else i)) S) : dMin2 [.int i, .int j] S R := ⟨i, j, rfl, h⟩
theorem l_all {xs : List D} {bs : List Bool} (hd : vw S d = .lst xs) (hb : blsD xs = some bs) (h : R (.bl (bs.all id)) S) : dAll [d] S R := ⟨d, xs, bs, rfl, hd, hb, h⟩
theorem l_any {xs : List D} {bs : List Bool} (hd : vw S d = .lst xs) (hb : blsD xs = some bs) (h : R (.bl (bs.any id)) S) : dAny [d] S R := ⟨d, xs, bs, rfl, hd, hb, h⟩
theorem l_list {xs : List D} (hd : seqD (vw S d) = some xs) (h : R (.lst xs) S) : dListOf [d] S R := ⟨d, xs, rfl, hd, h⟩
theorem l_tuple {xs : List D} (hd : vw S d = .lst xs ∨ vw S d = .tup xs) (h : R (.tup xs) S) : dTupOf [d] S R := by
  refine ⟨d, rfl, ?_⟩
  rcases hd with e | e <;> (rw [e]; exact h)
theorem l_str (hi : i.natAbs.log2 < 1920) (h : R (.str (toString i)) S) : dStrOf [.int i] S R := ⟨i, rfl, hi, h⟩
theorem l_isi {T ty : String} (hd : tyD (vw S d) = some ty) (hT : T ∈ tys) (h : R (.bl (isiB ty T)) S) : dIsi [d, .ty T] S R := ⟨d, T, ty, rfl, hT, hd, h⟩
theorem l_app {a : Addr} {xs : List D} (h : S a = some (.lst xs)) (hl : xs.length < sizeLine) (q : R .non (S.put a (.lst (xs ++ [d])))) : dAppend (.ref a) [d] S R := ⟨a, xs, d, rfl, rfl, h, hl, q⟩
theorem l_ext {a : Addr} {xs ys : List D} (h : S a = some (.lst xs)) (he : vw S d = .lst ys) (hl : xs.length + ys.length ≤ sizeLine) (q : R .non (S.put a (.lst (xs ++ ys)))) : dExtend (.ref a) [d] S R := ⟨a, xs, d, ys, rfl, rfl, h, he, hl, q⟩
theorem l_join {xs : List Str} {ys : List D} (he : seqD (vw S d) = some ys) (hx : strsD ys = some xs) (hl : (xs.map (·.length)).sum + xs.length * x.length ≤ 16777216) (q : R (.str (Txt.join x xs)) S) : dJoin (.str x) [d] S R := ⟨x, d, ys, xs, rfl, rfl, he, hx, hl, q⟩
theorem l_split (hy : (y.length == 0) = false) (hl : x.length + 2 ≤ sizeLine) (q : R (.lst ((Txt.split x y).map D.str)) S) : dSplit (.str x) [.str y] S R := ⟨x, y, rfl, rfl, hy, hl, q⟩
theorem l_isN (h : R (.bl (isNonD d)) S) : dIsN d .non S R := ⟨rfl, h⟩
theorem vw_ref {a : Addr} {z : D} (h : S a = some z) : vw S (.ref a) = z := by
  show (S a).getD (.ref a) = z
  rw [h]; rfl
theorem vw_put {a : Addr} {z : D} : vw (S.put a z) (.ref a) = z := vw_ref put_same
end
end DL
end
section
set_option maxHeartbeats 4000000
/-! The data layer, part l: loops by invariants, items, slices, stores. -/
namespace DL
open PySem PySem.Spec L2 TL
/-! ### loops by what holds ahead of each turn -/
section
variable {a : Addr} {g : Tgt} {tt : DTT} {te : DTE} {tb : DTS} {chk : Sto → Prop} {ρ : DSt} {RR : List D → Sto → Prop} {E : DEnds}
theorem comp_ind (I : List D → List D → Sto → Prop) (cell : ∀ ds acc S, I ds acc S → S a = some (.lst acc) ∧ chk S) (fin : ∀ acc S, I [] acc S → RR acc S)
    (turn : ∀ d ds acc S, I (d :: ds) acc S → (∀ acc' S', I ds acc' S' → compD a g tt te chk ds acc' ρ S' RR) → ∃ ρ1, bindD S g d ρ = some ρ1 ∧ tt ρ1 S fun b S2 => if b = true then te ρ1 S2 fun e S3 => (S3 a = some (.lst acc) ∧ acc.length < sizeLine) ∧ compD a g tt te chk ds (acc ++ [e]) ρ (S3.put a (.lst (acc ++ [e]))) RR else compD a g tt te chk ds acc ρ S2 RR) :
    ∀ ds acc S, I ds acc S → compD a g tt te chk ds acc ρ S RR
  | [], acc, S, h => ⟨cell _ _ _ h, fin acc S h⟩
  | d :: ds, acc, S, h => ⟨cell _ _ _ h, turn d ds acc S h fun acc' S' h' => comp_ind I cell fin turn ds acc' S' h'⟩
theorem for_ind (I : List D → DSt → Sto → Prop) (keep : ∀ ds ρ S, I ds ρ S → chk S) (fin : ∀ ρ S, I [] ρ S → E.nx ρ S)
    (turn : ∀ d ds ρ S, I (d :: ds) ρ S → (∀ ρ' S', I ds ρ' S' → forD g tb chk ds E ρ' S') → ∃ ρ1, bindD S g d ρ = some ρ1 ∧ tb { E with nx := forD g tb chk ds E, ct := forD g tb chk ds E, bk := E.nx } ρ1 S) :
    ∀ ds ρ S, I ds ρ S → forD g tb chk ds E ρ S
  | [], ρ, S, h => ⟨keep _ _ _ h, fin ρ S h⟩
  | d :: ds, ρ, S, h => ⟨keep _ _ _ h, turn d ds ρ S h fun ρ' S' h' => for_ind I keep fin turn ds ρ' S' h'⟩
/-- [f(x) for x in xs], f a promise that leaves the store: the images in order -/
theorem comp_map {α : Type} (f : α → D) (xs : List α) (src : α → D) {S0 : Sto} (hchk : ∀ acc, chk (S0.put a (.lst acc))) (len : xs.length ≤ 10000)
    (one : ∀ x ∈ xs, ∀ (S : Sto) (RD : DK), (∃ acc, S = S0.put a (.lst acc)) → (RD (f x) S) → ∃ ρ1, bindD S g (src x) ρ = some ρ1 ∧ te ρ1 S RD) (fin : RR (xs.map f) (S0.put a (.lst (xs.map f)))) :
    compD a g dYes te chk (xs.map src) [] ρ (S0.put a (.lst [])) RR := by
  have go : ∀ (done rest : List α), done ++ rest = xs → compD a g dYes te chk (rest.map src) (done.map f) ρ (S0.put a (.lst (done.map f))) RR := by
    intro done rest
    induction rest generalizing done with
    | nil =>
      intro e
      rw [List.append_nil] at e
      subst e
      exact ⟨⟨put_same, hchk _⟩, fin⟩
    | cons x rest ih =>
      intro e
      refine ⟨⟨put_same, hchk _⟩, ?_⟩
      have hx : x ∈ xs := by rw [← e]; exact List.mem_append_right _ List.mem_cons_self
      have l1 : (done.map f).length < sizeLine := by
        have z : done.length ≤ xs.length := by rw [← e, List.length_append]; omega
        rw [List.length_map, sizeLine_eq]
        omega
      have l2 := ih (done ++ [x]) (by rw [List.append_assoc]; exact e)
      rw [List.map_append, List.map_cons, List.map_nil] at l2
      obtain ⟨ρ1, hb, ht⟩ := one x hx (S0.put a (.lst (done.map f))) (fun e S3 => (S3 a = some (.lst (done.map f)) ∧ (done.map f).length < sizeLine) ∧ compD a g dYes te chk (rest.map src) (done.map f ++ [e]) ρ (S3.put a (.lst (done.map f ++ [e]))) RR) ⟨_, rfl⟩
        ⟨⟨put_same, l1⟩, by rw [put_put]; exact l2⟩
      exact ⟨ρ1, hb, ht⟩
  exact go [] xs rfl
end
/-! ### stores -/
theorem vw_put_ne {S : Sto} {a : Addr} {d e : D} (h : e ≠ .ref a) : vw (S.put a d) e = vw S e := by
  cases e with
  | ref b =>
    have n : b ≠ a := fun z => h (by rw [z])
    show ((S.put a d) b).getD _ = (S b).getD _
    rw [put_ne n]
  | _ => rfl
theorem vw_new {S : Sto} {a : Addr} {d e : D} (h : S a = none) (he : vw S e ≠ .ref a) : vw (S.put a d) e = vw S e := by
  refine vw_put_ne fun z => he ?_
  rw [z]
  show (S a).getD _ = _
  rw [h]; rfl
theorem put_comm {S : Sto} {a b : Addr} {d e : D} (h : a ≠ b) : (S.put a d).put b e = (S.put b e).put a d := by
  funext x
  unfold Sto.put
  by_cases h1 : x = a
  · by_cases h2 : x = b
    · exact absurd (h1.symm.trans h2) h
    · simp [h1, h2]
      intro z
      exact absurd z h
  · simp [h1]
theorem sub_new {S : Sto} {a : Addr} {d : D} (h : S a = none) : Sub S (S.put a d) := fun b e q => by
  have n : b ≠ a := fun z => by rw [z, h] at q; cases q
  rw [put_ne n]; exact q
theorem sub_put {S S' : Sto} {a : Addr} {d : D} (h : Sub S S') : Sub (S.put a d) (S'.put a d) := fun b e q => by
  by_cases n : b = a
  · subst n; rw [put_same] at q ⊢; exact q
  · rw [put_ne n] at q ⊢; exact h b e q
theorem sub_put_of {S S' : Sto} {a : Addr} {d : D} (h : ∀ b, b ≠ a → ∀ e, S b = some e → S' b = some e) (k : S' a = some d) : Sub (S.put a d) S' := fun b e q => by
  by_cases n : b = a
  · subst n; rw [put_same] at q; rw [k]; exact q
  · rw [put_ne n] at q; exact h b n e q
/-! ### items, slices -/
theorem atI_nat {α : Type} {xs : List α} {k : Nat} {x : α} (h : xs[k]? = some x) : atI xs (k : Nat) = some x := by
  have hk := (List.getElem?_eq_some_iff.mp h).1
  unfold atI ixN
  rw [if_pos (Int.natCast_nonneg k), if_pos (Int.ofNat_lt.mpr hk), Int.toNat_natCast]
  exact h
theorem atI_int {α : Type} {xs : List α} {i : Int} (h0 : 0 ≤ i) (h1 : i < xs.length) : ∃ x, xs[i.toNat]? = some x ∧ atI xs i = some x := by
  have hk : i.toNat < xs.length := by omega
  obtain ⟨k, rfl⟩ : ∃ k : Nat, i = (k : Nat) := ⟨i.toNat, (Int.toNat_of_nonneg h0).symm⟩
  rw [Int.toNat_natCast] at hk ⊢
  exact ⟨xs[k], List.getElem?_eq_getElem hk, atI_nat (List.getElem?_eq_getElem hk)⟩
theorem l_ixItems {S : Sto} {R : DK} {d x : D} {xs : List D} {i : Int} (h : itemsD (vw S d) = some xs) (hl : xs.length ≤ 100000) (hx : atI xs i = some x) (q : R x S) : dIx d (.int i) S R := by
  have e2 : vw S (.int i) = .int i := rfl
  unfold dIx
  rw [e2]
  cases e : vw S d with
  | lst ys => rw [e] at h; cases h; exact ⟨x, hx, q⟩
  | tup ys => rw [e] at h; cases h; exact ⟨x, hx, q⟩
  | ktp ys => rw [e] at h; cases h; exact ⟨x, hx, q⟩
  | scr ys =>
    rw [e] at h
    cases h
    unfold atI at hx
    rw [List.length_map] at hx
    cases z : ixN ys.length i with
    | none => rw [z] at hx; cases hx
    | some j =>
      rw [z] at hx
      have hx : (ys.map D.int)[j]? = some x := hx
      rw [List.getElem?_map] at hx
      obtain ⟨n, h1, rfl⟩ := Option.map_eq_some_iff.mp hx
      exact ⟨n, by unfold atI; rw [z]; exact h1, q⟩
  | str y =>
    rw [e] at h
    cases h
    have hl : y.cps.toList.length ≤ 100000 := by rw [List.length_map] at hl; exact hl
    unfold atI at hx
    rw [List.length_map] at hx
    cases z : ixN y.cps.toList.length i with
    | none => rw [z] at hx; cases hx
    | some j =>
      rw [z] at hx
      have hx : (y.cps.toList.map fun c => D.str ⟨#[c]⟩)[j]? = some x := hx
      rw [List.getElem?_map] at hx
      obtain ⟨n, h1, rfl⟩ := Option.map_eq_some_iff.mp hx
      refine ⟨?_, n, by unfold atI; rw [z]; exact h1, q⟩
      show y.cps.size ≤ sizeLine
      rw [Array.length_toList] at hl
      rw [sizeLine_eq]; omega
  | _ => rw [e] at h; cases h
theorem len_items {d : D} {xs : List D} (h : itemsD d = some xs) (hl : xs.length ≤ 100000) : lenD d = some xs.length := by
  cases d with
  | str y =>
    cases h
    rw [List.length_map, Array.length_toList] at hl ⊢
    show (if y.cps.size ≤ sizeLine then some y.length else none) = _
    rw [if_pos (by rw [sizeLine_eq]; omega)]
    rfl
  | scr ys => cases h; rw [List.length_map]; rfl
  | lst ys => cases h; rfl
  | tup ys => cases h; rfl
  | ktp ys => cases h; rfl
  | _ => cases h
theorem cut_from {xs : List D} {i : Int} (h0 : 0 ≤ i) (h1 : i ≤ xs.length) : cutD xs (some i) none = xs.drop i.toNat := by
  unfold cutD
  have e1 : HT.sIx xs.length 0 (some i) = i.toNat := by
    show (if i < 0 then _ else min i.toNat xs.length) = _
    rw [if_neg (by omega)]
    omega
  have e2 : HT.sIx xs.length xs.length none = xs.length := rfl
  rw [e1, e2]
  exact List.take_of_length_le (by rw [List.length_drop]; omega)
theorem cut_to {xs : List D} {i : Int} (h0 : 0 ≤ i) : cutD xs none (some i) = xs.take i.toNat := by
  unfold cutD
  have e1 : HT.sIx xs.length 0 none = 0 := rfl
  have e2 : HT.sIx xs.length xs.length (some i) = min i.toNat xs.length := by
    show (if i < 0 then _ else min i.toNat xs.length) = _
    rw [if_neg (by omega)]
  rw [e1, e2, List.drop_zero, Nat.sub_zero, ← List.take_take, List.take_length]
theorem blsD_map : ∀ bs : List Bool, blsD (bs.map D.bl) = some bs
  | [] => rfl
  | b :: bs => by show (blsD (bs.map D.bl)).map (b :: ·) = _; rw [blsD_map bs]; rfl
theorem strsD_map : ∀ xs : List Str, strsD (xs.map D.str) = some xs
  | [] => rfl
  | x :: xs => by show (strsD (xs.map D.str)).map (x :: ·) = _; rw [strsD_map xs]; rfl
/-! ### slices, stills and formats by cases -/
section
variable {ρ : DSt} {S : Sto} {R : DK} {te : DTE} {tl th : DTO} {d : D} {x : Str} {xs : List D} {lo hi : Option Int}
def slK (d : D) (lo hi : Option Int) (S : Sto) (R : DK) : Prop := match vw S d with
  | .lst xs => R (.lst (cutD xs lo hi)) S
  | .tup xs => R (.tup (cutD xs lo hi)) S
  | .str x => x.length ≤ sizeLine ∧ R (.str (cutS x lo hi)) S
  | _ => False
theorem l_sl2 (h : te ρ S fun d S1 => tl ρ S1 fun lo S2 => th ρ S2 fun hi S3 => slK d lo hi S3 R) : dSl te tl th ρ S R := h
theorem l_slL (h : vw S d = .lst xs) (q : R (.lst (cutD xs lo hi)) S) : slK d lo hi S R := by unfold slK; rw [h]; exact q
theorem l_slT (q : R (.tup (cutD xs lo hi)) S) : slK (.tup xs) lo hi S R := q
theorem l_slS (hl : x.length ≤ sizeLine) (q : R (.str (cutS x lo hi)) S) : slK (.str x) lo hi S R := ⟨hl, q⟩
def frzK (d : D) (S : Sto) (R : DK) : Prop := match d with
  | .ref a => ∃ ds, S a = some (.lst ds) ∧ R (.lst ds) (S.del a)
  | _ => R d S
theorem l_frz2 (h : te ρ S fun d S1 => frzK d S1 R) : dFrz te ρ S R := h
theorem l_frzR {a : Addr} (h : S a = some (.lst xs)) (q : R (.lst xs) (S.del a)) : frzK (.ref a) S R := ⟨xs, h, q⟩
theorem l_frzL (q : R (.lst xs) S) : frzK (.lst xs) S R := q
def fmtK (d : D) (S : Sto) (R : DK) : Prop := match d with
  | .str y => y.length ≤ sizeLine ∧ R (.str y) S
  | .int i => i.natAbs.log2 < 1920 ∧ R (.str (toString i)) S
  | _ => False
theorem l_fmt2 (h : te ρ S fun d S1 => fmtK d S1 R) : dFmt te ρ S R := h
theorem l_fmtS (hl : x.length ≤ sizeLine) (q : R (.str x) S) : fmtK (.str x) S R := ⟨hl, q⟩
theorem l_fmtI {i : Int} (hl : i.natAbs.log2 < 1920) (q : R (.str (toString i)) S) : fmtK (.int i) S R := ⟨hl, q⟩
end
/-! ### texts by their signs -/
abbrev tx (l : List Nat) : Str := ⟨l.toArray⟩
theorem tl_tx (l : List Nat) : tl (tx l) = l := by simp [tl]
theorem tx_tl (x : Str) : tx (tl x) = x := by cases x; simp [tl]
theorem tx_len (l : List Nat) : (tx l).length = l.length := by simp [Str.length]
theorem tx_app (l m : List Nat) : tx l ++ tx m = tx (l ++ m) := ext_tl (by rw [tl_append, tl_tx, tl_tx, tl_tx])
theorem tx_inj {l m : List Nat} (h : tx l = tx m) : l = m := by rw [← tl_tx l, h, tl_tx]
theorem cut_toS {l : List Nat} {i : Int} (h0 : 0 ≤ i) : cutS (tx l) none (some i) = tx (l.take i.toNat) := by
  refine ext_tl ?_
  have e1 : HT.sIx (tx l).length 0 none = 0 := rfl
  have e2 : HT.sIx (tx l).length (tx l).length (some i) = min i.toNat l.length := by
    show (if i < 0 then _ else min i.toNat (tx l).length) = _
    rw [if_neg (by omega), tx_len]
  unfold cutS
  rw [e1, e2, List.drop_zero, Nat.sub_zero]
  show ((tl (tx l)).take (min i.toNat l.length)).toArray.toList = tl (tx (l.take i.toNat))
  rw [tl_tx, tl_tx, ← List.take_take, List.take_length]
theorem cut_fromS {l : List Nat} {i : Int} (h0 : 0 ≤ i) : cutS (tx l) (some i) none = tx (l.drop i.toNat) := by
  refine ext_tl ?_
  have e1 : HT.sIx (tx l).length 0 (some i) = min i.toNat l.length := by
    show (if i < 0 then _ else min i.toNat (tx l).length) = _
    rw [if_neg (by omega), tx_len]
  have e2 : HT.sIx (tx l).length (tx l).length none = l.length := tx_len l
  unfold cutS
  rw [e1, e2]
  show (((tl (tx l)).drop (min i.toNat l.length)).take (l.length - min i.toNat l.length)).toArray.toList = tl (tx (l.drop i.toNat))
  rw [tl_tx, tl_tx]
  by_cases h : i.toNat ≤ l.length
  · rw [Nat.min_eq_left h]
    exact List.take_of_length_le (by rw [List.length_drop]; omega)
  · rw [Nat.min_eq_right (by omega), Nat.sub_self, List.drop_of_length_le (show l.length ≤ i.toNat by omega)]
    rfl
theorem nodup_le {α : Type} [DecidableEq α] : ∀ (l m : List α), l.Nodup → (∀ x ∈ l, x ∈ m) → l.length ≤ m.length
  | [], _, _, _ => Nat.zero_le _
  | x :: l, m, hn, hs => by
    obtain ⟨h1, h2⟩ := List.nodup_cons.mp hn
    have hx := hs x List.mem_cons_self
    have ih := nodup_le l (m.erase x) h2 fun y hy => (List.mem_erase_of_ne (fun e : y = x => h1 (by rw [← e]; exact hy))).2 (hs y (List.mem_cons_of_mem _ hy))
    rw [List.length_erase_of_mem hx] at ih
    have := List.length_pos_of_mem hx
    rw [List.length_cons]; omega
/-- a store told by what it is elsewhere -/
theorem store_is {S S' : Sto} {a c : Addr} {d : D} (off : ∀ b, b ≠ a → b ≠ c → S' b = S b) (hc : S c = none) (ne : a ≠ c) (ha : S' a = some d) : S'.del c = S.put a d := by
  funext b
  by_cases h1 : b = c
  · subst h1
    rw [del_same, put_ne (Ne.symm ne), hc]
  · rw [del_ne h1]
    by_cases h2 : b = a
    · subst h2; rw [put_same, ha]
    · rw [put_ne h2, off b h2 h1]
end DL
end
section
set_option maxHeartbeats 4000000
/-! What the defs of k63 promise. -/
namespace DL
open PySem PySem.Spec L2
/-! ### the pots of the law -/
def potD (o s c : Int) : D := .lst [.int o, .int s, .int c]
/-- a pot from which n draws may be made -/
def Pot (n : Nat) (d : D) : Prop := ∃ o s c : Int, d = potD o s c ∧ (0 ≤ o ∧ o < 10 ^ 300) ∧ (0 ≤ s ∧ s < 2305843009213693921) ∧ 0 ≤ c ∧ c + (n : Int) ≤ 2 ^ 40
theorem Pot.mono {n m : Nat} {d : D} (h : Pot n d) (hm : m ≤ n) : Pot m d := by
  obtain ⟨o, s, c, e, h1, h2, h3, h4⟩ := h
  exact ⟨o, s, c, e, h1, h2, h3, by omega⟩
/-- at a stands a pot of n draws -/
def PotAt (S : Sto) (a : Addr) (n : Nat) : Prop := ∃ d, S a = some d ∧ Pot n d
def sp__law_pot : DSp := fun ds S R _ => ∃ ns k, ds = [.scr ns, .int k] ∧ 0 ≤ k ∧ k < 1000 ∧ ∀ a d, S a = none → Pot (2 ^ 39) d → R (.ref a) (S.put a d)
def sp__law_take : DSp := fun ds S R _ => ∃ a u n, ds = [.ref a, .int u] ∧ PotAt S a (n + 1) ∧ 0 < u ∧ u < 2 ^ 62 ∧ ∀ v d, 0 ≤ v → v < u → Pot n d → R (.int v) (S.put a d)
def sp__law_pots : DSp := fun ds S R _ => ∃ ns m, ds = [.scr ns, .int m] ∧ ns.length ≤ 63 ∧ ∀ (as : List Addr) (S' : Sto), (∀ a ∈ as, PotAt S' a (2 ^ 39)) → as.Nodup → (∀ a ∈ as, S a = none) → Sub S S' → R (.lst (as.map D.ref)) S'
/-- one of some: an item of a list, a sign of a text -/
def sp__law_of : DSp := fun ds S R _ => ∃ a e xs n, ds = [.ref a, e] ∧ PotAt S a (n + 1) ∧ e ≠ .ref a ∧ itemsD (vw S e) = some xs ∧ xs ≠ [] ∧ xs.length ≤ 1000 ∧ ∀ x d, x ∈ xs → Pot n d → R x (S.put a d)
def sp__law_turned : DSp := fun ds S R _ => ∃ a e xs n, ds = [.ref a, e] ∧ PotAt S a (n + 2) ∧ e ≠ .ref a ∧ vw S e = .lst xs ∧ xs ≠ [] ∧ xs.length ≤ 1000 ∧ ∀ ys d, ys.Perm xs → Pot n d → R (.lst ys) (S.put a d)
/-! ### names -/
/-- a text by its signs -/
def nmD (l : List Nat) : D := .str (tx l)
def NameL (l : List Nat) : Prop := 1 ≤ l.length ∧ l.length ≤ 8 ∧ ∀ c ∈ l, 97 ≤ c ∧ c ≤ 122
def Names (ls : List (List Nat)) : Prop := (∀ l ∈ ls, NameL l) ∧ ls.Pairwise (· < ·) ∧ 2 ≤ ls.length ∧ ls.length ≤ 8
def sp__law_names : DSp := fun ds S R _ => ∃ a m n, ds = [.ref a, .int m] ∧ PotAt S a (n + 10) ∧ 2 ≤ m ∧ m ≤ 8 ∧ ∀ ls d, Names ls → Pot n d → R (.lst (ls.map nmD)) (S.put a d)
/-! ### pairs, links, worlds, nets -/
abbrev Nm := List Nat
def prD (p : Nm × Nm) : D := .tup [nmD p.1, nmD p.2]
structure Lk where
  a : Nm
  b : Nm
  t : Int
  k : Int
def lkD (l : Lk) : D := .tup [nmD l.a, nmD l.b, .int l.t, .int l.k]
def PLt (p q : Nm × Nm) : Prop := p.1 < q.1 ∨ (p.1 = q.1 ∧ p.2 < q.2)
def PairOf (ls : List Nm) (p : Nm × Nm) : Prop := p.1 ∈ ls ∧ p.2 ∈ ls ∧ p.1 < p.2
def Pairs (ls : List Nm) (ps : List (Nm × Nm)) : Prop := (∀ p ∈ ps, PairOf ls p) ∧ ps.Nodup ∧ ps.length ≤ 16
def FarI (i : Int) : Prop := 1 ≤ i ∧ i ≤ 999999999
def LinkOf (ls : List Nm) (l : Lk) : Prop := PairOf ls (l.a, l.b) ∧ FarI l.t ∧ FarI l.k
def Links (ls : List Nm) (ks : List Lk) : Prop := (∀ l ∈ ks, LinkOf ls l) ∧ ks.Pairwise (fun x y => PLt (x.a, x.b) (y.a, y.b)) ∧ ks.length ≤ 16
def rtD (ls : List Nm) : D := .tup (ls.map nmD)
def lnD (ks : List Lk) : D := .tup (ks.map lkD)
def wD (ls : List Nm) (ks : List Lk) : D := .tup [rtD ls, lnD ks]
def netD (C : Addr) (ls : List Nm) (ks : List Lk) : D := .obj C [("own_routers", rtD ls), ("own_links", lnD ks)]
/-- pages, by their signs -/
def headL (ls : List Nm) : List Nat := TL.joinL [32] ([114, 111, 117, 116, 101, 114, 115] :: ls)
def rowL (l : Lk) : List Nat := TL.joinL [32] [[108, 105, 110, 107], l.a, l.b, TL.numL l.t.toNat, TL.numL l.k.toNat]
def pageL (ls : List Nm) (ks : List Lk) : List Nat := TL.joinL [10] (headL ls :: ks.map rowL)
/-- each less than the next -/
def Asc (xs : List D) : Prop := ∀ p ∈ xs.zip xs.tail, ((∀ S, vw S p.1 = p.1) ∧ ∀ S, vw S p.2 = p.2) ∧ ordD p.1 p.2 = true ∧ PySem.W.dataLt (toPy p.1) (toPy p.2) = true
def sp__law_far : DSp := fun ds S R _ => ∃ a n, ds = [.ref a] ∧ PotAt S a (n + 3) ∧ ∀ v d, 1 ≤ v → v ≤ 90 → Pot n d → R (.int v) (S.put a d)
def sp__law_pairs : DSp := fun ds S R _ => ∃ a ls m n, ds = [.ref a, rtD ls, .int m] ∧ PotAt S a (n + 20) ∧ Names ls ∧ m ≤ 16 ∧ ∀ ps d, Pairs ls ps → Pot n d → R (.lst (ps.map prD)) (S.put a d)
def sp__law_world : DSp := fun ds S R _ => ∃ a i j k n, ds = [.ref a, .int i, .int j, .int k] ∧ PotAt S a (n + 130) ∧ (2 ≤ i ∧ i ≤ j ∧ j ≤ 8) ∧ (0 ≤ k ∧ k ≤ 100) ∧ ∀ ls ks d, Names ls → Links ls ks → Pot n d → R (wD ls ks) (S.put a d)
def sp__law_made (C : Addr) : DSp := fun ds S R _ => ∃ ls ks, ds = [wD ls ks] ∧ Names ls ∧ Links ls ks ∧ R (netD C ls ks) S
def sp__law_net_page : DSp := fun ds S R _ => ∃ ls ks, ds = [wD ls ks] ∧ Names ls ∧ Links ls ks ∧ R (.str (tx (pageL ls ks))) S
def sp_are_ascending : DSp := fun ds S R _ => ∃ d xs, ds = [d] ∧ (vw S d = .tup xs ∨ vw S d = .lst xs) ∧ xs.length ≤ 1000 ∧ Asc xs ∧ R (.bl true) S
def sp_is_tuple_to : DSp := fun ds S R _ => ∃ (xs : List D) (m : Int), ds = [.tup xs, .int m] ∧ R (.bl (decide ((xs.length : Int) ≤ m))) S
def sp_is_tuple_of : DSp := fun ds S R _ => ∃ (xs : List D) (m : Int), ds = [.tup xs, .int m] ∧ R (.bl (decide ((xs.length : Int) = m))) S
def sp_is_name : DSp := fun ds S R _ => ∃ l, ds = [nmD l] ∧ NameL l ∧ R (.bl true) S
def sp_is_one_of : DSp := fun ds S R _ => ∃ l ls, ds = [nmD l, rtD ls] ∧ R (.bl (decide (l ∈ ls))) S
def sp_is_ascending_of : DSp := fun ds S R _ => ∃ xs ls, ds = [rtD xs, rtD ls] ∧ (∀ x ∈ xs, x ∈ ls) ∧ xs.Pairwise (· < ·) ∧ xs.length ≤ 100 ∧ R (.bl true) S
def sp_is_integer : DSp := fun ds S R _ => ∃ i, ds = [.int i] ∧ R (.bl true) S
def sp_is_from : DSp := fun ds S R _ => ∃ i j, ds = [.int i, .int j] ∧ R (.bl (decide (j ≤ i))) S
def sp_are_routers : DSp := fun ds S R _ => ∃ ls, ds = [rtD ls] ∧ Names ls ∧ R (.bl true) S
def sp_is_link : DSp := fun ds S R _ => ∃ l ls, ds = [lkD l, rtD ls] ∧ LinkOf ls l ∧ R (.bl true) S
def sp_are_links : DSp := fun ds S R _ => ∃ ks ls, ds = [lnD ks, rtD ls] ∧ Links ls ks ∧ R (.bl true) S
def sp_Net___init__ (C : Addr) : DSp := fun ds S R _ => ∃ a ls ks, ds = [.ref a, rtD ls, lnD ks] ∧ Names ls ∧ Links ls ks ∧ S a = some (.obj C []) ∧ R .non (S.put a (netD C ls ks))
def sp_Net_routers (C : Addr) : DSp := fun ds S R _ => ∃ d ls ks, ds = [d] ∧ vw S d = netD C ls ks ∧ R (rtD ls) S
def sp_Net_links (C : Addr) : DSp := fun ds S R _ => ∃ d ls ks, ds = [d] ∧ vw S d = netD C ls ks ∧ R (lnD ks) S
def sp_Net___eq__ (C : Addr) : DSp := fun ds S R _ => ∃ ls ks, ds = [netD C ls ks, netD C ls ks] ∧ R (.bl true) S
def sp_show_net (C : Addr) : DSp := fun ds S R _ => ∃ ls ks, ds = [netD C ls ks] ∧ Names ls ∧ Links ls ks ∧ R (.str (tx (pageL ls ks))) S
def sp_rows_of : DSp := fun ds S R _ => ∃ x : Str, ds = [.str x] ∧ x.length ≤ 10000 ∧ R (.lst ((Txt.split x "\n").map .str)) S
def sp_integer_in : DSp := fun ds S R _ => ∃ n : Nat, ds = [.str (tx (TL.numL n))] ∧ n < 10 ^ 9 ∧ R (.int n) S
def sp_link_of_row : DSp := fun ds S R _ => ∃ ls l, ds = [.str (tx (rowL l))] ∧ Names ls ∧ LinkOf ls l ∧ R (lkD l) S
def sp_net_rows : DSp := fun ds S R _ => ∃ ls ks, ds = [.lst ((headL ls :: ks.map rowL).map fun x => .str (tx x))] ∧ Names ls ∧ Links ls ks ∧ R (.tup [wD ls ks, .int (1 + (ks.length : Int))]) S
def sp_read_net (C : Addr) : DSp := fun ds S R _ => ∃ ls ks, ds = [.str (tx (pageL ls ks))] ∧ Names ls ∧ Links ls ks ∧ R (netD C ls ks) S
def sp__law_fine : DSp := fun ds S R _ => ∃ a n, ds = [.ref a] ∧ PotAt S a (n + 170) ∧ ∀ d, Pot n d → R (.bl true) (S.put a d)
def sp_law : DSp := fun ds S R _ => ∃ ns, ds = [.scr ns] ∧ ns.length ≤ 63 ∧ R (.bl true) S
end DL
end
section
set_option maxHeartbeats 4000000
/-! The text by places, the names of its defs. Printed by gen.py. -/
namespace DL
open PySem PySem.Spec L2
def top (i : Nat) : Stmt := PySem.Challenge.pw_quietturns_k63_nets_as_texts.main.body.getD i (.Pass ⟨0, 0, 0, 0⟩)
abbrev s__law_pot : Stmt := top 45
abbrev N__law_pot : List Str := ["_law_script", "_law_k", "_law_cell", "_law_own"]
abbrev ps__law_pot : List Str := ["_law_script", "_law_k"]
theorem sc__law_pot : FnScope N__law_pot ps__law_pot (defScope s__law_pot) := ⟨rfl, rfl, rfl, by decide +kernel, rfl, by decide +kernel, by decide +kernel⟩
abbrev s__law_pots : Stmt := top 47
abbrev N__law_pots : List Str := ["_law_script", "_law_most", "_law_k"]
abbrev ps__law_pots : List Str := ["_law_script", "_law_most"]
theorem sc__law_pots : FnScope N__law_pots ps__law_pots (defScope s__law_pots) := ⟨rfl, rfl, rfl, by decide +kernel, rfl, by decide +kernel, by decide +kernel⟩
abbrev s__law_take : Stmt := top 46
abbrev N__law_take : List Str := ["_law_pot_here", "_law_upto", "_law_digit", "_law_prime", "_law_stirred"]
abbrev ps__law_take : List Str := ["_law_pot_here", "_law_upto"]
theorem sc__law_take : FnScope N__law_take ps__law_take (defScope s__law_take) := ⟨rfl, rfl, rfl, by decide +kernel, rfl, by decide +kernel, by decide +kernel⟩
abbrev s__law_of : Stmt := top 48
abbrev N__law_of : List Str := ["_law_pot_here", "_law_some"]
abbrev ps__law_of : List Str := ["_law_pot_here", "_law_some"]
theorem sc__law_of : FnScope N__law_of ps__law_of (defScope s__law_of) := ⟨rfl, rfl, rfl, by decide +kernel, rfl, by decide +kernel, by decide +kernel⟩
abbrev s__law_names : Stmt := top 50
abbrev N__law_names : List Str := ["_law_pot_here", "_law_many", "_law_small", "_law_stem", "_law_spot", "_law_at", "_law_found", "_law_turn", "_law_k"]
abbrev ps__law_names : List Str := ["_law_pot_here", "_law_many"]
theorem sc__law_names : FnScope N__law_names ps__law_names (defScope s__law_names) := ⟨rfl, rfl, rfl, by decide +kernel, rfl, by decide +kernel, by decide +kernel⟩
abbrev s__law_turned : Stmt := top 49
abbrev N__law_turned : List Str := ["_law_pot_here", "_law_some", "_law_at", "_law_row"]
abbrev ps__law_turned : List Str := ["_law_pot_here", "_law_some"]
theorem sc__law_turned : FnScope N__law_turned ps__law_turned (defScope s__law_turned) := ⟨rfl, rfl, rfl, by decide +kernel, rfl, by decide +kernel, by decide +kernel⟩
abbrev s__law_pairs : Stmt := top 52
abbrev N__law_pairs : List Str := ["_law_pot_here", "_law_routers", "_law_many", "_law_order", "_law_found", "_law_is_joined", "_law_at", "_law_other", "_law_rest", "_law_a", "_law_b"]
abbrev ps__law_pairs : List Str := ["_law_pot_here", "_law_routers", "_law_many"]
theorem sc__law_pairs : FnScope N__law_pairs ps__law_pairs (defScope s__law_pairs) := ⟨rfl, rfl, rfl, by decide +kernel, rfl, by decide +kernel, by decide +kernel⟩
abbrev s__law_far : Stmt := top 51
abbrev N__law_far : List Str := ["_law_pot_here"]
abbrev ps__law_far : List Str := ["_law_pot_here"]
theorem sc__law_far : FnScope N__law_far ps__law_far (defScope s__law_far) := ⟨rfl, rfl, rfl, by decide +kernel, rfl, by decide +kernel, by decide +kernel⟩
abbrev s__law_world : Stmt := top 53
abbrev N__law_world : List Str := ["_law_pot_here", "_law_least", "_law_most", "_law_more", "_law_many", "_law_routers", "_law_pairs_here", "_law_links", "_law_is_even", "_law_a", "_law_b", "_law_there"]
abbrev ps__law_world : List Str := ["_law_pot_here", "_law_least", "_law_most", "_law_more"]
theorem sc__law_world : FnScope N__law_world ps__law_world (defScope s__law_world) := ⟨rfl, rfl, rfl, by decide +kernel, rfl, by decide +kernel, by decide +kernel⟩
abbrev s_is_tuple_to : Stmt := top 17
abbrev N_is_tuple_to : List Str := ["value", "most"]
abbrev ps_is_tuple_to : List Str := ["value", "most"]
theorem sc_is_tuple_to : FnScope N_is_tuple_to ps_is_tuple_to (defScope s_is_tuple_to) := ⟨rfl, rfl, rfl, by decide +kernel, rfl, by decide +kernel, by decide +kernel⟩
abbrev s_is_name : Stmt := top 14
abbrev N_is_name : List Str := ["value", "sign"]
abbrev ps_is_name : List Str := ["value"]
theorem sc_is_name : FnScope N_is_name ps_is_name (defScope s_is_name) := ⟨rfl, rfl, rfl, by decide +kernel, rfl, by decide +kernel, by decide +kernel⟩
abbrev s_are_ascending : Stmt := top 18
abbrev N_are_ascending : List Str := ["things", "one", "other"]
abbrev ps_are_ascending : List Str := ["things"]
theorem sc_are_ascending : FnScope N_are_ascending ps_are_ascending (defScope s_are_ascending) := ⟨rfl, rfl, rfl, by decide +kernel, rfl, by decide +kernel, by decide +kernel⟩
abbrev s_are_routers : Stmt := top 26
abbrev N_are_routers : List Str := ["value", "name"]
abbrev ps_are_routers : List Str := ["value"]
theorem sc_are_routers : FnScope N_are_routers ps_are_routers (defScope s_are_routers) := ⟨rfl, rfl, rfl, by decide +kernel, rfl, by decide +kernel, by decide +kernel⟩
abbrev s_is_tuple_of : Stmt := top 16
abbrev N_is_tuple_of : List Str := ["value", "many"]
abbrev ps_is_tuple_of : List Str := ["value", "many"]
theorem sc_is_tuple_of : FnScope N_is_tuple_of ps_is_tuple_of (defScope s_is_tuple_of) := ⟨rfl, rfl, rfl, by decide +kernel, rfl, by decide +kernel, by decide +kernel⟩
abbrev s_is_one_of : Stmt := top 15
abbrev N_is_one_of : List Str := ["value", "some"]
abbrev ps_is_one_of : List Str := ["value", "some"]
theorem sc_is_one_of : FnScope N_is_one_of ps_is_one_of (defScope s_is_one_of) := ⟨rfl, rfl, rfl, by decide +kernel, rfl, by decide +kernel, by decide +kernel⟩
abbrev s_is_ascending_of : Stmt := top 19
abbrev N_is_ascending_of : List Str := ["value", "some", "item"]
abbrev ps_is_ascending_of : List Str := ["value", "some"]
theorem sc_is_ascending_of : FnScope N_is_ascending_of ps_is_ascending_of (defScope s_is_ascending_of) := ⟨rfl, rfl, rfl, by decide +kernel, rfl, by decide +kernel, by decide +kernel⟩
abbrev s_is_integer : Stmt := top 12
abbrev N_is_integer : List Str := ["value"]
abbrev ps_is_integer : List Str := ["value"]
theorem sc_is_integer : FnScope N_is_integer ps_is_integer (defScope s_is_integer) := ⟨rfl, rfl, rfl, by decide +kernel, rfl, by decide +kernel, by decide +kernel⟩
abbrev s_is_from : Stmt := top 13
abbrev N_is_from : List Str := ["value", "least"]
abbrev ps_is_from : List Str := ["value", "least"]
theorem sc_is_from : FnScope N_is_from ps_is_from (defScope s_is_from) := ⟨rfl, rfl, rfl, by decide +kernel, rfl, by decide +kernel, by decide +kernel⟩
abbrev s_is_link : Stmt := top 27
abbrev N_is_link : List Str := ["value", "routers"]
abbrev ps_is_link : List Str := ["value", "routers"]
theorem sc_is_link : FnScope N_is_link ps_is_link (defScope s_is_link) := ⟨rfl, rfl, rfl, by decide +kernel, rfl, by decide +kernel, by decide +kernel⟩
abbrev s_are_links : Stmt := top 28
abbrev N_are_links : List Str := ["value", "routers", "link"]
abbrev ps_are_links : List Str := ["value", "routers"]
theorem sc_are_links : FnScope N_are_links ps_are_links (defScope s_are_links) := ⟨rfl, rfl, rfl, by decide +kernel, rfl, by decide +kernel, by decide +kernel⟩
abbrev s_Net___init__ : Stmt := inClass (top 29) 0
abbrev N_Net___init__ : List Str := ["self", "routers", "links"]
abbrev ps_Net___init__ : List Str := ["self", "routers", "links"]
theorem sc_Net___init__ : FnScope N_Net___init__ ps_Net___init__ (defScope s_Net___init__) := ⟨rfl, rfl, rfl, by decide +kernel, rfl, by decide +kernel, by decide +kernel⟩
abbrev s__law_made : Stmt := top 54
abbrev N__law_made : List Str := ["_law_world_here"]
abbrev ps__law_made : List Str := ["_law_world_here"]
theorem sc__law_made : FnScope N__law_made ps__law_made (defScope s__law_made) := ⟨rfl, rfl, rfl, by decide +kernel, rfl, by decide +kernel, by decide +kernel⟩
abbrev s__law_net_page : Stmt := top 55
abbrev N__law_net_page : List Str := ["_law_world_here", "_law_rows", "_law_a", "_law_b", "_law_there", "_law_back"]
abbrev ps__law_net_page : List Str := ["_law_world_here"]
theorem sc__law_net_page : FnScope N__law_net_page ps__law_net_page (defScope s__law_net_page) := ⟨rfl, rfl, rfl, by decide +kernel, rfl, by decide +kernel, by decide +kernel⟩
abbrev s_Net_routers : Stmt := inClass (top 29) 1
abbrev N_Net_routers : List Str := ["self"]
abbrev ps_Net_routers : List Str := ["self"]
theorem sc_Net_routers : FnScope N_Net_routers ps_Net_routers (defScope s_Net_routers) := ⟨rfl, rfl, rfl, by decide +kernel, rfl, by decide +kernel, by decide +kernel⟩
abbrev s_Net_links : Stmt := inClass (top 29) 2
abbrev N_Net_links : List Str := ["self"]
abbrev ps_Net_links : List Str := ["self"]
theorem sc_Net_links : FnScope N_Net_links ps_Net_links (defScope s_Net_links) := ⟨rfl, rfl, rfl, by decide +kernel, rfl, by decide +kernel, by decide +kernel⟩
abbrev s_show_net : Stmt := top 39
abbrev N_show_net : List Str := ["net", "rows", "a", "b", "there", "back"]
abbrev ps_show_net : List Str := ["net"]
theorem sc_show_net : FnScope N_show_net ps_show_net (defScope s_show_net) := ⟨rfl, rfl, rfl, by decide +kernel, rfl, by decide +kernel, by decide +kernel⟩
abbrev s_rows_of : Stmt := top 40
abbrev N_rows_of : List Str := ["text"]
abbrev ps_rows_of : List Str := ["text"]
theorem sc_rows_of : FnScope N_rows_of ps_rows_of (defScope s_rows_of) := ⟨rfl, rfl, rfl, by decide +kernel, rfl, by decide +kernel, by decide +kernel⟩
abbrev s_integer_in : Stmt := top 20
abbrev N_integer_in : List Str := ["word", "sign"]
abbrev ps_integer_in : List Str := ["word"]
theorem sc_integer_in : FnScope N_integer_in ps_integer_in (defScope s_integer_in) := ⟨rfl, rfl, rfl, by decide +kernel, rfl, by decide +kernel, by decide +kernel⟩
abbrev s_link_of_row : Stmt := top 41
abbrev N_link_of_row : List Str := ["row", "words", "there", "back"]
abbrev ps_link_of_row : List Str := ["row"]
theorem sc_link_of_row : FnScope N_link_of_row ps_link_of_row (defScope s_link_of_row) := ⟨rfl, rfl, rfl, by decide +kernel, rfl, by decide +kernel, by decide +kernel⟩
abbrev s_net_rows : Stmt := top 42
abbrev N_net_rows : List Str := ["rows", "words", "links", "many", "word", "row"]
abbrev ps_net_rows : List Str := ["rows"]
theorem sc_net_rows : FnScope N_net_rows ps_net_rows (defScope s_net_rows) := ⟨rfl, rfl, rfl, by decide +kernel, rfl, by decide +kernel, by decide +kernel⟩
abbrev s_read_net : Stmt := top 43
abbrev N_read_net : List Str := ["text", "rows", "routers", "links", "many"]
abbrev ps_read_net : List Str := ["text"]
theorem sc_read_net : FnScope N_read_net ps_read_net (defScope s_read_net) := ⟨rfl, rfl, rfl, by decide +kernel, rfl, by decide +kernel, by decide +kernel⟩
abbrev s_Net___eq__ : Stmt := inClass (top 29) 3
abbrev N_Net___eq__ : List Str := ["self", "other"]
abbrev ps_Net___eq__ : List Str := ["self", "other"]
theorem sc_Net___eq__ : FnScope N_Net___eq__ ps_Net___eq__ (defScope s_Net___eq__) := ⟨rfl, rfl, rfl, by decide +kernel, rfl, by decide +kernel, by decide +kernel⟩
abbrev s__law_fine : Stmt := top 56
abbrev N__law_fine : List Str := ["_law_pot_here", "_law_world_here", "_law_far_here", "_law_net", "_law_page", "_law_read", "_law_a", "_law_b", "_law_there", "_law_back"]
abbrev ps__law_fine : List Str := ["_law_pot_here"]
theorem sc__law_fine : FnScope N__law_fine ps__law_fine (defScope s__law_fine) := ⟨rfl, rfl, rfl, by decide +kernel, rfl, by decide +kernel, by decide +kernel⟩
abbrev s_law : Stmt := top 57
abbrev N_law : List Str := ["_law_script", "_law_pot_here", "_law_turn"]
abbrev ps_law : List Str := ["_law_script"]
theorem sc_law : FnScope N_law ps_law (defScope s_law) := ⟨rfl, rfl, rfl, by decide +kernel, rfl, by decide +kernel, by decide +kernel⟩
end DL
end
section
set_option maxHeartbeats 4000000
/-! The readings of the defs. Printed by gen.py. -/
namespace DL
open PySem PySem.Spec L2
/-- _law_pot: slots 0 _law_script, 1 _law_k, 2 _law_cell, 3 _law_own -/
def t__law_pot : DTS := (dSeq (dSet 2 (dIfE (dTest (dBin dLt (dVar 1) (dCall dLen (dCons (dVar 0) dNil)))) (dBin dIx (dVar 0) (dVar 1)) (dBin dAdd (dBin dMul (dC (.int 43)) (dVar 1)) (dC (.int 29))))) (dSeq (dSet 3 (dBin dMul (dBin dMod (dCall dInt (dCons (dCall dAbs (dCons (dVar 2) dNil)) dNil)) (dBin dPow (dBin dPow (dC (.int 10)) (dC (.int 60))) (dC (.int 5)))) (dCall dInt (dCons (dBin dGe (dCall dAbs (dCons (dVar 2) dNil)) (dBin dPow (dC (.int 10)) (dC (.int 18)))) dNil)))) (dRet (dLstM (dCons (dVar 3) (dCons (dBin dMod (dCall dInt (dCons (dBin dAdd (dBin dAdd (dBin dMul (dBin dMod (dCall dInt (dCons (dVar 2) dNil)) (dC (.int 2305843009213693951))) (dC (.int 69389))) (dBin dMul (dBin dMul (dC (.int 7561)) (dVar 1)) (dVar 1))) (dC (.int 83))) dNil)) (dC (.int 2305843009213693921))) (dCons (dC (.int 0)) dNil)))))))
/-- _law_pots: slots 0 _law_script, 1 _law_most, 2 _law_k -/
def t__law_pots : DTS := (dRet (dLc (dRng1 (dCons (dCall dMax2 (dCons (dC (.int 1)) (dCons (dCall dMin2 (dCons (dCall dInt (dCons (dVar 1) dNil)) (dCons (dCall dLen (dCons (dVar 0) dNil)) dNil))) dNil))) dNil)) (.nm 2) dYes (dFn sp__law_pot (dCons (dVar 0) (dCons (dVar 2) dNil))) [2]))
/-- _law_take: slots 0 _law_pot_here, 1 _law_upto, 2 _law_digit, 3 _law_prime, 4 _law_stirred -/
def t__law_take : DTS := (dSeq (dIf (dTest (dBin dGt (dBin dIx (dVar 0) (dC (.int 0))) (dC (.int 0)))) (dSeq (dSet 2 (dBin dMod (dCall dInt (dCons (dBin dIx (dVar 0) (dC (.int 0))) dNil)) (dVar 1))) (dSeq (dPutIx (dVar 0) (dC (.int 0)) (dBin dFdiv (dBin dIx (dVar 0) (dC (.int 0))) (dVar 1))) (dRet (dVar 2)))) dNext) (dSeq (dPutIx (dVar 0) (dC (.int 2)) (dBin dAdd (dBin dIx (dVar 0) (dC (.int 2))) (dC (.int 1)))) (dSeq (dSet 3 (dBin dIx (dLst (dCons (dC (.int 2147483647)) (dCons (dC (.int 2147483629)) (dCons (dC (.int 2147483587)) (dCons (dC (.int 2147483579)) (dCons (dC (.int 2147483563)) dNil)))))) (dBin dMod (dCall dInt (dCons (dBin dIx (dVar 0) (dC (.int 2))) dNil)) (dC (.int 5))))) (dSeq (dSet 4 (dBin dMod (dCall dInt (dCons (dBin dPow (dCall dInt (dCons (dBin dAdd (dBin dAdd (dBin dIx (dVar 0) (dC (.int 1))) (dBin dMul (dBin dMul (dC (.int 99989)) (dBin dIx (dVar 0) (dC (.int 2)))) (dBin dIx (dVar 0) (dC (.int 2))))) (dC (.int 71))) dNil)) (dC (.int 3))) dNil)) (dVar 3))) (dSeq (dSet 4 (dBin dMod (dCall dInt (dCons (dBin dMul (dVar 4) (dBin dAdd (dBin dMod (dCall dInt (dCons (dVar 4) dNil)) (dC (.int 10007))) (dBin dMul (dC (.int 83)) (dBin dIx (dVar 0) (dC (.int 2)))))) dNil)) (dC (.int 2305843009213693907)))) (dRet (dBin dMod (dCall dInt (dCons (dBin dFdiv (dVar 4) (dC (.int 103))) dNil)) (dVar 1))))))))
/-- _law_of: slots 0 _law_pot_here, 1 _law_some -/
def t__law_of : DTS := (dRet (dBin dIx (dVar 1) (dFn sp__law_take (dCons (dVar 0) (dCons (dCall dLen (dCons (dVar 1) dNil)) dNil)))))
/-- _law_names: slots 0 _law_pot_here, 1 _law_many, 2 _law_small, 3 _law_stem, 4 _law_spot, 5 _law_at, 6 _law_found, 7 _law_turn, 8 _law_k -/
def t__law_names : DTS := (dSeq (dSet 2 (dC (.str "abcdefghijklmnopqrstuvwxyz"))) (dSeq (dSet 3 (dBM "str" dJoin (dC (.str "")) (dCons (dLc (dRng1 (dCons (dFn sp__law_of (dCons (dVar 0) (dCons (dLst (dCons (dC (.int 0)) (dCons (dC (.int 0)) (dCons (dC (.int 1)) (dCons (dC (.int 2)) (dCons (dC (.int 3)) (dCons (dC (.int 4)) (dCons (dC (.int 5)) (dCons (dC (.int 6)) (dCons (dC (.int 7)) dNil)))))))))) dNil))) dNil)) (.nm 7) dYes (dFn sp__law_of (dCons (dVar 0) (dCons (dVar 2) dNil))) [7]) dNil))) (dSeq (dAsg (dTup (dCons (dFn sp__law_take (dCons (dVar 0) (dCons (dBin dAdd (dCall dLen (dCons (dVar 3) dNil)) (dC (.int 1))) dNil))) (dCons (dFn sp__law_take (dCons (dVar 0) (dCons (dC (.int 26)) dNil))) dNil))) (.tp [.nm 4, .nm 5])) (dSeq (dSet 6 (dLc (dRng1 (dCons (dVar 1) dNil)) (.nm 8) dYes (dBin dAdd (dBin dAdd (dSl (dVar 3) dNoPart (dPart (dVar 4))) (dBin dIx (dVar 2) (dBin dMod (dCall dInt (dCons (dBin dAdd (dVar 5) (dBin dMul (dC (.int 5)) (dVar 8))) dNil)) (dC (.int 26))))) (dSl (dVar 3) (dPart (dVar 4)) dNoPart)) [8])) (dRet (dSS (dVar 6)))))))
/-- _law_turned: slots 0 _law_pot_here, 1 _law_some, 2 _law_at, 3 _law_row -/
def t__law_turned : DTS := (dSeq (dSet 2 (dFn sp__law_take (dCons (dVar 0) (dCons (dCall dLen (dCons (dVar 1) dNil)) dNil)))) (dSeq (dSet 3 (dBin dAdd (dSl (dVar 1) (dPart (dVar 2)) dNoPart) (dSl (dVar 1) dNoPart (dPart (dVar 2))))) (dRet (dIfE (dTest (dBin dEq (dFn sp__law_take (dCons (dVar 0) (dCons (dC (.int 2)) dNil))) (dC (.int 1)))) (dRev (dVar 3)) (dVar 3)))))
/-- _law_pairs: slots 0 _law_pot_here, 1 _law_routers, 2 _law_many, 3 _law_order, 4 _law_found, 5 _law_is_joined, 6 _law_at, 7 _law_other, 8 _law_rest, 9 _law_a, 10 _law_b -/
def t__law_pairs : DTS := (dSeq (dAsg (dTup (dCons (dFn sp__law_turned (dCons (dVar 0) (dCons (dCall dListOf (dCons (dVar 1) dNil)) dNil))) (dCons (dLstM dNil) dNil))) (.tp [.nm 3, .nm 4])) (dSeq (dSet 5 (dBin dGt (dFn sp__law_take (dCons (dVar 0) (dCons (dC (.int 8)) dNil))) (dC (.int 0)))) (dSeq (dFor (dRng2 (dCons (dC (.int 1)) (dCons (dCall dLen (dCons (dVar 3) dNil)) dNil))) (.nm 6) (dIf (dOr (dTru (dVar 5)) (dTest (dBin dEq (dFn sp__law_take (dCons (dVar 0) (dCons (dC (.int 2)) dNil))) (dC (.int 1))))) (dSeq (dSet 7 (dBin dIx (dVar 3) (dBin dSub (dBin dSub (dVar 6) (dC (.int 1))) (dFn sp__law_take (dCons (dVar 0) (dCons (dCall dMin2 (dCons (dVar 6) (dCons (dC (.int 2)) dNil))) dNil)))))) (dExpr (dBM "list" dAppend (dVar 4) (dCons (dIfE (dTest (dBin dLt (dBin dIx (dVar 3) (dVar 6)) (dVar 7))) (dTup (dCons (dBin dIx (dVar 3) (dVar 6)) (dCons (dVar 7) dNil))) (dTup (dCons (dVar 7) (dCons (dBin dIx (dVar 3) (dVar 6)) dNil)))) dNil)))) dNext)) (dSeq (dSet 8 (dLstM dNil)) (dSeq (dFor (dEnum (dCons (dVar 1) dNil)) (.tp [.nm 6, .nm 9]) (dExpr (dBM "list" dExtend (dVar 8) (dCons (dLc (dSeqI (dSl (dVar 1) (dPart (dBin dAdd (dVar 6) (dC (.int 1)))) dNoPart)) (.nm 10) (dTest (dBin dNotIn (dTup (dCons (dVar 9) (dCons (dVar 10) dNil))) (dVar 4))) (dTup (dCons (dVar 9) (dCons (dVar 10) dNil))) [10]) dNil)))) (dRet (dFrz (dIfE (dTest (dBin dNe (dVar 8) (dLst dNil))) (dBin dAdd (dVar 4) (dSl (dFn sp__law_turned (dCons (dVar 0) (dCons (dVar 8) dNil))) dNoPart (dPart (dCall dMax2 (dCons (dC (.int 0)) (dCons (dBin dSub (dCall dInt (dCons (dVar 2) dNil)) (dCall dLen (dCons (dVar 4) dNil))) dNil)))))) (dVar 4)))))))))
/-- _law_far: slots 0 _law_pot_here -/
def t__law_far : DTS := (dRet (dFn sp__law_of (dCons (dVar 0) (dCons (dLst (dCons (dC (.int 1)) (dCons (dC (.int 1)) (dCons (dC (.int 2)) (dCons (dC (.int 2)) (dCons (dC (.int 3)) (dCons (dC (.int 1)) (dCons (dC (.int 4)) (dCons (dC (.int 2)) (dCons (dC (.int 5)) (dCons (dC (.int 3)) (dCons (dBin dAdd (dC (.int 1)) (dFn sp__law_take (dCons (dVar 0) (dCons (dC (.int 12)) dNil)))) (dCons (dBin dAdd (dC (.int 1)) (dFn sp__law_take (dCons (dVar 0) (dCons (dC (.int 90)) dNil)))) dNil))))))))))))) dNil))))
/-- _law_world: slots 0 _law_pot_here, 1 _law_least, 2 _law_most, 3 _law_more, 4 _law_many, 5 _law_routers, 6 _law_pairs_here, 7 _law_links, 8 _law_is_even, 9 _law_a, 10 _law_b, 11 _law_there -/
def t__law_world : DTS := (dSeq (dSet 4 (dBin dAdd (dVar 1) (dFn sp__law_take (dCons (dVar 0) (dCons (dBin dAdd (dBin dSub (dVar 2) (dVar 1)) (dC (.int 1))) dNil))))) (dSeq (dSet 5 (dCall dTupOf (dCons (dFn sp__law_names (dCons (dVar 0) (dCons (dVar 4) dNil))) dNil))) (dSeq (dSet 6 (dFn sp__law_pairs (dCons (dVar 0) (dCons (dVar 5) (dCons (dCall dMin2 (dCons (dC (.int 16)) (dCons (dBin dAdd (dBin dSub (dVar 4) (dC (.int 1))) (dFn sp__law_take (dCons (dVar 0) (dCons (dBin dAdd (dVar 3) (dC (.int 1))) dNil)))) dNil))) dNil))))) (dSeq (dPar 7 8 (dCons (dLstM dNil) (dCons (dBin dEq (dFn sp__law_take (dCons (dVar 0) (dCons (dC (.int 2)) dNil))) (dC (.int 0))) dNil))) (dSeq (dFor (dSeqI (dVar 6)) (.tp [.nm 9, .nm 10]) (dSeq (dSet 11 (dFn sp__law_far (dCons (dVar 0) dNil))) (dExpr (dBM "list" dAppend (dVar 7) (dCons (dTup (dCons (dVar 9) (dCons (dVar 10) (dCons (dVar 11) (dCons (dIfE (dTru (dVar 8)) (dVar 11) (dFn sp__law_far (dCons (dVar 0) dNil))) dNil))))) dNil))))) (dRet (dTup (dCons (dVar 5) (dCons (dCall dTupOf (dCons (dSS (dVar 7)) dNil)) dNil)))))))))
/-- is_tuple_to: slots 0 value, 1 most -/
def t_is_tuple_to : DTS := (dRet (dAndV (dCall dIsi (dCons (dVar 0) (dCons (dC (.ty "tuple")) dNil))) (dBin dLe (dCall dLen (dCons (dVar 0) dNil)) (dVar 1))))
/-- is_name: slots 0 value, 1 sign -/
def t_is_name : DTS := (dSeq (dIf (dOr (dNot (dTru (dCall dIsi (dCons (dVar 0) (dCons (dC (.ty "str")) dNil))))) (dNot (dTest (dChain dLe dLe (dC (.int 1)) (dCall dLen (dCons (dVar 0) dNil)) (dC (.int 8)))))) (dRet (dC (.bl false))) dNext) (dRet (dCall dAll (dCons (dLc (dSeqI (dVar 0)) (.nm 1) dYes (dBin dIn (dVar 1) (dC (.str "abcdefghijklmnopqrstuvwxyz"))) [1]) dNil))))
/-- are_ascending: slots 0 things, 1 one, 2 other -/
def t_are_ascending : DTS := (dRet (dCall dAll (dCons (dLc (dZip (dCons (dVar 0) (dCons (dSl (dVar 0) (dPart (dC (.int 1))) dNoPart) dNil))) (.tp [.nm 1, .nm 2]) dYes (dBin dLt (dVar 1) (dVar 2)) [1, 2]) dNil)))
/-- are_routers: slots 0 value, 1 name -/
def t_are_routers : DTS := (dSeq (dIf (dOr (dNot (dTru (dFn sp_is_tuple_to (dCons (dVar 0) (dCons (dC (.int 8)) dNil))))) (dTest (dBin dLt (dCall dLen (dCons (dVar 0) dNil)) (dC (.int 2))))) (dRet (dC (.bl false))) dNext) (dRet (dAndV (dCall dAll (dCons (dLc (dSeqI (dVar 0)) (.nm 1) dYes (dFn sp_is_name (dCons (dVar 1) dNil)) [1]) dNil)) (dFn sp_are_ascending (dCons (dVar 0) dNil)))))
/-- is_tuple_of: slots 0 value, 1 many -/
def t_is_tuple_of : DTS := (dRet (dAndV (dCall dIsi (dCons (dVar 0) (dCons (dC (.ty "tuple")) dNil))) (dBin dEq (dCall dLen (dCons (dVar 0) dNil)) (dVar 1))))
/-- is_one_of: slots 0 value, 1 some -/
def t_is_one_of : DTS := (dRet (dAndV (dCall dIsi (dCons (dVar 0) (dCons (dC (.ty "str")) dNil))) (dBin dIn (dVar 0) (dVar 1))))
/-- is_ascending_of: slots 0 value, 1 some, 2 item -/
def t_is_ascending_of : DTS := (dRet (dAndV (dCall dIsi (dCons (dVar 0) (dCons (dC (.ty "tuple")) dNil))) (dAndV (dCall dAll (dCons (dLc (dSeqI (dVar 0)) (.nm 2) dYes (dFn sp_is_one_of (dCons (dVar 2) (dCons (dVar 1) dNil))) [2]) dNil)) (dFn sp_are_ascending (dCons (dVar 0) dNil)))))
/-- is_integer: slots 0 value -/
def t_is_integer : DTS := (dRet (dAndV (dCall dIsi (dCons (dVar 0) (dCons (dC (.ty "int")) dNil))) (dNotV (dCall dIsi (dCons (dVar 0) (dCons (dC (.ty "bool")) dNil))))))
/-- is_from: slots 0 value, 1 least -/
def t_is_from : DTS := (dRet (dAndV (dFn sp_is_integer (dCons (dVar 0) dNil)) (dBin dGe (dVar 0) (dVar 1))))
/-- is_link: slots 0 value, 1 routers -/
def t_is_link : DTS := (dSeq (dIf (dOr (dNot (dTru (dFn sp_is_tuple_of (dCons (dVar 0) (dCons (dC (.int 4)) dNil))))) (dNot (dTru (dFn sp_is_ascending_of (dCons (dSl (dVar 0) dNoPart (dPart (dC (.int 2)))) (dCons (dVar 1) dNil)))))) (dRet (dC (.bl false))) dNext) (dRet (dAndV (dFn sp_is_from (dCons (dBin dIx (dVar 0) (dC (.int 2))) (dCons (dC (.int 1)) dNil))) (dFn sp_is_from (dCons (dBin dIx (dVar 0) (dC (.int 3))) (dCons (dC (.int 1)) dNil))))))
/-- are_links: slots 0 value, 1 routers, 2 link -/
def t_are_links : DTS := (dSeq (dIf (dOr (dNot (dTru (dFn sp_is_tuple_to (dCons (dVar 0) (dCons (dC (.int 16)) dNil))))) (dNot (dTru (dCall dAll (dCons (dLc (dSeqI (dVar 0)) (.nm 2) dYes (dFn sp_is_link (dCons (dVar 2) (dCons (dVar 1) dNil))) [2]) dNil))))) (dRet (dC (.bl false))) dNext) (dRet (dFn sp_are_ascending (dCons (dLc (dSeqI (dVar 0)) (.nm 2) dYes (dSl (dVar 2) dNoPart (dPart (dC (.int 2)))) [2]) dNil))))
/-- Net.__init__: slots 0 self, 1 routers, 2 links -/
def t_Net___init__ (C_Net : Addr) : DTS := (dSeq (dIf (dOr (dNot (dTru (dFn sp_are_routers (dCons (dVar 1) dNil)))) (dNot (dTru (dFn sp_are_links (dCons (dVar 2) (dCons (dVar 1) dNil)))))) dNever dNext) (dSeq (dPutF C_Net "own_routers" (dVar 0) (dVar 1)) (dPutF C_Net "own_links" (dVar 0) (dVar 2))))
/-- _law_made: slots 0 _law_world_here -/
def t__law_made (C_Net : Addr) : DTS := (dRet (dMk C_Net (sp_Net___init__ C_Net) (dCons (dBin dIx (dVar 0) (dC (.int 0))) (dCons (dBin dIx (dVar 0) (dC (.int 1))) dNil))))
/-- _law_net_page: slots 0 _law_world_here, 1 _law_rows, 2 _law_a, 3 _law_b, 4 _law_there, 5 _law_back -/
def t__law_net_page : DTS := (dSeq (dSet 1 (dLstM (dCons (dBin dAdd (dC (.str "routers ")) (dBM "str" dJoin (dC (.str " ")) (dCons (dBin dIx (dVar 0) (dC (.int 0))) dNil))) dNil))) (dSeq (dExpr (dBM "list" dExtend (dVar 1) (dCons (dLc (dSeqI (dBin dIx (dVar 0) (dC (.int 1)))) (.tp [.nm 2, .nm 3, .nm 4, .nm 5]) dYes (dBin dAdd (dBin dAdd (dBin dAdd (dBin dAdd (dBin dAdd (dBin dAdd (dBin dAdd (dC (.str "link ")) (dVar 2)) (dC (.str " "))) (dVar 3)) (dC (.str " "))) (dCall dStrOf (dCons (dVar 4) dNil))) (dC (.str " "))) (dCall dStrOf (dCons (dVar 5) dNil))) [2, 3, 4, 5]) dNil))) (dRet (dBM "str" dJoin (dC (.str "\n")) (dCons (dVar 1) dNil)))))
/-- Net.routers: slots 0 self -/
def t_Net_routers (C_Net : Addr) : DTS := (dRet (dFld C_Net "own_routers" (dVar 0)))
/-- Net.links: slots 0 self -/
def t_Net_links (C_Net : Addr) : DTS := (dRet (dFld C_Net "own_links" (dVar 0)))
/-- show_net: slots 0 net, 1 rows, 2 a, 3 b, 4 there, 5 back -/
def t_show_net (C_Net : Addr) : DTS := (dSeq (dSet 1 (dLstM (dCons (dBM "str" dJoin (dC (.str " ")) (dCons (dLst (dCons (dC (.str "routers")) (dStar (dProp C_Net (sp_Net_routers C_Net) (dVar 0)) dNil))) dNil)) dNil))) (dSeq (dExpr (dBM "list" dExtend (dVar 1) (dCons (dLc (dSeqI (dProp C_Net (sp_Net_links C_Net) (dVar 0))) (.tp [.nm 2, .nm 3, .nm 4, .nm 5]) dYes (dJoined [(dFmt (dC (.str "link"))), (dC (.str " ")), (dFmt (dVar 2)), (dC (.str " ")), (dFmt (dVar 3)), (dC (.str " ")), (dFmt (dVar 4)), (dC (.str " ")), (dFmt (dVar 5))]) [2, 3, 4, 5]) dNil))) (dRet (dBM "str" dJoin (dC (.str "\n")) (dCons (dVar 1) dNil)))))
/-- rows_of: slots 0 text -/
def t_rows_of : DTS := (dSeq (dIf (dNot (dTru (dCall dIsi (dCons (dVar 0) (dCons (dC (.ty "str")) dNil))))) dNever dNext) (dRet (dBM "str" dSplit (dVar 0) (dCons (dC (.str "\n")) dNil))))
/-- integer_in: slots 0 word, 1 sign -/
def t_integer_in : DTS := (dSeq (dIf (dOr (dNot (dTest (dChain dLe dLe (dC (.int 1)) (dCall dLen (dCons (dVar 0) dNil)) (dC (.int 9))))) (dNot (dTru (dCall dAll (dCons (dLc (dSeqI (dVar 0)) (.nm 1) dYes (dBin dIn (dVar 1) (dC (.str "0123456789"))) [1]) dNil))))) (dRet (dC .non)) dNext) (dSeq (dIf (dAnd (dTest (dBin dEq (dBin dIx (dVar 0) (dC (.int 0))) (dC (.str "0")))) (dTest (dBin dGt (dCall dLen (dCons (dVar 0) dNil)) (dC (.int 1))))) (dRet (dC .non)) dNext) (dRet (dCall dIntS (dCons (dVar 0) dNil)))))
/-- link_of_row: slots 0 row, 1 words, 2 there, 3 back -/
def t_link_of_row : DTS := (dSeq (dSet 1 (dBM "str" dSplit (dVar 0) (dCons (dC (.str " ")) dNil))) (dSeq (dIf (dOr (dTest (dBin dNe (dCall dLen (dCons (dVar 1) dNil)) (dC (.int 5)))) (dOr (dTest (dBin dNe (dBin dIx (dVar 1) (dC (.int 0))) (dC (.str "link")))) (dOr (dNot (dTru (dFn sp_is_name (dCons (dBin dIx (dVar 1) (dC (.int 1))) dNil)))) (dNot (dTru (dFn sp_is_name (dCons (dBin dIx (dVar 1) (dC (.int 2))) dNil))))))) (dRet (dC .non)) dNext) (dSeq (dPar 2 3 (dCons (dFn sp_integer_in (dCons (dBin dIx (dVar 1) (dC (.int 3))) dNil)) (dCons (dFn sp_integer_in (dCons (dBin dIx (dVar 1) (dC (.int 4))) dNil)) dNil))) (dRet (dIfE (dOr (dTest (dBin dIsN (dVar 2) (dC .non))) (dTest (dBin dIsN (dVar 3) (dC .non)))) (dC .non) (dTup (dCons (dBin dIx (dVar 1) (dC (.int 1))) (dCons (dBin dIx (dVar 1) (dC (.int 2))) (dCons (dVar 2) (dCons (dVar 3) dNil))))))))))
/-- net_rows: slots 0 rows, 1 words, 2 links, 3 many, 4 word, 5 row -/
def t_net_rows : DTS := (dSeq (dSet 1 (dBM "str" dSplit (dBin dIx (dVar 0) (dC (.int 0))) (dCons (dC (.str " ")) dNil))) (dSeq (dIf (dOr (dTest (dBin dNe (dBin dIx (dVar 1) (dC (.int 0))) (dC (.str "routers")))) (dNot (dTru (dCall dAll (dCons (dLc (dSeqI (dSl (dVar 1) (dPart (dC (.int 1))) dNoPart)) (.nm 4) dYes (dFn sp_is_name (dCons (dVar 4) dNil)) [4]) dNil))))) dNever dNext) (dSeq (dSet 2 (dLc (dSeqI (dSl (dVar 0) (dPart (dC (.int 1))) dNoPart)) (.nm 5) dYes (dFn sp_link_of_row (dCons (dVar 5) dNil)) [5])) (dSeq (dSet 3 (dIfE (dTest (dBin dIn (dC .non) (dVar 2))) (dBM "list" dIdx (dVar 2) (dCons (dC .non) dNil)) (dCall dLen (dCons (dVar 2) dNil)))) (dRet (dTup (dCons (dTup (dCons (dCall dTupOf (dCons (dSl (dVar 1) (dPart (dC (.int 1))) dNoPart) dNil)) (dCons (dCall dTupOf (dCons (dSl (dVar 2) dNoPart (dPart (dVar 3))) dNil)) dNil))) (dCons (dBin dAdd (dC (.int 1)) (dVar 3)) dNil))))))))
/-- read_net: slots 0 text, 1 rows, 2 routers, 3 links, 4 many -/
def t_read_net (C_Net : Addr) : DTS := (dSeq (dSet 1 (dFn sp_rows_of (dCons (dVar 0) dNil))) (dSeq (dAsg (dFn sp_net_rows (dCons (dVar 1) dNil)) (.tp [.tp [.nm 2, .nm 3], .nm 4])) (dSeq (dIf (dTest (dBin dLt (dVar 4) (dCall dLen (dCons (dVar 1) dNil)))) dNever dNext) (dRet (dMk C_Net (sp_Net___init__ C_Net) (dCons (dVar 2) (dCons (dVar 3) dNil)))))))
/-- Net.__eq__: slots 0 self, 1 other -/
def t_Net___eq__ (C_Net : Addr) : DTS := (dSeq (dIf (dNot (dTru (dCall (dIsiC C_Net) (dCons (dVar 1) (dCons (dC (.ref C_Net)) dNil))))) (dRet (dC (.bl false))) dNext) (dRet (dAndV (dBin dEq (dFld C_Net "own_routers" (dVar 0)) (dFld C_Net "own_routers" (dVar 1))) (dBin dEq (dFld C_Net "own_links" (dVar 0)) (dFld C_Net "own_links" (dVar 1))))))
/-- _law_fine: slots 0 _law_pot_here, 1 _law_world_here, 2 _law_far_here, 3 _law_net, 4 _law_page, 5 _law_read, 6 _law_a, 7 _law_b, 8 _law_there, 9 _law_back -/
def t__law_fine (C_Net : Addr) : DTS := (dSeq (dSet 1 (dFn sp__law_world (dCons (dVar 0) (dCons (dC (.int 2)) (dCons (dC (.int 8)) (dCons (dC (.int 9)) dNil)))))) (dSeq (dIf (dTest (dBin dEq (dFn sp__law_take (dCons (dVar 0) (dCons (dC (.int 3)) dNil))) (dC (.int 0)))) (dSeq (dSet 2 (dLst (dCons (dC (.int 1)) (dCons (dC (.int 9)) (dCons (dC (.int 10)) (dCons (dC (.int 999999999)) (dCons (dBin dPow (dC (.int 10)) (dC (.int 8))) (dCons (dBin dAdd (dC (.int 1)) (dFn sp__law_take (dCons (dVar 0) (dCons (dBin dSub (dBin dPow (dC (.int 10)) (dC (.int 9))) (dC (.int 1))) dNil)))) dNil)))))))) (dSet 1 (dTup (dCons (dBin dIx (dVar 1) (dC (.int 0))) (dCons (dCall dTupOf (dCons (dLc (dSeqI (dBin dIx (dVar 1) (dC (.int 1)))) (.tp [.nm 6, .nm 7, .nm 8, .nm 9]) dYes (dTup (dCons (dVar 6) (dCons (dVar 7) (dCons (dFn sp__law_of (dCons (dVar 0) (dCons (dVar 2) dNil))) (dCons (dFn sp__law_of (dCons (dVar 0) (dCons (dVar 2) dNil))) dNil))))) [6, 7, 8, 9]) dNil)) dNil))))) dNext) (dSeq (dPar 3 4 (dCons (dFn (sp__law_made C_Net) (dCons (dVar 1) dNil)) (dCons (dFn sp__law_net_page (dCons (dVar 1) dNil)) dNil))) (dSeq (dIf (dOr (dTest (dBin dNe (dFn (sp_show_net C_Net) (dCons (dVar 3) dNil)) (dVar 4))) (dNot (dTru (dCall dIsi (dCons (dFn (sp_show_net C_Net) (dCons (dVar 3) dNil)) (dCons (dC (.ty "str")) dNil)))))) (dRet (dC (.bl false))) dNext) (dSeq (dSet 5 (dFn (sp_read_net C_Net) (dCons (dVar 4) dNil))) (dRet (dAndV (dBin (dEqC C_Net (sp_Net___eq__ C_Net)) (dVar 5) (dVar 3)) (dAndV (dCall (dIsiC C_Net) (dCons (dVar 5) (dCons (dC (.ref C_Net)) dNil))) (dBin dEq (dCall dRepr (dCons (dTup (dCons (dProp C_Net (sp_Net_routers C_Net) (dVar 5)) (dCons (dProp C_Net (sp_Net_links C_Net) (dVar 5)) dNil))) dNil)) (dCall dRepr (dCons (dVar 1) dNil)))))))))))
/-- law: slots 0 _law_script, 1 _law_pot_here, 2 _law_turn -/
def t_law : DTS := (dSeq (dFor (dSeqI (dFn sp__law_pots (dCons (dVar 0) (dCons (dC (.int 3)) dNil)))) (.nm 1) (dIf (dNot (dTru (dCall dAll (dCons (dLc (dRng1 (dCons (dC (.int 3)) dNil)) (.nm 2) dYes (dFn sp__law_fine (dCons (dVar 1) dNil)) [2]) dNil)))) (dRet (dC (.bl false))) dNext)) (dRet (dC (.bl true))))
end DL
end
section
set_option maxHeartbeats 4000000
/-! The derivations of the defs. Printed by gen.py. -/
namespace DL
open PySem PySem.Spec L2 PyProof.Rows
section
variable {P : Program} {w : World} {K : PySem.W.Frag} {mg : Str → Option Value} {base : Heap} {cd : Value} {A : Around} {out : List Env} {s : Shared} {H : Hp} {E : XK} {f : Addr}
theorem d__law_pot (B : Blt mg)  (hr : Room 0 (A.deeper (envOfC "_law_pot" (defScope s__law_pot) s.heap.objs.size f cd))) :
    DSs (bX P w K mg base N__law_pot "_law_pot" s__law_pot f cd A out s H E) (defBody s__law_pot) (t__law_pot) :=
  (dss_cons (ds_set (i := 2) sc__law_pot.nd rfl (Or.inl rfl) (de_if (dt_cmp (od_lt hr.units) (dv 1) (de_callB cd_len rfl B.len_ bt_len (da_cons (dv 0) da_nil)) (nomark _)) (de_ix hr.units (dv 0) (dv 1) (fun _ _ => rfl)) (de_op od_add (de_op od_mul de_int (dv 1)) de_int)))
  (dss_cons (ds_set (i := 3) sc__law_pot.nd rfl (Or.inl rfl) (de_op od_mul (de_op od_mod (de_callTy cd_int rfl B.int_ bt_int (da_cons (de_callB cd_abs rfl B.abs_ bt_abs (da_cons (dv 2) da_nil)) da_nil)) (de_op od_pow (de_op od_pow de_int de_int) de_int)) (de_callTy cd_int rfl B.int_ bt_int (da_cons (de_cmp (od_ge hr.units) (de_callB cd_abs rfl B.abs_ bt_abs (da_cons (dv 2) da_nil)) (de_op od_pow de_int de_int) (nomark _)) da_nil))))
  (dss_one (ds_ret (de_lstM (da_cons (dv 3) (da_cons (de_op od_mod (de_callTy cd_int rfl B.int_ bt_int (da_cons (de_op od_add (de_op od_add (de_op od_mul (de_op od_mod (de_callTy cd_int rfl B.int_ bt_int (da_cons (dv 2) da_nil)) de_int) de_int) (de_op od_mul (de_op od_mul de_int (dv 1)) (dv 1))) de_int) da_nil)) de_int) (da_cons de_int da_nil))))))))
theorem d__law_pots (B : Blt mg) (F__law_pot : Fn P w K mg base "_law_pot" 1 ps__law_pot sp__law_pot) (hr : Room 1 (A.deeper (envOfC "_law_pots" (defScope s__law_pots) s.heap.objs.size f cd))) :
    DSs (bX P w K mg base N__law_pots "_law_pots" s__law_pots f cd A out s H E) (defBody s__law_pots) (t__law_pots) :=
  (dss_one (ds_ret (de_lc (own := [("_law_k", 2)]) (t := .nm 2) rfl sc__law_pots.nd (di_range1 rfl B.range_ (da_cons (de_callB (cd_max2 rfl) rfl B.max_ bt_max (da_cons de_int (da_cons (de_callB (cd_min2 rfl) rfl B.min_ bt_min (da_cons (de_callTy cd_int rfl B.int_ bt_int (da_cons (dv 1) da_nil)) (da_cons (de_callB cd_len rfl B.len_ bt_len (da_cons (dv 0) da_nil)) da_nil))) da_nil))) da_nil)) (blkOk_by (N := N__law_pots) (sc := defScope s__law_pots) (by decide +kernel)) (by simp [slotsT, slotsTs]) (fun _ _ _ _ _ => (pg_nm (i := 2) sc__law_pots.nd rfl (Or.inl rfl))) (fun _ _ _ _ _ => dts_nil) (fun _ _ _ _ _ => (de_call F__law_pot (hr.mono (by decide)) rfl (da_cons (dv 0) (da_cons (dv 2) da_nil)))))))
theorem d__law_take (B : Blt mg)  (hr : Room 0 (A.deeper (envOfC "_law_take" (defScope s__law_take) s.heap.objs.size f cd))) :
    DSs (bX P w K mg base N__law_take "_law_take" s__law_take f cd A out s H E) (defBody s__law_take) (t__law_take) :=
  (dss_cons (ds_if (dt_cmp (od_gt hr.units) (de_ix hr.units (dv 0) de_int (fun _ _ => rfl)) de_int (nomark _)) (dss_cons (ds_set (i := 2) sc__law_take.nd rfl (Or.inl rfl) (de_op od_mod (de_callTy cd_int rfl B.int_ bt_int (da_cons (de_ix hr.units (dv 0) de_int (fun _ _ => rfl)) da_nil)) (dv 1)))
  (dss_cons (ds_putIx (de_op od_fdiv (de_ix hr.units (dv 0) de_int (fun _ _ => rfl)) (dv 1)) (dv 0) de_int)
  (dss_one (ds_ret (dv 2))))) dss_nil)
  (dss_cons (ds_putIx (de_op od_add (de_ix hr.units (dv 0) de_int (fun _ _ => rfl)) de_int) (dv 0) de_int)
  (dss_cons (ds_set (i := 3) sc__law_take.nd rfl (Or.inl rfl) (de_ix hr.units (de_lst (da_cons de_int (da_cons de_int (da_cons de_int (da_cons de_int (da_cons de_int da_nil)))))) (de_op od_mod (de_callTy cd_int rfl B.int_ bt_int (da_cons (de_ix hr.units (dv 0) de_int (fun _ _ => rfl)) da_nil)) de_int) (fun _ _ => rfl)))
  (dss_cons (ds_set (i := 4) sc__law_take.nd rfl (Or.inl rfl) (de_op od_mod (de_callTy cd_int rfl B.int_ bt_int (da_cons (de_op od_pow (de_callTy cd_int rfl B.int_ bt_int (da_cons (de_op od_add (de_op od_add (de_ix hr.units (dv 0) de_int (fun _ _ => rfl)) (de_op od_mul (de_op od_mul de_int (de_ix hr.units (dv 0) de_int (fun _ _ => rfl))) (de_ix hr.units (dv 0) de_int (fun _ _ => rfl)))) de_int) da_nil)) de_int) da_nil)) (dv 3)))
  (dss_cons (ds_set (i := 4) sc__law_take.nd rfl (Or.inl rfl) (de_op od_mod (de_callTy cd_int rfl B.int_ bt_int (da_cons (de_op od_mul (dv 4) (de_op od_add (de_op od_mod (de_callTy cd_int rfl B.int_ bt_int (da_cons (dv 4) da_nil)) de_int) (de_op od_mul de_int (de_ix hr.units (dv 0) de_int (fun _ _ => rfl))))) da_nil)) de_int))
  (dss_one (ds_ret (de_op od_mod (de_callTy cd_int rfl B.int_ bt_int (da_cons (de_op od_fdiv (dv 4) de_int) da_nil)) (dv 1)))))))))
theorem d__law_of (B : Blt mg) (F__law_take : Fn P w K mg base "_law_take" 1 ps__law_take sp__law_take) (hr : Room 1 (A.deeper (envOfC "_law_of" (defScope s__law_of) s.heap.objs.size f cd))) :
    DSs (bX P w K mg base N__law_of "_law_of" s__law_of f cd A out s H E) (defBody s__law_of) (t__law_of) :=
  (dss_one (ds_ret (de_ix hr.units (dv 1) (de_call F__law_take (hr.mono (by decide)) rfl (da_cons (dv 0) (da_cons (de_callB cd_len rfl B.len_ bt_len (da_cons (dv 1) da_nil)) da_nil))) (fun _ _ => rfl))))
theorem d__law_names (B : Blt mg) (F__law_of : Fn P w K mg base "_law_of" 2 ps__law_of sp__law_of) (F__law_take : Fn P w K mg base "_law_take" 1 ps__law_take sp__law_take) (hr : Room 2 (A.deeper (envOfC "_law_names" (defScope s__law_names) s.heap.objs.size f cd))) :
    DSs (bX P w K mg base N__law_names "_law_names" s__law_names f cd A out s H E) (defBody s__law_names) (t__law_names) :=
  (dss_cons (ds_set (i := 2) sc__law_names.nd rfl (Or.inr rfl) de_str)
  (dss_cons (ds_set (i := 3) sc__law_names.nd rfl (Or.inr rfl) (de_bm PySem.F.plainAttrs_str PySem.F.slot_str_join PySem.F.type_str_join md_join de_str (da_cons (de_lc (own := [("_law_turn", 7)]) (t := .nm 7) rfl sc__law_names.nd (di_range1 rfl B.range_ (da_cons (de_call F__law_of (hr.mono (by decide)) rfl (da_cons (dv 0) (da_cons (de_lst (da_cons de_int (da_cons de_int (da_cons de_int (da_cons de_int (da_cons de_int (da_cons de_int (da_cons de_int (da_cons de_int (da_cons de_int da_nil)))))))))) da_nil))) da_nil)) (blkOk_by (N := N__law_names) (sc := defScope s__law_names) (by decide +kernel)) (by simp [slotsT, slotsTs]) (fun _ _ _ _ _ => (pg_nm (i := 7) sc__law_names.nd rfl (Or.inl rfl))) (fun _ _ _ _ _ => dts_nil) (fun _ _ _ _ _ => (de_call F__law_of (hr.mono (by decide)) rfl (da_cons (dv 0) (da_cons (dv 2) da_nil))))) da_nil)))
  (dss_cons (ds_asg (t := .tp [.nm 4, .nm 5]) (de_tup (da_cons (de_call F__law_take (hr.mono (by decide)) rfl (da_cons (dv 0) (da_cons (de_op od_add (de_callB cd_len rfl B.len_ bt_len (da_cons (dv 3) da_nil)) de_int) da_nil))) (da_cons (de_call F__law_take (hr.mono (by decide)) rfl (da_cons (dv 0) (da_cons de_int da_nil))) da_nil))) (pg_tp rfl (pgsc (pg_nm (i := 4) sc__law_names.nd rfl (Or.inr rfl)) (pgs1 (pg_nm (i := 5) sc__law_names.nd rfl (Or.inr rfl))))))
  (dss_cons (ds_setLc (i := 6) (own := [("_law_k", 8)]) (t := .nm 8) rfl sc__law_names.nd rfl rfl (by rfl) (di_range1 rfl B.range_ (da_cons (dv 1) da_nil)) (blkOk_by (N := N__law_names) (sc := defScope s__law_names) (by decide +kernel)) (by simp [slotsT, slotsTs]) (fun _ _ _ _ _ => (pg_nm (i := 8) sc__law_names.nd rfl (Or.inl rfl))) (fun _ _ _ _ _ => dts_nil) (fun _ _ _ _ _ => (de_op od_add (de_op od_add (de_sl (dv 3) do_none (do_some (dv 4))) (de_ix hr.units (dv 2) (de_op od_mod (de_callTy cd_int rfl B.int_ bt_int (da_cons (de_op od_add (dv 5) (de_op od_mul de_int (dv 8))) da_nil)) de_int) (fun _ _ => rfl))) (de_sl (dv 3) (do_some (dv 4)) do_none))))
  (dss_one (ds_ret (de_sset rfl hr.units rfl B.sorted_ rfl B.set_ (dv 6))))))))
theorem d__law_turned (B : Blt mg) (F__law_take : Fn P w K mg base "_law_take" 1 ps__law_take sp__law_take) (hr : Room 1 (A.deeper (envOfC "_law_turned" (defScope s__law_turned) s.heap.objs.size f cd))) :
    DSs (bX P w K mg base N__law_turned "_law_turned" s__law_turned f cd A out s H E) (defBody s__law_turned) (t__law_turned) :=
  (dss_cons (ds_set (i := 2) sc__law_turned.nd rfl (Or.inl rfl) (de_call F__law_take (hr.mono (by decide)) rfl (da_cons (dv 0) (da_cons (de_callB cd_len rfl B.len_ bt_len (da_cons (dv 1) da_nil)) da_nil))))
  (dss_cons (ds_set (i := 3) sc__law_turned.nd rfl (Or.inl rfl) (de_op od_add (de_sl (dv 1) (do_some (dv 2)) do_none) (de_sl (dv 1) do_none (do_some (dv 2)))))
  (dss_one (ds_ret (de_if (dt_cmp (od_eq hr.units) (de_call F__law_take (hr.mono (by decide)) rfl (da_cons (dv 0) (da_cons de_int da_nil))) de_int (nomark _)) (de_rev (dv 3)) (dv 3))))))
theorem d__law_pairs (B : Blt mg) (F__law_turned : Fn P w K mg base "_law_turned" 2 ps__law_turned sp__law_turned) (F__law_take : Fn P w K mg base "_law_take" 1 ps__law_take sp__law_take) (hr : Room 2 (A.deeper (envOfC "_law_pairs" (defScope s__law_pairs) s.heap.objs.size f cd))) :
    DSs (bX P w K mg base N__law_pairs "_law_pairs" s__law_pairs f cd A out s H E) (defBody s__law_pairs) (t__law_pairs) :=
  (dss_cons (ds_asg (t := .tp [.nm 3, .nm 4]) (de_tup (da_cons (de_call F__law_turned (hr.mono (by decide)) rfl (da_cons (dv 0) (da_cons (de_callTy cd_list rfl B.list_ bt_list (da_cons (dv 1) da_nil)) da_nil))) (da_cons (de_lstM da_nil) da_nil))) (pg_tp rfl (pgsc (pg_nm (i := 3) sc__law_pairs.nd rfl (Or.inl rfl)) (pgs1 (pg_nm (i := 4) sc__law_pairs.nd rfl (Or.inr rfl))))))
  (dss_cons (ds_set (i := 5) sc__law_pairs.nd rfl (Or.inl rfl) (de_cmp (od_gt hr.units) (de_call F__law_take (hr.mono (by decide)) rfl (da_cons (dv 0) (da_cons de_int da_nil))) de_int (nomark _)))
  (dss_cons (ds_for (t := .nm 6) PassesOwn.never rfl (di_range2 rfl B.range_ (da_cons de_int (da_cons (de_callB cd_len rfl B.len_ bt_len (da_cons (dv 3) da_nil)) da_nil))) (pg_nm (i := 6) sc__law_pairs.nd rfl (Or.inl rfl)) (dss_one (ds_if (dt_w (dw_or (dt_tru (dv 5)) (dw_or1 (dt_cmp (od_eq hr.units) (de_call F__law_take (hr.mono (by decide)) rfl (da_cons (dv 0) (da_cons de_int da_nil))) de_int (nomark _))))) (dss_cons (ds_set (i := 7) sc__law_pairs.nd rfl (Or.inl rfl) (de_ix hr.units (dv 3) (de_op od_sub (de_op od_sub (dv 6) de_int) (de_call F__law_take (hr.mono (by decide)) rfl (da_cons (dv 0) (da_cons (de_callB (cd_min2 rfl) rfl B.min_ bt_min (da_cons (dv 6) (da_cons de_int da_nil))) da_nil)))) (fun _ _ => rfl)))
  (dss_one (ds_expr (de_bm PySem.F.plainAttrs_list PySem.F.slot_list_append PySem.F.type_list_append md_append (dv 4) (da_cons (de_if (dt_cmp (od_lt hr.units) (de_ix hr.units (dv 3) (dv 6) (fun _ _ => rfl)) (dv 7) (nomark _)) (de_tup (da_cons (de_ix hr.units (dv 3) (dv 6) (fun _ _ => rfl)) (da_cons (dv 7) da_nil))) (de_tup (da_cons (dv 7) (da_cons (de_ix hr.units (dv 3) (dv 6) (fun _ _ => rfl)) da_nil)))) da_nil))))) dss_nil)))
  (dss_cons (ds_set (i := 8) sc__law_pairs.nd rfl (Or.inl rfl) (de_lstM da_nil))
  (dss_cons (ds_for (t := .tp [.nm 6, .nm 9]) PassesOwn.never rfl (di_enum rfl B.enumerate_ (da_cons (dv 1) da_nil)) (pg_tp rfl (pgsc (pg_nm (i := 6) sc__law_pairs.nd rfl (Or.inl rfl)) (pgs1 (pg_nm (i := 9) sc__law_pairs.nd rfl (Or.inr rfl))))) (dss_one (ds_expr (de_bm PySem.F.plainAttrs_list PySem.F.slot_list_extend PySem.F.type_list_extend md_extend (dv 8) (da_cons (de_lc (own := [("_law_b", 10)]) (t := .nm 10) rfl sc__law_pairs.nd (di_seq (de_sl (dv 1) (do_some (de_op od_add (dv 6) de_int)) do_none)) (blkOk_by (N := N__law_pairs) (sc := defScope s__law_pairs) (by decide +kernel)) (by simp [slotsT, slotsTs]) (fun _ _ _ _ _ => (pg_nm (i := 10) sc__law_pairs.nd rfl (Or.inl rfl))) (fun _ _ _ _ _ => (dts_one (dt_cmp (od_notIn hr.units) (de_tup (da_cons (dv 9) (da_cons (dv 10) da_nil))) (dv 4) (by rfl)))) (fun _ _ _ _ _ => (de_tup (da_cons (dv 9) (da_cons (dv 10) da_nil))))) da_nil)))))
  (dss_one (ds_ret (de_frz (de_if (dt_cmp (od_ne hr.units) (dv 8) (de_lst da_nil) (nomark _)) (de_op od_add (dv 4) (de_sl (de_call F__law_turned (hr.mono (by decide)) rfl (da_cons (dv 0) (da_cons (dv 8) da_nil))) do_none (do_some (de_callB (cd_max2 rfl) rfl B.max_ bt_max (da_cons de_int (da_cons (de_op od_sub (de_callTy cd_int rfl B.int_ bt_int (da_cons (dv 2) da_nil)) (de_callB cd_len rfl B.len_ bt_len (da_cons (dv 4) da_nil))) da_nil)))))) (dv 4))))))))))
theorem d__law_far (B : Blt mg) (F__law_take : Fn P w K mg base "_law_take" 1 ps__law_take sp__law_take) (F__law_of : Fn P w K mg base "_law_of" 2 ps__law_of sp__law_of) (hr : Room 2 (A.deeper (envOfC "_law_far" (defScope s__law_far) s.heap.objs.size f cd))) :
    DSs (bX P w K mg base N__law_far "_law_far" s__law_far f cd A out s H E) (defBody s__law_far) (t__law_far) :=
  (dss_one (ds_ret (de_call F__law_of (hr.mono (by decide)) rfl (da_cons (dv 0) (da_cons (de_lst (da_cons de_int (da_cons de_int (da_cons de_int (da_cons de_int (da_cons de_int (da_cons de_int (da_cons de_int (da_cons de_int (da_cons de_int (da_cons de_int (da_cons (de_op od_add de_int (de_call F__law_take (hr.mono (by decide)) rfl (da_cons (dv 0) (da_cons de_int da_nil)))) (da_cons (de_op od_add de_int (de_call F__law_take (hr.mono (by decide)) rfl (da_cons (dv 0) (da_cons de_int da_nil)))) da_nil))))))))))))) da_nil)))))
theorem d__law_world (B : Blt mg) (F__law_take : Fn P w K mg base "_law_take" 1 ps__law_take sp__law_take) (F__law_names : Fn P w K mg base "_law_names" 3 ps__law_names sp__law_names) (F__law_pairs : Fn P w K mg base "_law_pairs" 3 ps__law_pairs sp__law_pairs) (F__law_far : Fn P w K mg base "_law_far" 3 ps__law_far sp__law_far) (hr : Room 3 (A.deeper (envOfC "_law_world" (defScope s__law_world) s.heap.objs.size f cd))) :
    DSs (bX P w K mg base N__law_world "_law_world" s__law_world f cd A out s H E) (defBody s__law_world) (t__law_world) :=
  (dss_cons (ds_set (i := 4) sc__law_world.nd rfl (Or.inl rfl) (de_op od_add (dv 1) (de_call F__law_take (hr.mono (by decide)) rfl (da_cons (dv 0) (da_cons (de_op od_add (de_op od_sub (dv 2) (dv 1)) de_int) da_nil)))))
  (dss_cons (ds_set (i := 5) sc__law_world.nd rfl (Or.inl rfl) (de_callTy cd_tuple rfl B.tuple_ bt_tuple (da_cons (de_call F__law_names (hr.mono (by decide)) rfl (da_cons (dv 0) (da_cons (dv 4) da_nil))) da_nil)))
  (dss_cons (ds_set (i := 6) sc__law_world.nd rfl (Or.inl rfl) (de_call F__law_pairs (hr.mono (by decide)) rfl (da_cons (dv 0) (da_cons (dv 5) (da_cons (de_callB (cd_min2 rfl) rfl B.min_ bt_min (da_cons de_int (da_cons (de_op od_add (de_op od_sub (dv 4) de_int) (de_call F__law_take (hr.mono (by decide)) rfl (da_cons (dv 0) (da_cons (de_op od_add (dv 3) de_int) da_nil)))) da_nil))) da_nil)))))
  (dss_cons (ds_par (i := 7) (j := 8) rfl sc__law_world.nd rfl rfl (by decide) rfl rfl (da_cons (de_lstM da_nil) (da_cons (de_cmp (od_eq hr.units) (de_call F__law_take (hr.mono (by decide)) rfl (da_cons (dv 0) (da_cons de_int da_nil))) de_int (nomark _)) da_nil)) (by rfl))
  (dss_cons (ds_for (t := .tp [.nm 9, .nm 10]) PassesOwn.never rfl (di_seq (dv 6)) (pg_tp rfl (pgsc (pg_nm (i := 9) sc__law_world.nd rfl (Or.inl rfl)) (pgs1 (pg_nm (i := 10) sc__law_world.nd rfl (Or.inl rfl))))) (dss_cons (ds_set (i := 11) sc__law_world.nd rfl (Or.inl rfl) (de_call F__law_far (hr.mono (by decide)) rfl (da_cons (dv 0) da_nil)))
  (dss_one (ds_expr (de_bm PySem.F.plainAttrs_list PySem.F.slot_list_append PySem.F.type_list_append md_append (dv 7) (da_cons (de_tup (da_cons (dv 9) (da_cons (dv 10) (da_cons (dv 11) (da_cons (de_if (dt_tru (dv 8)) (dv 11) (de_call F__law_far (hr.mono (by decide)) rfl (da_cons (dv 0) da_nil))) da_nil))))) da_nil))))))
  (dss_one (ds_ret (de_tup (da_cons (dv 5) (da_cons (de_callTy cd_tuple rfl B.tuple_ bt_tuple (da_cons (de_sset rfl hr.units rfl B.sorted_ rfl B.set_ (dv 7)) da_nil)) da_nil))))))))))
theorem d_is_tuple_to (B : Blt mg)  (hr : Room 0 (A.deeper (envOfC "is_tuple_to" (defScope s_is_tuple_to) s.heap.objs.size f cd))) :
    DSs (bX P w K mg base N_is_tuple_to "is_tuple_to" s_is_tuple_to f cd A out s H E) (defBody s_is_tuple_to) (t_is_tuple_to) :=
  (dss_one (ds_ret (de_and (de_callB cd_isi rfl B.isinstance_ bt_isinstance (da_cons (dv 0) (da_cons (de_ty rfl B.tuple_ bt_tuple) da_nil))) (de_one (de_cmp (od_le hr.units) (de_callB cd_len rfl B.len_ bt_len (da_cons (dv 0) da_nil)) (dv 1) (nomark _))))))
theorem d_is_name (B : Blt mg) (c_LONGEST_NAME : GCon mg "LONGEST_NAME" (.int (8))) (c_LETTERS : GCon mg "LETTERS" (.str "abcdefghijklmnopqrstuvwxyz")) (hr : Room 0 (A.deeper (envOfC "is_name" (defScope s_is_name) s.heap.objs.size f cd))) :
    DSs (bX P w K mg base N_is_name "is_name" s_is_name f cd A out s H E) (defBody s_is_name) (t_is_name) :=
  (dss_cons (ds_if (dt_w (dw_or (dt_not (dt_tru (de_callB cd_isi rfl B.isinstance_ bt_isinstance (da_cons (dv 0) (da_cons (de_ty rfl B.str_ bt_str) da_nil))))) (dw_or1 (dt_not (dt_chain (od_le hr.units) (od_le hr.units) de_int (de_callB cd_len rfl B.len_ bt_len (da_cons (dv 0) da_nil)) (de_gl rfl c_LONGEST_NAME (.int _))))))) (dss_one (ds_ret de_bl)) dss_nil)
  (dss_one (ds_ret (de_callB (cd_all rfl) rfl B.all_ bt_all (da_cons (de_lc (own := [("sign", 1)]) (t := .nm 1) rfl sc_is_name.nd (di_seq (dv 0)) (blkOk_by (N := N_is_name) (sc := defScope s_is_name) (by decide +kernel)) (by simp [slotsT, slotsTs]) (fun _ _ _ _ _ => (pg_nm (i := 1) sc_is_name.nd rfl (Or.inl rfl))) (fun _ _ _ _ _ => dts_nil) (fun _ _ _ _ _ => (de_cmp (od_in hr.units) (dv 1) (de_gl rfl c_LETTERS (.str _)) (by rfl)))) da_nil)))))
theorem d_are_ascending (B : Blt mg)  (hr : Room 0 (A.deeper (envOfC "are_ascending" (defScope s_are_ascending) s.heap.objs.size f cd))) :
    DSs (bX P w K mg base N_are_ascending "are_ascending" s_are_ascending f cd A out s H E) (defBody s_are_ascending) (t_are_ascending) :=
  (dss_one (ds_ret (de_callB (cd_all rfl) rfl B.all_ bt_all (da_cons (de_lc (own := [("one", 1), ("other", 2)]) (t := .tp [.nm 1, .nm 2]) rfl sc_are_ascending.nd (di_zip rfl B.zip_ (da_cons (dv 0) (da_cons (de_sl (dv 0) (do_some de_int) do_none) da_nil))) (blkOk_by (N := N_are_ascending) (sc := defScope s_are_ascending) (by decide +kernel)) (by simp [slotsT, slotsTs]) (fun _ _ _ _ _ => (pg_tp rfl (pgsc (pg_nm (i := 1) sc_are_ascending.nd rfl (Or.inl rfl)) (pgs1 (pg_nm (i := 2) sc_are_ascending.nd rfl (Or.inl rfl)))))) (fun _ _ _ _ _ => dts_nil) (fun _ _ _ _ _ => (de_cmp (od_lt hr.units) (dv 1) (dv 2) (nomark _)))) da_nil))))
theorem d_are_routers (B : Blt mg) (c_MOST_ROUTERS : GCon mg "MOST_ROUTERS" (.int (8))) (F_is_tuple_to : Fn P w K mg base "is_tuple_to" 1 ps_is_tuple_to sp_is_tuple_to) (c_FEWEST_ROUTERS : GCon mg "FEWEST_ROUTERS" (.int (2))) (F_is_name : Fn P w K mg base "is_name" 1 ps_is_name sp_is_name) (F_are_ascending : Fn P w K mg base "are_ascending" 1 ps_are_ascending sp_are_ascending) (hr : Room 1 (A.deeper (envOfC "are_routers" (defScope s_are_routers) s.heap.objs.size f cd))) :
    DSs (bX P w K mg base N_are_routers "are_routers" s_are_routers f cd A out s H E) (defBody s_are_routers) (t_are_routers) :=
  (dss_cons (ds_if (dt_w (dw_or (dt_not (dt_tru (de_call F_is_tuple_to (hr.mono (by decide)) rfl (da_cons (dv 0) (da_cons (de_gl rfl c_MOST_ROUTERS (.int _)) da_nil))))) (dw_or1 (dt_cmp (od_lt hr.units) (de_callB cd_len rfl B.len_ bt_len (da_cons (dv 0) da_nil)) (de_gl rfl c_FEWEST_ROUTERS (.int _)) (nomark _))))) (dss_one (ds_ret de_bl)) dss_nil)
  (dss_one (ds_ret (de_and (de_callB (cd_all rfl) rfl B.all_ bt_all (da_cons (de_lc (own := [("name", 1)]) (t := .nm 1) rfl sc_are_routers.nd (di_seq (dv 0)) (blkOk_by (N := N_are_routers) (sc := defScope s_are_routers) (by decide +kernel)) (by simp [slotsT, slotsTs]) (fun _ _ _ _ _ => (pg_nm (i := 1) sc_are_routers.nd rfl (Or.inl rfl))) (fun _ _ _ _ _ => dts_nil) (fun _ _ _ _ _ => (de_call F_is_name (hr.mono (by decide)) rfl (da_cons (dv 1) da_nil)))) da_nil)) (de_one (de_call F_are_ascending (hr.mono (by decide)) rfl (da_cons (dv 0) da_nil)))))))
theorem d_is_tuple_of (B : Blt mg)  (hr : Room 0 (A.deeper (envOfC "is_tuple_of" (defScope s_is_tuple_of) s.heap.objs.size f cd))) :
    DSs (bX P w K mg base N_is_tuple_of "is_tuple_of" s_is_tuple_of f cd A out s H E) (defBody s_is_tuple_of) (t_is_tuple_of) :=
  (dss_one (ds_ret (de_and (de_callB cd_isi rfl B.isinstance_ bt_isinstance (da_cons (dv 0) (da_cons (de_ty rfl B.tuple_ bt_tuple) da_nil))) (de_one (de_cmp (od_eq hr.units) (de_callB cd_len rfl B.len_ bt_len (da_cons (dv 0) da_nil)) (dv 1) (nomark _))))))
theorem d_is_one_of (B : Blt mg)  (hr : Room 0 (A.deeper (envOfC "is_one_of" (defScope s_is_one_of) s.heap.objs.size f cd))) :
    DSs (bX P w K mg base N_is_one_of "is_one_of" s_is_one_of f cd A out s H E) (defBody s_is_one_of) (t_is_one_of) :=
  (dss_one (ds_ret (de_and (de_callB cd_isi rfl B.isinstance_ bt_isinstance (da_cons (dv 0) (da_cons (de_ty rfl B.str_ bt_str) da_nil))) (de_one (de_cmp (od_in hr.units) (dv 0) (dv 1) (by rfl))))))
theorem d_is_ascending_of (B : Blt mg) (F_is_one_of : Fn P w K mg base "is_one_of" 1 ps_is_one_of sp_is_one_of) (F_are_ascending : Fn P w K mg base "are_ascending" 1 ps_are_ascending sp_are_ascending) (hr : Room 1 (A.deeper (envOfC "is_ascending_of" (defScope s_is_ascending_of) s.heap.objs.size f cd))) :
    DSs (bX P w K mg base N_is_ascending_of "is_ascending_of" s_is_ascending_of f cd A out s H E) (defBody s_is_ascending_of) (t_is_ascending_of) :=
  (dss_one (ds_ret (de_and (de_callB cd_isi rfl B.isinstance_ bt_isinstance (da_cons (dv 0) (da_cons (de_ty rfl B.tuple_ bt_tuple) da_nil))) (de_and (de_callB (cd_all rfl) rfl B.all_ bt_all (da_cons (de_lc (own := [("item", 2)]) (t := .nm 2) rfl sc_is_ascending_of.nd (di_seq (dv 0)) (blkOk_by (N := N_is_ascending_of) (sc := defScope s_is_ascending_of) (by decide +kernel)) (by simp [slotsT, slotsTs]) (fun _ _ _ _ _ => (pg_nm (i := 2) sc_is_ascending_of.nd rfl (Or.inl rfl))) (fun _ _ _ _ _ => dts_nil) (fun _ _ _ _ _ => (de_call F_is_one_of (hr.mono (by decide)) rfl (da_cons (dv 2) (da_cons (dv 1) da_nil))))) da_nil)) (de_one (de_call F_are_ascending (hr.mono (by decide)) rfl (da_cons (dv 0) da_nil)))))))
theorem d_is_integer (B : Blt mg)  (hr : Room 0 (A.deeper (envOfC "is_integer" (defScope s_is_integer) s.heap.objs.size f cd))) :
    DSs (bX P w K mg base N_is_integer "is_integer" s_is_integer f cd A out s H E) (defBody s_is_integer) (t_is_integer) :=
  (dss_one (ds_ret (de_and (de_callB cd_isi rfl B.isinstance_ bt_isinstance (da_cons (dv 0) (da_cons (de_ty rfl B.int_ bt_int) da_nil))) (de_one (de_not (de_callB cd_isi rfl B.isinstance_ bt_isinstance (da_cons (dv 0) (da_cons (de_ty rfl B.bool_ bt_bool) da_nil))))))))
theorem d_is_from (B : Blt mg) (F_is_integer : Fn P w K mg base "is_integer" 1 ps_is_integer sp_is_integer) (hr : Room 1 (A.deeper (envOfC "is_from" (defScope s_is_from) s.heap.objs.size f cd))) :
    DSs (bX P w K mg base N_is_from "is_from" s_is_from f cd A out s H E) (defBody s_is_from) (t_is_from) :=
  (dss_one (ds_ret (de_and (de_call F_is_integer (hr.mono (by decide)) rfl (da_cons (dv 0) da_nil)) (de_one (de_cmp (od_ge hr.units) (dv 0) (dv 1) (nomark _))))))
theorem d_is_link (B : Blt mg) (c_LINK_nets : GCon mg "LINK_nets" (.int (4))) (F_is_tuple_of : Fn P w K mg base "is_tuple_of" 1 ps_is_tuple_of sp_is_tuple_of) (F_is_ascending_of : Fn P w K mg base "is_ascending_of" 2 ps_is_ascending_of sp_is_ascending_of) (F_is_from : Fn P w K mg base "is_from" 2 ps_is_from sp_is_from) (hr : Room 2 (A.deeper (envOfC "is_link" (defScope s_is_link) s.heap.objs.size f cd))) :
    DSs (bX P w K mg base N_is_link "is_link" s_is_link f cd A out s H E) (defBody s_is_link) (t_is_link) :=
  (dss_cons (ds_if (dt_w (dw_or (dt_not (dt_tru (de_call F_is_tuple_of (hr.mono (by decide)) rfl (da_cons (dv 0) (da_cons (de_gl rfl c_LINK_nets (.int _)) da_nil))))) (dw_or1 (dt_not (dt_tru (de_call F_is_ascending_of (hr.mono (by decide)) rfl (da_cons (de_sl (dv 0) do_none (do_some de_int)) (da_cons (dv 1) da_nil)))))))) (dss_one (ds_ret de_bl)) dss_nil)
  (dss_one (ds_ret (de_and (de_call F_is_from (hr.mono (by decide)) rfl (da_cons (de_ix hr.units (dv 0) de_int (fun _ _ => rfl)) (da_cons de_int da_nil))) (de_one (de_call F_is_from (hr.mono (by decide)) rfl (da_cons (de_ix hr.units (dv 0) de_int (fun _ _ => rfl)) (da_cons de_int da_nil))))))))
theorem d_are_links (B : Blt mg) (c_MOST_LINKS : GCon mg "MOST_LINKS" (.int (16))) (F_is_tuple_to : Fn P w K mg base "is_tuple_to" 1 ps_is_tuple_to sp_is_tuple_to) (F_is_link : Fn P w K mg base "is_link" 3 ps_is_link sp_is_link) (F_are_ascending : Fn P w K mg base "are_ascending" 1 ps_are_ascending sp_are_ascending) (hr : Room 3 (A.deeper (envOfC "are_links" (defScope s_are_links) s.heap.objs.size f cd))) :
    DSs (bX P w K mg base N_are_links "are_links" s_are_links f cd A out s H E) (defBody s_are_links) (t_are_links) :=
  (dss_cons (ds_if (dt_w (dw_or (dt_not (dt_tru (de_call F_is_tuple_to (hr.mono (by decide)) rfl (da_cons (dv 0) (da_cons (de_gl rfl c_MOST_LINKS (.int _)) da_nil))))) (dw_or1 (dt_not (dt_tru (de_callB (cd_all rfl) rfl B.all_ bt_all (da_cons (de_lc (own := [("link", 2)]) (t := .nm 2) rfl sc_are_links.nd (di_seq (dv 0)) (blkOk_by (N := N_are_links) (sc := defScope s_are_links) (by decide +kernel)) (by simp [slotsT, slotsTs]) (fun _ _ _ _ _ => (pg_nm (i := 2) sc_are_links.nd rfl (Or.inl rfl))) (fun _ _ _ _ _ => dts_nil) (fun _ _ _ _ _ => (de_call F_is_link (hr.mono (by decide)) rfl (da_cons (dv 2) (da_cons (dv 1) da_nil))))) da_nil))))))) (dss_one (ds_ret de_bl)) dss_nil)
  (dss_one (ds_ret (de_call F_are_ascending (hr.mono (by decide)) rfl (da_cons (de_lc (own := [("link", 2)]) (t := .nm 2) rfl sc_are_links.nd (di_seq (dv 0)) (blkOk_by (N := N_are_links) (sc := defScope s_are_links) (by decide +kernel)) (by simp [slotsT, slotsTs]) (fun _ _ _ _ _ => (pg_nm (i := 2) sc_are_links.nd rfl (Or.inl rfl))) (fun _ _ _ _ _ => dts_nil) (fun _ _ _ _ _ => (de_sl (dv 2) do_none (do_some de_int)))) da_nil)))))
theorem d_Net___init__ {C_Net : Addr} (B : Blt mg) (F_are_routers : Fn P w K mg base "are_routers" 2 ps_are_routers sp_are_routers) (F_are_links : Fn P w K mg base "are_links" 4 ps_are_links sp_are_links) (cl_Net : Cls K C_Net) (no_Net_own_routers : NoAttr K C_Net "own_routers") (no_Net_own_links : NoAttr K C_Net "own_links") (hr : Room 4 (A.deeper (envOfC "Net.__init__" (defScope s_Net___init__) s.heap.objs.size f cd))) :
    DSs (bX P w K mg base N_Net___init__ "Net.__init__" s_Net___init__ f cd A out s H E) (defBody s_Net___init__) (t_Net___init__ C_Net) :=
  (dss_cons (ds_if (dt_w (dw_or (dt_not (dt_tru (de_call F_are_routers (hr.mono (by decide)) rfl (da_cons (dv 1) da_nil)))) (dw_or1 (dt_not (dt_tru (de_call F_are_links (hr.mono (by decide)) rfl (da_cons (dv 2) (da_cons (dv 1) da_nil)))))))) (dss_one ds_never) dss_nil)
  (dss_cons (ds_putF cl_Net no_Net_own_routers (dv 0) (dv 1))
  (dss_one (ds_putF cl_Net no_Net_own_links (dv 0) (dv 2)))))
theorem d__law_made {C_Net f_Net___init__ : Addr} (B : Blt mg) (m_Net : mg "Net" = some (.ref C_Net)) (mk_Net : Mk K C_Net f_Net___init__) (F_Net___init__ : FnM P w K mg base f_Net___init__ 5 ps_Net___init__ (sp_Net___init__ C_Net)) (hr : Room 6 (A.deeper (envOfC "_law_made" (defScope s__law_made) s.heap.objs.size f cd))) :
    DSs (bX P w K mg base N__law_made "_law_made" s__law_made f cd A out s H E) (defBody s__law_made) (t__law_made C_Net) :=
  (dss_one (ds_ret (de_new mk_Net F_Net___init__ (hr.mono (by decide)) rfl m_Net (da_cons (de_ix hr.units (dv 0) de_int (fun _ _ => rfl)) (da_cons (de_ix hr.units (dv 0) de_int (fun _ _ => rfl)) da_nil)))))
theorem d__law_net_page (B : Blt mg)  (hr : Room 0 (A.deeper (envOfC "_law_net_page" (defScope s__law_net_page) s.heap.objs.size f cd))) :
    DSs (bX P w K mg base N__law_net_page "_law_net_page" s__law_net_page f cd A out s H E) (defBody s__law_net_page) (t__law_net_page) :=
  (dss_cons (ds_set (i := 1) sc__law_net_page.nd rfl (Or.inl rfl) (de_lstM (da_cons (de_op od_add de_str (de_bm PySem.F.plainAttrs_str PySem.F.slot_str_join PySem.F.type_str_join md_join de_str (da_cons (de_ix hr.units (dv 0) de_int (fun _ _ => rfl)) da_nil))) da_nil)))
  (dss_cons (ds_expr (de_bm PySem.F.plainAttrs_list PySem.F.slot_list_extend PySem.F.type_list_extend md_extend (dv 1) (da_cons (de_lc (own := [("_law_a", 2), ("_law_b", 3), ("_law_there", 4), ("_law_back", 5)]) (t := .tp [.nm 2, .nm 3, .nm 4, .nm 5]) rfl sc__law_net_page.nd (di_seq (de_ix hr.units (dv 0) de_int (fun _ _ => rfl))) (blkOk_by (N := N__law_net_page) (sc := defScope s__law_net_page) (by decide +kernel)) (by simp [slotsT, slotsTs]) (fun _ _ _ _ _ => (pg_tp rfl (pgsc (pg_nm (i := 2) sc__law_net_page.nd rfl (Or.inl rfl)) (pgsc (pg_nm (i := 3) sc__law_net_page.nd rfl (Or.inl rfl)) (pgsc (pg_nm (i := 4) sc__law_net_page.nd rfl (Or.inl rfl)) (pgs1 (pg_nm (i := 5) sc__law_net_page.nd rfl (Or.inl rfl)))))))) (fun _ _ _ _ _ => dts_nil) (fun _ _ _ _ _ => (de_op od_add (de_op od_add (de_op od_add (de_op od_add (de_op od_add (de_op od_add (de_op od_add de_str (dv 2)) de_str) (dv 3)) de_str) (de_callTy cd_str rfl B.str_ bt_str (da_cons (dv 4) da_nil))) de_str) (de_callTy cd_str rfl B.str_ bt_str (da_cons (dv 5) da_nil))))) da_nil)))
  (dss_one (ds_ret (de_bm PySem.F.plainAttrs_str PySem.F.slot_str_join PySem.F.type_str_join md_join de_str (da_cons (dv 1) da_nil))))))
theorem d_Net_routers {C_Net : Addr} (B : Blt mg) (cl_Net : Cls K C_Net) (no_Net_own_routers : NoAttr K C_Net "own_routers") (hr : Room 0 (A.deeper (envOfC "Net.routers" (defScope s_Net_routers) s.heap.objs.size f cd))) :
    DSs (bX P w K mg base N_Net_routers "Net.routers" s_Net_routers f cd A out s H E) (defBody s_Net_routers) (t_Net_routers C_Net) :=
  (dss_one (ds_ret (de_fld cl_Net no_Net_own_routers (dv 0))))
theorem d_Net_links {C_Net : Addr} (B : Blt mg) (cl_Net : Cls K C_Net) (no_Net_own_links : NoAttr K C_Net "own_links") (hr : Room 0 (A.deeper (envOfC "Net.links" (defScope s_Net_links) s.heap.objs.size f cd))) :
    DSs (bX P w K mg base N_Net_links "Net.links" s_Net_links f cd A out s H E) (defBody s_Net_links) (t_Net_links C_Net) :=
  (dss_one (ds_ret (de_fld cl_Net no_Net_own_links (dv 0))))
theorem d_show_net {C_Net f_Net_links f_Net_routers q_Net_links q_Net_routers : Addr} (B : Blt mg) (c_BLANK : GCon mg "BLANK" (.str " ")) (cl_Net : Cls K C_Net) (pr_Net_routers : PropOf K C_Net "routers" q_Net_routers f_Net_routers) (F_Net_routers : FnM P w K mg base f_Net_routers 1 ps_Net_routers (sp_Net_routers C_Net)) (c_ROUTERS : GCon mg "ROUTERS" (.str "routers")) (pr_Net_links : PropOf K C_Net "links" q_Net_links f_Net_links) (F_Net_links : FnM P w K mg base f_Net_links 1 ps_Net_links (sp_Net_links C_Net)) (c_LINK_texts : GCon mg "LINK_texts" (.str "link")) (c_NEW_ROW : GCon mg "NEW_ROW" (.str "\n")) (hr : Room 2 (A.deeper (envOfC "show_net" (defScope s_show_net) s.heap.objs.size f cd))) :
    DSs (bX P w K mg base N_show_net "show_net" s_show_net f cd A out s H E) (defBody s_show_net) (t_show_net C_Net) :=
  (dss_cons (ds_set (i := 1) sc_show_net.nd rfl (Or.inl rfl) (de_lstM (da_cons (de_bm PySem.F.plainAttrs_str PySem.F.slot_str_join PySem.F.type_str_join md_join (de_gl rfl c_BLANK (.str _)) (da_cons (de_lst (da_cons (de_gl rfl c_ROUTERS (.str _)) (da_star (de_attr cl_Net pr_Net_routers F_Net_routers (hr.mono (by decide)) (dv 0)) da_nil))) da_nil)) da_nil)))
  (dss_cons (ds_expr (de_bm PySem.F.plainAttrs_list PySem.F.slot_list_extend PySem.F.type_list_extend md_extend (dv 1) (da_cons (de_lc (own := [("a", 2), ("b", 3), ("there", 4), ("back", 5)]) (t := .tp [.nm 2, .nm 3, .nm 4, .nm 5]) rfl sc_show_net.nd (di_seq (de_attr cl_Net pr_Net_links F_Net_links (hr.mono (by decide)) (dv 0))) (blkOk_by (N := N_show_net) (sc := defScope s_show_net) (by decide +kernel)) (by simp [slotsT, slotsTs]) (fun _ _ _ _ _ => (pg_tp rfl (pgsc (pg_nm (i := 2) sc_show_net.nd rfl (Or.inl rfl)) (pgsc (pg_nm (i := 3) sc_show_net.nd rfl (Or.inl rfl)) (pgsc (pg_nm (i := 4) sc_show_net.nd rfl (Or.inl rfl)) (pgs1 (pg_nm (i := 5) sc_show_net.nd rfl (Or.inl rfl)))))))) (fun _ _ _ _ _ => dts_nil) (fun _ _ _ _ _ => (de_joined (DJ.cons (de_fmt (de_gl rfl c_LINK_texts (.str _))) (DJ.cons de_str (DJ.cons (de_fmt (dv 2)) (DJ.cons de_str (DJ.cons (de_fmt (dv 3)) (DJ.cons de_str (DJ.cons (de_fmt (dv 4)) (DJ.cons de_str (DJ.cons (de_fmt (dv 5)) DJ.nil)))))))))))) da_nil)))
  (dss_one (ds_ret (de_bm PySem.F.plainAttrs_str PySem.F.slot_str_join PySem.F.type_str_join md_join (de_gl rfl c_NEW_ROW (.str _)) (da_cons (dv 1) da_nil))))))
theorem d_rows_of (B : Blt mg) (c_NEW_ROW : GCon mg "NEW_ROW" (.str "\n")) (hr : Room 0 (A.deeper (envOfC "rows_of" (defScope s_rows_of) s.heap.objs.size f cd))) :
    DSs (bX P w K mg base N_rows_of "rows_of" s_rows_of f cd A out s H E) (defBody s_rows_of) (t_rows_of) :=
  (dss_cons (ds_if (dt_not (dt_tru (de_callB cd_isi rfl B.isinstance_ bt_isinstance (da_cons (dv 0) (da_cons (de_ty rfl B.str_ bt_str) da_nil))))) (dss_one ds_never) dss_nil)
  (dss_one (ds_ret (de_bm PySem.F.plainAttrs_str PySem.F.slot_str_split PySem.F.type_str_split md_split (dv 0) (da_cons (de_gl rfl c_NEW_ROW (.str _)) da_nil)))))
theorem d_integer_in (B : Blt mg) (c_MOST_DIGITS : GCon mg "MOST_DIGITS" (.int (9))) (c_DIGITS : GCon mg "DIGITS" (.str "0123456789")) (hr : Room 0 (A.deeper (envOfC "integer_in" (defScope s_integer_in) s.heap.objs.size f cd))) :
    DSs (bX P w K mg base N_integer_in "integer_in" s_integer_in f cd A out s H E) (defBody s_integer_in) (t_integer_in) :=
  (dss_cons (ds_if (dt_w (dw_or (dt_not (dt_chain (od_le hr.units) (od_le hr.units) de_int (de_callB cd_len rfl B.len_ bt_len (da_cons (dv 0) da_nil)) (de_gl rfl c_MOST_DIGITS (.int _)))) (dw_or1 (dt_not (dt_tru (de_callB (cd_all rfl) rfl B.all_ bt_all (da_cons (de_lc (own := [("sign", 1)]) (t := .nm 1) rfl sc_integer_in.nd (di_seq (dv 0)) (blkOk_by (N := N_integer_in) (sc := defScope s_integer_in) (by decide +kernel)) (by simp [slotsT, slotsTs]) (fun _ _ _ _ _ => (pg_nm (i := 1) sc_integer_in.nd rfl (Or.inl rfl))) (fun _ _ _ _ _ => dts_nil) (fun _ _ _ _ _ => (de_cmp (od_in hr.units) (dv 1) (de_gl rfl c_DIGITS (.str _)) (by rfl)))) da_nil))))))) (dss_one (ds_ret de_non)) dss_nil)
  (dss_cons (ds_if (dt_w (dw_and (dt_cmp (od_eq hr.units) (de_ix hr.units (dv 0) de_int (fun _ _ => rfl)) de_str (nomark _)) (dw_and1 (dt_cmp (od_gt hr.units) (de_callB cd_len rfl B.len_ bt_len (da_cons (dv 0) da_nil)) de_int (nomark _))))) (dss_one (ds_ret de_non)) dss_nil)
  (dss_one (ds_ret (de_callTy cd_intS rfl B.int_ bt_int (da_cons (dv 0) da_nil))))))
theorem d_link_of_row (B : Blt mg) (c_BLANK : GCon mg "BLANK" (.str " ")) (c_LINK_WORDS : GCon mg "LINK_WORDS" (.int (5))) (c_LINK_texts : GCon mg "LINK_texts" (.str "link")) (F_is_name : Fn P w K mg base "is_name" 1 ps_is_name sp_is_name) (F_integer_in : Fn P w K mg base "integer_in" 1 ps_integer_in sp_integer_in) (hr : Room 1 (A.deeper (envOfC "link_of_row" (defScope s_link_of_row) s.heap.objs.size f cd))) :
    DSs (bX P w K mg base N_link_of_row "link_of_row" s_link_of_row f cd A out s H E) (defBody s_link_of_row) (t_link_of_row) :=
  (dss_cons (ds_set (i := 1) sc_link_of_row.nd rfl (Or.inl rfl) (de_bm PySem.F.plainAttrs_str PySem.F.slot_str_split PySem.F.type_str_split md_split (dv 0) (da_cons (de_gl rfl c_BLANK (.str _)) da_nil)))
  (dss_cons (ds_if (dt_w (dw_or (dt_cmp (od_ne hr.units) (de_callB cd_len rfl B.len_ bt_len (da_cons (dv 1) da_nil)) (de_gl rfl c_LINK_WORDS (.int _)) (nomark _)) (dw_or (dt_cmp (od_ne hr.units) (de_ix hr.units (dv 1) de_int (fun _ _ => rfl)) (de_gl rfl c_LINK_texts (.str _)) (nomark _)) (dw_or (dt_not (dt_tru (de_call F_is_name (hr.mono (by decide)) rfl (da_cons (de_ix hr.units (dv 1) de_int (fun _ _ => rfl)) da_nil)))) (dw_or1 (dt_not (dt_tru (de_call F_is_name (hr.mono (by decide)) rfl (da_cons (de_ix hr.units (dv 1) de_int (fun _ _ => rfl)) da_nil))))))))) (dss_one (ds_ret de_non)) dss_nil)
  (dss_cons (ds_par (i := 2) (j := 3) rfl sc_link_of_row.nd rfl rfl (by decide) rfl rfl (da_cons (de_call F_integer_in (hr.mono (by decide)) rfl (da_cons (de_ix hr.units (dv 1) de_int (fun _ _ => rfl)) da_nil)) (da_cons (de_call F_integer_in (hr.mono (by decide)) rfl (da_cons (de_ix hr.units (dv 1) de_int (fun _ _ => rfl)) da_nil)) da_nil)) (by rfl))
  (dss_one (ds_ret (de_if (dt_w (dw_or (dt_cmp (od_isN) (dv 2) de_non (nomark _)) (dw_or1 (dt_cmp (od_isN) (dv 3) de_non (nomark _))))) de_non (de_tup (da_cons (de_ix hr.units (dv 1) de_int (fun _ _ => rfl)) (da_cons (de_ix hr.units (dv 1) de_int (fun _ _ => rfl)) (da_cons (dv 2) (da_cons (dv 3) da_nil)))))))))))
theorem d_net_rows (B : Blt mg) (c_BLANK : GCon mg "BLANK" (.str " ")) (c_ROUTERS : GCon mg "ROUTERS" (.str "routers")) (F_is_name : Fn P w K mg base "is_name" 1 ps_is_name sp_is_name) (F_link_of_row : Fn P w K mg base "link_of_row" 2 ps_link_of_row sp_link_of_row) (hr : Room 2 (A.deeper (envOfC "net_rows" (defScope s_net_rows) s.heap.objs.size f cd))) :
    DSs (bX P w K mg base N_net_rows "net_rows" s_net_rows f cd A out s H E) (defBody s_net_rows) (t_net_rows) :=
  (dss_cons (ds_set (i := 1) sc_net_rows.nd rfl (Or.inl rfl) (de_bm PySem.F.plainAttrs_str PySem.F.slot_str_split PySem.F.type_str_split md_split (de_ix hr.units (dv 0) de_int (fun _ _ => rfl)) (da_cons (de_gl rfl c_BLANK (.str _)) da_nil)))
  (dss_cons (ds_if (dt_w (dw_or (dt_cmp (od_ne hr.units) (de_ix hr.units (dv 1) de_int (fun _ _ => rfl)) (de_gl rfl c_ROUTERS (.str _)) (nomark _)) (dw_or1 (dt_not (dt_tru (de_callB (cd_all rfl) rfl B.all_ bt_all (da_cons (de_lc (own := [("word", 4)]) (t := .nm 4) rfl sc_net_rows.nd (di_seq (de_sl (dv 1) (do_some de_int) do_none)) (blkOk_by (N := N_net_rows) (sc := defScope s_net_rows) (by decide +kernel)) (by simp [slotsT, slotsTs]) (fun _ _ _ _ _ => (pg_nm (i := 4) sc_net_rows.nd rfl (Or.inl rfl))) (fun _ _ _ _ _ => dts_nil) (fun _ _ _ _ _ => (de_call F_is_name (hr.mono (by decide)) rfl (da_cons (dv 4) da_nil)))) da_nil))))))) (dss_one ds_never) dss_nil)
  (dss_cons (ds_setLc (i := 2) (own := [("row", 5)]) (t := .nm 5) rfl sc_net_rows.nd rfl rfl (by rfl) (di_seq (de_sl (dv 0) (do_some de_int) do_none)) (blkOk_by (N := N_net_rows) (sc := defScope s_net_rows) (by decide +kernel)) (by simp [slotsT, slotsTs]) (fun _ _ _ _ _ => (pg_nm (i := 5) sc_net_rows.nd rfl (Or.inl rfl))) (fun _ _ _ _ _ => dts_nil) (fun _ _ _ _ _ => (de_call F_link_of_row (hr.mono (by decide)) rfl (da_cons (dv 5) da_nil))))
  (dss_cons (ds_set (i := 3) sc_net_rows.nd rfl (Or.inl rfl) (de_if (dt_cmp (od_in hr.units) de_non (dv 2) (by rfl)) (de_bm PySem.F.plainAttrs_list PySem.F.slot_list_index PySem.F.type_list_index (md_idx hr.units) (dv 2) (da_cons de_non da_nil)) (de_callB cd_len rfl B.len_ bt_len (da_cons (dv 2) da_nil))))
  (dss_one (ds_ret (de_tup (da_cons (de_tup (da_cons (de_callTy cd_tuple rfl B.tuple_ bt_tuple (da_cons (de_sl (dv 1) (do_some de_int) do_none) da_nil)) (da_cons (de_callTy cd_tuple rfl B.tuple_ bt_tuple (da_cons (de_sl (dv 2) do_none (do_some (dv 3))) da_nil)) da_nil))) (da_cons (de_op od_add de_int (dv 3)) da_nil)))))))))
theorem d_read_net {C_Net f_Net___init__ : Addr} (B : Blt mg) (F_rows_of : Fn P w K mg base "rows_of" 1 ps_rows_of sp_rows_of) (F_net_rows : Fn P w K mg base "net_rows" 3 ps_net_rows sp_net_rows) (m_Net : mg "Net" = some (.ref C_Net)) (mk_Net : Mk K C_Net f_Net___init__) (F_Net___init__ : FnM P w K mg base f_Net___init__ 5 ps_Net___init__ (sp_Net___init__ C_Net)) (hr : Room 6 (A.deeper (envOfC "read_net" (defScope s_read_net) s.heap.objs.size f cd))) :
    DSs (bX P w K mg base N_read_net "read_net" s_read_net f cd A out s H E) (defBody s_read_net) (t_read_net C_Net) :=
  (dss_cons (ds_set (i := 1) sc_read_net.nd rfl (Or.inl rfl) (de_call F_rows_of (hr.mono (by decide)) rfl (da_cons (dv 0) da_nil)))
  (dss_cons (ds_asg (t := .tp [.tp [.nm 2, .nm 3], .nm 4]) (de_call F_net_rows (hr.mono (by decide)) rfl (da_cons (dv 1) da_nil)) (pg_tp rfl (pgsc (pg_tp rfl (pgsc (pg_nm (i := 2) sc_read_net.nd rfl (Or.inl rfl)) (pgs1 (pg_nm (i := 3) sc_read_net.nd rfl (Or.inl rfl))))) (pgs1 (pg_nm (i := 4) sc_read_net.nd rfl (Or.inl rfl))))))
  (dss_cons (ds_if (dt_cmp (od_lt hr.units) (dv 4) (de_callB cd_len rfl B.len_ bt_len (da_cons (dv 1) da_nil)) (nomark _)) (dss_one ds_never) dss_nil)
  (dss_one (ds_ret (de_new mk_Net F_Net___init__ (hr.mono (by decide)) rfl m_Net (da_cons (dv 2) (da_cons (dv 3) da_nil))))))))
theorem d_Net___eq__ {C_Net : Addr} (B : Blt mg) (m_Net : mg "Net" = some (.ref C_Net)) (is_Net : IsiC K C_Net) (cl_Net : Cls K C_Net) (no_Net_own_routers : NoAttr K C_Net "own_routers") (no_Net_own_links : NoAttr K C_Net "own_links") (hr : Room 0 (A.deeper (envOfC "Net.__eq__" (defScope s_Net___eq__) s.heap.objs.size f cd))) :
    DSs (bX P w K mg base N_Net___eq__ "Net.__eq__" s_Net___eq__ f cd A out s H E) (defBody s_Net___eq__) (t_Net___eq__ C_Net) :=
  (dss_cons (ds_if (dt_not (dt_tru (de_callB (cd_isiC is_Net) rfl B.isinstance_ bt_isinstance (da_cons (dv 1) (da_cons (de_gl (v := .ref C_Net) rfl ⟨_, m_Net, rfl⟩ (.ref _)) da_nil))))) (dss_one (ds_ret de_bl)) dss_nil)
  (dss_one (ds_ret (de_and (de_cmp (od_eq hr.units) (de_fld cl_Net no_Net_own_routers (dv 0)) (de_fld cl_Net no_Net_own_routers (dv 1)) (nomark _)) (de_one (de_cmp (od_eq hr.units) (de_fld cl_Net no_Net_own_links (dv 0)) (de_fld cl_Net no_Net_own_links (dv 1)) (nomark _)))))))
theorem d__law_fine {C_Net f_Net___eq__ f_Net_links f_Net_routers q_Net_links q_Net_routers : Addr} (B : Blt mg) (F__law_world : Fn P w K mg base "_law_world" 4 ps__law_world sp__law_world) (F__law_take : Fn P w K mg base "_law_take" 1 ps__law_take sp__law_take) (F__law_of : Fn P w K mg base "_law_of" 2 ps__law_of sp__law_of) (F__law_made : Fn P w K mg base "_law_made" 7 ps__law_made (sp__law_made C_Net)) (F__law_net_page : Fn P w K mg base "_law_net_page" 1 ps__law_net_page sp__law_net_page) (F_show_net : Fn P w K mg base "show_net" 3 ps_show_net (sp_show_net C_Net)) (F_read_net : Fn P w K mg base "read_net" 7 ps_read_net (sp_read_net C_Net)) (F_Net___eq__ : FnM P w K mg base f_Net___eq__ 1 ps_Net___eq__ (sp_Net___eq__ C_Net)) (eq_Net : PySem.W.findIn K (.ref C_Net) "__eq__" = some (some (.ref f_Net___eq__))) (fn_Net___eq__ : PySem.W.isFn K (.ref f_Net___eq__) = true) (m_Net : mg "Net" = some (.ref C_Net)) (is_Net : IsiC K C_Net) (cl_Net : Cls K C_Net) (pr_Net_links : PropOf K C_Net "links" q_Net_links f_Net_links) (F_Net_links : FnM P w K mg base f_Net_links 1 ps_Net_links (sp_Net_links C_Net)) (pr_Net_routers : PropOf K C_Net "routers" q_Net_routers f_Net_routers) (F_Net_routers : FnM P w K mg base f_Net_routers 1 ps_Net_routers (sp_Net_routers C_Net)) (hgd : A.guards = some []) (hr : Room 7 (A.deeper (envOfC "_law_fine" (defScope s__law_fine) s.heap.objs.size f cd))) :
    DSs (bX P w K mg base N__law_fine "_law_fine" s__law_fine f cd A out s H E) (defBody s__law_fine) (t__law_fine C_Net) :=
  (dss_cons (ds_set (i := 1) sc__law_fine.nd rfl (Or.inl rfl) (de_call F__law_world (hr.mono (by decide)) rfl (da_cons (dv 0) (da_cons de_int (da_cons de_int (da_cons de_int da_nil))))))
  (dss_cons (ds_if (dt_cmp (od_eq hr.units) (de_call F__law_take (hr.mono (by decide)) rfl (da_cons (dv 0) (da_cons de_int da_nil))) de_int (nomark _)) (dss_cons (ds_set (i := 2) sc__law_fine.nd rfl (Or.inr rfl) (de_lst (da_cons de_int (da_cons de_int (da_cons de_int (da_cons de_int (da_cons (de_op od_pow de_int de_int) (da_cons (de_op od_add de_int (de_call F__law_take (hr.mono (by decide)) rfl (da_cons (dv 0) (da_cons (de_op od_sub (de_op od_pow de_int de_int) de_int) da_nil)))) da_nil))))))))
  (dss_one (ds_set (i := 1) sc__law_fine.nd rfl (Or.inl rfl) (de_tup (da_cons (de_ix hr.units (dv 1) de_int (fun _ _ => rfl)) (da_cons (de_callTy cd_tuple rfl B.tuple_ bt_tuple (da_cons (de_lc (own := [("_law_a", 6), ("_law_b", 7), ("_law_there", 8), ("_law_back", 9)]) (t := .tp [.nm 6, .nm 7, .nm 8, .nm 9]) rfl sc__law_fine.nd (di_seq (de_ix hr.units (dv 1) de_int (fun _ _ => rfl))) (blkOk_by (N := N__law_fine) (sc := defScope s__law_fine) (by decide +kernel)) (by simp [slotsT, slotsTs]) (fun _ _ _ _ _ => (pg_tp rfl (pgsc (pg_nm (i := 6) sc__law_fine.nd rfl (Or.inl rfl)) (pgsc (pg_nm (i := 7) sc__law_fine.nd rfl (Or.inl rfl)) (pgsc (pg_nm (i := 8) sc__law_fine.nd rfl (Or.inl rfl)) (pgs1 (pg_nm (i := 9) sc__law_fine.nd rfl (Or.inl rfl)))))))) (fun _ _ _ _ _ => dts_nil) (fun _ _ _ _ _ => (de_tup (da_cons (dv 6) (da_cons (dv 7) (da_cons (de_call F__law_of (hr.mono (by decide)) rfl (da_cons (dv 0) (da_cons (dv 2) da_nil))) (da_cons (de_call F__law_of (hr.mono (by decide)) rfl (da_cons (dv 0) (da_cons (dv 2) da_nil))) da_nil))))))) da_nil)) da_nil)))))) dss_nil)
  (dss_cons (ds_par (i := 3) (j := 4) rfl sc__law_fine.nd rfl rfl (by decide) rfl rfl (da_cons (de_call F__law_made (hr.mono (by decide)) rfl (da_cons (dv 1) da_nil)) (da_cons (de_call F__law_net_page (hr.mono (by decide)) rfl (da_cons (dv 1) da_nil)) da_nil)) (by rfl))
  (dss_cons (ds_if (dt_w (dw_or (dt_cmp (od_ne hr.units) (de_call F_show_net (hr.mono (by decide)) rfl (da_cons (dv 3) da_nil)) (dv 4) (nomark _)) (dw_or1 (dt_not (dt_tru (de_callB cd_isi rfl B.isinstance_ bt_isinstance (da_cons (de_call F_show_net (hr.mono (by decide)) rfl (da_cons (dv 3) da_nil)) (da_cons (de_ty rfl B.str_ bt_str) da_nil)))))))) (dss_one (ds_ret de_bl)) dss_nil)
  (dss_cons (ds_set (i := 5) sc__law_fine.nd rfl (Or.inl rfl) (de_call F_read_net (hr.mono (by decide)) rfl (da_cons (dv 4) da_nil)))
  (dss_one (ds_ret (de_and (de_cmp (od_own F_Net___eq__ (hr.mono (by decide)) eq_Net fn_Net___eq__) (dv 5) (dv 3) (nomark _)) (de_and (de_callB (cd_isiC is_Net) rfl B.isinstance_ bt_isinstance (da_cons (dv 5) (da_cons (de_gl (v := .ref C_Net) rfl ⟨_, m_Net, rfl⟩ (.ref _)) da_nil))) (de_one (de_cmp (od_eq hr.units) (de_callB (cd_repr hgd hr.units) rfl B.repr_ bt_repr (da_cons (de_tup (da_cons (de_attr cl_Net pr_Net_routers F_Net_routers (hr.mono (by decide)) (dv 5)) (da_cons (de_attr cl_Net pr_Net_links F_Net_links (hr.mono (by decide)) (dv 5)) da_nil))) da_nil)) (de_callB (cd_repr hgd hr.units) rfl B.repr_ bt_repr (da_cons (dv 1) da_nil)) (nomark _))))))))))))
theorem d_law (B : Blt mg) (F__law_pots : Fn P w K mg base "_law_pots" 2 ps__law_pots sp__law_pots) (F__law_fine : FnR P w K mg base "_law_fine" 8 ps__law_fine sp__law_fine) (hgd : A.guards = some []) (hr : Room 8 (A.deeper (envOfC "law" (defScope s_law) s.heap.objs.size f cd))) :
    DSs (bX P w K mg base N_law "law" s_law f cd A out s H E) (defBody s_law) (t_law) :=
  (dss_cons (ds_for (t := .nm 1) PassesOwn.never rfl (di_seq (de_call F__law_pots (hr.mono (by decide)) rfl (da_cons (dv 0) (da_cons de_int da_nil)))) (pg_nm (i := 1) sc_law.nd rfl (Or.inr rfl)) (dss_one (ds_if (dt_not (dt_tru (de_callB (cd_all rfl) rfl B.all_ bt_all (da_cons (de_lc (own := [("_law_turn", 2)]) (t := .nm 2) rfl sc_law.nd (di_range1 rfl B.range_ (da_cons de_int da_nil)) (blkOk_by (N := N_law) (sc := defScope s_law) (by decide +kernel)) (by simp [slotsT, slotsTs]) (fun _ _ _ _ _ => (pg_nm (i := 2) sc_law.nd rfl (Or.inl rfl))) (fun _ _ _ _ _ => dts_nil) (fun _ _ _ _ _ => (de_callR hgd F__law_fine (hr.mono (by decide)) rfl (da_cons (dv 1) da_nil)))) da_nil)))) (dss_one (ds_ret de_bl)) dss_nil)))
  (dss_one (ds_ret de_bl)))
end
end DL
end
section
set_option maxHeartbeats 4000000
/-! The generator's defs keep their promises. -/
namespace DL
open PySem PySem.Spec L2
local macro_rules
  | `(tactic| trivial) => `(tactic| (repeat (first
    | (with_reducible refine l_seq ?_)
    | (with_reducible refine l_next ?_)
    | (with_reducible refine l_set ?_)
    | (with_reducible refine l_expr ?_)
    | (with_reducible refine l_ret ?_)
    | (with_reducible refine l_if ?_)
    | (with_reducible refine l_par ?_)
    | (with_reducible refine l_par2 ?_)
    | (with_reducible refine l_asg ?_)
    | (with_reducible refine l_for ?_)
    | (with_reducible refine l_putIx ?_)
    | (with_reducible refine l_putF ?_)
    | ((with_reducible apply l_var); focus rfl)
    | (with_reducible refine l_c ?_)
    | (with_reducible refine l_bin ?_)
    | (with_reducible refine l_test ?_)
    | (with_reducible refine l_bl ?_)
    | (with_reducible refine l_and ?_)
    | (with_reducible refine l_or ?_)
    | (with_reducible refine l_not ?_)
    | (with_reducible refine l_andV ?_)
    | (with_reducible refine l_orV ?_)
    | (with_reducible refine l_notV ?_)
    | (with_reducible refine l_ifE ?_)
    | (with_reducible refine l_truB ?_)
    | (with_reducible refine l_tru ?_)
    | (with_reducible refine l_yes ?_)
    | (with_reducible refine l_chain ?_)
    | (with_reducible refine l_nil ?_)
    | (with_reducible refine l_cons ?_)
    | (with_reducible refine l_star ?_)
    | (with_reducible refine l_tup ?_)
    | (with_reducible refine l_lst ?_)
    | (with_reducible refine l_lstM ?_)
    | (with_reducible refine l_frz2 ?_)
    | (with_reducible refine l_call ?_)
    | (with_reducible refine l_fn ?_)
    | (with_reducible refine l_bm ?_)
    | (with_reducible refine l_rng1 ?_)
    | (with_reducible refine l_rng2 ?_)
    | (with_reducible refine l_seqI ?_)
    | (with_reducible refine l_enum ?_)
    | (with_reducible refine l_zip ?_)
    | (with_reducible refine l_lc ?_)
    | (with_reducible refine l_lcM ?_)
    | (with_reducible refine l_sl2 ?_)
    | (with_reducible refine l_noP ?_)
    | (with_reducible refine l_part ?_)
    | (with_reducible refine l_int ?_)
    | (with_reducible refine l_rev ?_)
    | (with_reducible refine l_ss ?_)
    | (with_reducible refine l_fld ?_)
    | (with_reducible refine l_prop ?_)
    | (with_reducible refine l_mk ?_)
    | (with_reducible refine l_fmt2 ?_)
    | (with_reducible refine l_joined ?_)
    | (with_reducible refine l_js0 ?_)
    | (with_reducible refine l_jsc ?_)
    | (with_reducible refine l_add ?_)
    | (with_reducible refine l_sub ?_)
    | (with_reducible refine l_lt ?_)
    | (with_reducible refine l_gt ?_)
    | (with_reducible refine l_le ?_)
    | (with_reducible refine l_ge ?_)
    | (with_reducible refine l_eq ?_)
    | (with_reducible refine l_ne ?_)
    | (with_reducible refine l_intI ?_)
    | (with_reducible refine l_intB ?_)
    | (with_reducible refine l_abs ?_)
    | (with_reducible refine l_max ?_)
    | (with_reducible refine l_min ?_)
    | (with_reducible refine l_isN ?_)
    | (with_reducible refine l_it rfl ?_)
    | (with_reducible refine l_if0 rfl ?_)
    | dsimp only)))
theorem iB_lt {z : Int} {k : Nat} (h0 : 0 ≤ z) (h : z < 2 ^ k) : Builtin.Int.intBits z ≤ k := by
  have e : ((z.natAbs : Nat) : Int) = z := Int.natAbs_of_nonneg h0
  have h2 : z.natAbs < 2 ^ k := Int.ofNat_lt.mp (by rw [e, Int.natCast_pow]; exact h)
  unfold Builtin.Int.intBits
  split
  · exact Nat.zero_le _
  · rename_i hz
    have z0 : z.natAbs ≠ 0 := by simpa using hz
    exact (Nat.log2_lt z0).mpr h2
theorem l_pow {i j : Int} {S : Sto} {R : DK} (h0 : 0 ≤ j) (hb : (Builtin.Int.intBits i : Int) * j ≤ 2 ^ 27) (h : R (.int (i ^ j.toNat)) S) : dPow (.int i) (.int j) S R := ⟨⟨h0, hb⟩, h⟩
theorem five {i : Int} (h0 : 0 ≤ i) (h : i < 5) {x0 x1 x2 x3 x4 : Int} {p : Int → Prop} (h0' : p x0) (h1' : p x1) (h2' : p x2) (h3' : p x3) (h4' : p x4) : ∃ z, atI [D.int x0, .int x1, .int x2, .int x3, .int x4] i = some (.int z) ∧ p z := by
  have c : i = 0 ∨ i = 1 ∨ i = 2 ∨ i = 3 ∨ i = 4 := by omega
  rcases c with e | e | e | e | e <;> subst e
  · exact ⟨_, rfl, h0'⟩
  · exact ⟨_, rfl, h1'⟩
  · exact ⟨_, rfl, h2'⟩
  · exact ⟨_, rfl, h3'⟩
  · exact ⟨_, rfl, h4'⟩
theorem sem__law_take {a : Addr} {u : Int} {n : Nat} {S : Sto} {R : DK} (hp : PotAt S a (n + 1)) (u0 : 0 < u) (u1 : u < 2 ^ 62) (q : ∀ v d, 0 ≤ v → v < u → Pot n d → R (.int v) (S.put a d)) :
    t__law_take (dEnds R) [some (.ref a), some (.int u), none, none, none] S := by
  obtain ⟨d, hS, o, s, c, rfl, ⟨o0, o1⟩, ⟨s0, s1⟩, c0, c1⟩ := hp
  have hv : vw S (.ref a) = .lst [.int o, .int s, .int c] := vw_ref hS
  unfold t__law_take
  trivial
  refine l_ixL hv rfl ?_
  trivial
  refine l_ite (fun h => ?_) fun h => ?_
  · have ho : 0 < o := of_decide_eq_true h
    trivial
    refine l_ixL hv rfl ?_
    trivial
    refine l_mod u0 ?_
    trivial
    refine l_ixL hv rfl ?_
    trivial
    refine l_fdiv u0 (Int.lt_trans u1 (by decide +kernel)) ?_
    trivial
    refine l_put hS rfl ?_
    trivial
    refine l_end0 (q _ _ (Int.emod_nonneg _ (by omega)) (Int.emod_lt_of_pos _ u0) ⟨o / u, s, c, rfl, ⟨Int.ediv_nonneg o0 (by omega), ?_⟩, ⟨s0, s1⟩, c0, by omega⟩)
    exact Int.lt_of_le_of_lt (Int.ediv_le_self _ o0) o1
  · trivial
    refine l_ixL hv rfl ?_
    trivial
    refine l_put (k := 2) hS rfl ?_
    have m0 : 0 ≤ c + 1 := by omega
    have m1 : c + 1 ≤ 2 ^ 40 := by omega
    have m2 : c + 1 + (n : Int) ≤ 2 ^ 40 := by omega
    have e2 : ([D.int o, .int s, .int c].set 2 (.int (c + 1))) = [.int o, .int s, .int (c + 1)] := rfl
    rw [e2]
    generalize c + 1 = m at m0 m1 m2 ⊢
    have hv2 : vw (S.put a (.lst [.int o, .int s, .int m])) (.ref a) = .lst [.int o, .int s, .int m] := vw_put
    trivial
    refine l_short (by decide) ?_
    trivial
    refine l_ixL hv2 rfl ?_
    trivial
    refine l_mod (by decide) ?_
    obtain ⟨z, hz, z0, z1⟩ := five (i := m % 5) (Int.emod_nonneg _ (by decide)) (Int.emod_lt_of_pos _ (by decide)) (x0 := 2147483647) (x1 := 2147483629) (x2 := 2147483587) (x3 := 2147483579) (x4 := 2147483563) (p := fun z => 0 < z ∧ z < 2 ^ 31) (by decide) (by decide) (by decide) (by decide) (by decide)
    refine l_ixL rfl hz ?_
    trivial
    refine l_ixL hv2 rfl ?_
    trivial
    refine l_ixL hv2 rfl ?_
    trivial
    refine l_mulL (by decide) ?_
    trivial
    refine l_ixL hv2 rfl ?_
    trivial
    refine l_mulR (by omega) ?_
    trivial
    have b1 : (99989 : Int) * m ≤ 99989 * 2 ^ 40 := Int.mul_le_mul_of_nonneg_left m1 (by decide)
    have b2 : (99989 : Int) * m * m ≤ 99989 * 2 ^ 40 * 2 ^ 40 := Int.mul_le_mul b1 m1 m0 (by decide)
    have b3 : 0 ≤ (99989 : Int) * m * m := Int.mul_nonneg (Int.mul_nonneg (by decide) m0) m0
    generalize (99989 : Int) * m * m = y at b2 b3 ⊢
    have w0 : 0 ≤ s + y + 71 := by omega
    have w1 : s + y + 71 < 2 ^ 100 := by
      have : (99989 : Int) * 2 ^ 40 * 2 ^ 40 + 2305843009213693921 + 71 < 2 ^ 100 := by decide
      omega
    generalize s + y + 71 = v at w0 w1 ⊢
    refine l_pow (by decide) ?_ ?_
    · have := iB_lt w0 w1
      have : (2 : Int) ^ 27 = 134217728 := by decide
      omega
    trivial
    refine l_mod z0 ?_
    trivial
    have r0 := Int.emod_nonneg (v ^ (3 : Int).toNat) (show z ≠ 0 by omega)
    have r1 := Int.emod_lt_of_pos (v ^ (3 : Int).toNat) z0
    generalize v ^ (3 : Int).toNat % z = r at r0 r1 ⊢
    refine l_mod (by decide) ?_
    trivial
    refine l_ixL hv2 rfl ?_
    trivial
    refine l_mulL (by decide) ?_
    trivial
    refine l_mulL (by omega) ?_
    trivial
    refine l_mod (by decide) ?_
    trivial
    refine l_fdiv (by decide) (by decide +kernel) ?_
    trivial
    refine l_mod u0 ?_
    exact l_end0 (q _ _ (Int.emod_nonneg _ (by omega)) (Int.emod_lt_of_pos _ u0) ⟨o, s, m, rfl, ⟨o0, o1⟩, ⟨s0, s1⟩, m0, m2⟩)
end DL
end
section
set_option maxHeartbeats 4000000
/-! The generator's defs keep their promises. -/
namespace DL
open PySem PySem.Spec L2
local macro_rules
  | `(tactic| trivial) => `(tactic| (repeat (first
    | (with_reducible refine l_seq ?_)
    | (with_reducible refine l_next ?_)
    | (with_reducible refine l_set ?_)
    | (with_reducible refine l_expr ?_)
    | (with_reducible refine l_ret ?_)
    | (with_reducible refine l_if ?_)
    | (with_reducible refine l_par ?_)
    | (with_reducible refine l_par2 ?_)
    | (with_reducible refine l_asg ?_)
    | (with_reducible refine l_for ?_)
    | (with_reducible refine l_putIx ?_)
    | (with_reducible refine l_putF ?_)
    | ((with_reducible apply l_var); focus rfl)
    | (with_reducible refine l_c ?_)
    | (with_reducible refine l_bin ?_)
    | (with_reducible refine l_test ?_)
    | (with_reducible refine l_bl ?_)
    | (with_reducible refine l_and ?_)
    | (with_reducible refine l_or ?_)
    | (with_reducible refine l_not ?_)
    | (with_reducible refine l_andV ?_)
    | (with_reducible refine l_orV ?_)
    | (with_reducible refine l_notV ?_)
    | (with_reducible refine l_ifE ?_)
    | (with_reducible refine l_truB ?_)
    | (with_reducible refine l_tru ?_)
    | (with_reducible refine l_yes ?_)
    | (with_reducible refine l_chain ?_)
    | (with_reducible refine l_nil ?_)
    | (with_reducible refine l_cons ?_)
    | (with_reducible refine l_star ?_)
    | (with_reducible refine l_tup ?_)
    | (with_reducible refine l_lst ?_)
    | (with_reducible refine l_lstM ?_)
    | (with_reducible refine l_frz2 ?_)
    | (with_reducible refine l_call ?_)
    | (with_reducible refine l_fn ?_)
    | (with_reducible refine l_bm ?_)
    | (with_reducible refine l_rng1 ?_)
    | (with_reducible refine l_rng2 ?_)
    | (with_reducible refine l_seqI ?_)
    | (with_reducible refine l_enum ?_)
    | (with_reducible refine l_zip ?_)
    | (with_reducible refine l_lc ?_)
    | (with_reducible refine l_lcM ?_)
    | (with_reducible refine l_sl2 ?_)
    | (with_reducible refine l_noP ?_)
    | (with_reducible refine l_part ?_)
    | (with_reducible refine l_int ?_)
    | (with_reducible refine l_rev ?_)
    | (with_reducible refine l_ss ?_)
    | (with_reducible refine l_fld ?_)
    | (with_reducible refine l_prop ?_)
    | (with_reducible refine l_mk ?_)
    | (with_reducible refine l_fmt2 ?_)
    | (with_reducible refine l_joined ?_)
    | (with_reducible refine l_js0 ?_)
    | (with_reducible refine l_jsc ?_)
    | (with_reducible refine l_add ?_)
    | (with_reducible refine l_sub ?_)
    | (with_reducible refine l_lt ?_)
    | (with_reducible refine l_gt ?_)
    | (with_reducible refine l_le ?_)
    | (with_reducible refine l_ge ?_)
    | (with_reducible refine l_eq ?_)
    | (with_reducible refine l_ne ?_)
    | (with_reducible refine l_intI ?_)
    | (with_reducible refine l_intB ?_)
    | (with_reducible refine l_abs ?_)
    | (with_reducible refine l_max ?_)
    | (with_reducible refine l_min ?_)
    | (with_reducible refine l_isN ?_)
    | (with_reducible refine l_it rfl ?_)
    | (with_reducible refine l_if0 rfl ?_)
    | dsimp only)))
theorem sem__law_pot {ns : List Int} {k : Int} {S : Sto} {R : DK} (k0 : 0 ≤ k) (k1 : k < 1000) (q : ∀ a d, S a = none → Pot (2 ^ 39) d → R (.ref a) (S.put a d)) :
    t__law_pot (dEnds R) [some (.scr ns), some (.int k), none, none] S := by
  have key : ∀ RR : DK, (∀ z : Int, RR (.int z) S) → (dIfE (dTest (dBin dLt (dVar 1) (dCall dLen (dCons (dVar 0) dNil)))) (dBin dIx (dVar 0) (dVar 1)) (dBin dAdd (dBin dMul (dC (.int 43)) (dVar 1)) (dC (.int 29)))) [some (.scr ns), some (.int k), none, none] S RR := by
    intro RR h
    trivial
    refine l_len (n := ns.length) rfl ?_
    trivial
    refine l_ite (fun c => ?_) fun c => ?_
    · have hk : k < ns.length := of_decide_eq_true c
      obtain ⟨z, _, hz⟩ := atI_int k0 hk
      trivial
      exact l_ixC hz (h z)
    · trivial
      refine l_mulL (by decide) ?_
      trivial
      exact h _
  unfold t__law_pot
  refine l_seq (l_set (key _ fun z => ?_))
  trivial
  refine l_pow (by decide) (by decide) ?_
  trivial
  refine l_pow (by decide) (by decide +kernel) ?_
  refine l_mod (by decide +kernel) ?_
  trivial
  refine l_pow (by decide) (by decide) ?_
  trivial
  generalize (decide ((10 : Int) ^ (18 : Int).toNat ≤ (if z < 0 then -z else z))) = b
  refine l_mulR (by cases b <;> decide) ?_
  trivial
  refine l_mod (by decide) ?_
  have r0 := Int.emod_nonneg z (show (2305843009213693951 : Int) ≠ 0 by decide)
  have r1 := Int.emod_lt_of_pos z (show (0 : Int) < 2305843009213693951 by decide)
  generalize z % 2305843009213693951 = r at r0 r1 ⊢
  trivial
  refine l_mulR (j := 69389) (by decide) ?_
  trivial
  refine l_mulL (by decide) ?_
  trivial
  refine l_mulR (by omega) ?_
  trivial
  refine l_mod (by decide) ?_
  trivial
  refine l_short (by show 3 ≤ 1000; decide) ?_
  intro a ha
  refine l_end0 (q a _ ha ⟨_, _, 0, rfl, ?_, ⟨Int.emod_nonneg _ (by decide), Int.emod_lt_of_pos _ (by decide)⟩, by decide, by decide⟩)
  have e : ((10 : Int) ^ (60 : Int).toNat) ^ (5 : Int).toNat = 10 ^ 300 := by decide +kernel
  rw [e]
  have y0 := Int.emod_nonneg (if z < 0 then -z else z) (show (10 : Int) ^ 300 ≠ 0 by decide +kernel)
  have y1 := Int.emod_lt_of_pos (if z < 0 then -z else z) (show (0 : Int) < 10 ^ 300 by decide +kernel)
  generalize (if z < 0 then -z else z) % 10 ^ 300 = y at y0 y1 ⊢
  cases b
  · have e0 : y * (if false = true then 1 else 0 : Int) = 0 := by rw [if_neg Bool.false_ne_true, Int.mul_zero]
    rw [e0]
    exact ⟨Int.le_refl _, by decide +kernel⟩
  · have e0 : y * (if true = true then 1 else 0 : Int) = y := by rw [if_pos rfl, Int.mul_one]
    rw [e0]
    exact ⟨y0, y1⟩
theorem sem__law_pots {ns : List Int} {m : Int} {S : Sto} {R : DK} (h63 : ns.length ≤ 63) (q : ∀ (as : List Addr) (S' : Sto), (∀ a ∈ as, PotAt S' a (2 ^ 39)) → as.Nodup → (∀ a ∈ as, S a = none) → Sub S S' → R (.lst (as.map D.ref)) S') :
    t__law_pots (dEnds R) [some (.scr ns), some (.int m), none] S := by
  unfold t__law_pots
  trivial
  refine l_len (n := ns.length) rfl ?_
  trivial
  have j0 : ∃ j : Nat, (if (if ((ns.length : Nat) : Int) < m then ((ns.length : Nat) : Int) else m) > 1 then (if ((ns.length : Nat) : Int) < m then ((ns.length : Nat) : Int) else m) else 1) = (j : Int) ∧ j ≤ 64 := by
    refine ⟨(if (if ((ns.length : Nat) : Int) < m then ((ns.length : Nat) : Int) else m) > 1 then (if ((ns.length : Nat) : Int) < m then ((ns.length : Nat) : Int) else m) else 1).toNat, ?_, ?_⟩
    · split <;> split <;> omega
    · split <;> split <;> omega
  obtain ⟨j, ej, j1⟩ := j0
  rw [ej]
  refine ⟨j, rfl, ⟨by omega, by omega⟩, ?_⟩
  intro a ha
  refine comp_ind (fun ds acc S' => ∃ (as : List Addr) (l : List Nat), ds = l.map (fun (i : Nat) => D.int ((0 : Int) + (i : Int))) ∧ (∀ i ∈ l, i < 64) ∧ acc = as.map D.ref ∧ S' a = some (.lst acc) ∧ as.length + l.length ≤ 64 ∧ (∀ b ∈ as, PotAt S' b (2 ^ 39) ∧ S b = none ∧ b ≠ a) ∧ as.Nodup ∧ Sub S S')
    ?cell ?fin ?turn _ _ _ ⟨[], List.range j, by simp, fun i hi => (by have := List.mem_range.mp hi; omega), rfl, put_same, by simp; omega, fun b hb => (by cases hb), List.nodup_nil, sub_new ha⟩
  case cell =>
    rintro ds acc S' ⟨_, _, _, _, _, h, _⟩
    exact ⟨h, True.intro⟩
  case fin =>
    rintro acc S' ⟨as, l, _, _, e, h1, h2, h3, h4, h5⟩
    subst e
    refine l_end (S' := S'.del a) (Sub.refl _) (q as _ (fun b hb => ?_) h4 (fun b hb => (h3 b hb).2.1) fun b e z => ?_)
    · obtain ⟨⟨d, y1, y2⟩, _, y3⟩ := h3 b hb
      exact ⟨d, by rw [del_ne y3]; exact y1, y2⟩
    · have n : b ≠ a := fun y => by rw [y, ha] at z; cases z
      rw [del_ne n]
      exact h5 b e z
  case turn =>
    rintro d ds acc S' ⟨as, l, el, li, e, h1, h2, h3, h4, h5⟩ k
    cases l with
    | nil => cases el
    | cons i l =>
      cases el
      refine ⟨_, rfl, ?_⟩
      trivial
      refine ⟨ns, _, rfl, by omega, by have := li i List.mem_cons_self; omega, fun b d hb hd => ?_⟩
      have n : b ≠ a := fun y => by rw [y, h1] at hb; cases hb
      have fresh : ∀ c ∈ as, c ≠ b := fun c hc y => by
        obtain ⟨⟨_, y1, _⟩, _⟩ := h3 c hc
        rw [y, hb] at y1; cases y1
      have Sb : S b = none := h5.none hb
      subst e
      refine ⟨⟨by rw [put_ne (Ne.symm n)]; exact h1, ?_⟩, k _ _ ⟨as ++ [b], l, rfl, fun i hi => li i (List.mem_cons_of_mem _ hi), by simp, put_same, by simp only [List.length_append, List.length_cons, List.length_nil] at h2 ⊢; omega, fun c hc => ?_, ?_, ?_⟩⟩
      · simp only [List.length_cons] at h2
        rw [List.length_map, sizeLine_eq]; omega
      · rcases List.mem_append.mp hc with hc | hc
        · obtain ⟨⟨d', y1, y2⟩, y3, y4⟩ := h3 c hc
          exact ⟨⟨d', by rw [put_ne y4, put_ne (fresh c hc)]; exact y1, y2⟩, y3, y4⟩
        · rw [List.mem_singleton.mp hc]
          exact ⟨⟨d, by rw [put_ne n, put_same], hd⟩, Sb, n⟩
      · rw [List.nodup_append]
        exact ⟨h4, by simp, fun x hx y hy => by rw [List.mem_singleton.mp hy]; exact fresh x hx⟩
      · intro c e z
        have n1 : c ≠ a := fun y => by rw [y, ha] at z; cases z
        have n2 : c ≠ b := fun y => by rw [y, Sb] at z; cases z
        rw [put_ne n1, put_ne n2]
        exact h5 c e z
theorem sem__law_of {a : Addr} {e : D} {xs : List D} {n : Nat} {S : Sto} {R : DK} (hp : PotAt S a (n + 1)) (ne : e ≠ .ref a) (hx : itemsD (vw S e) = some xs) (x0 : xs ≠ []) (xl : xs.length ≤ 1000) (q : ∀ x d, x ∈ xs → Pot n d → R x (S.put a d)) :
    t__law_of (dEnds R) [some (.ref a), some e] S := by
  have pos : 0 < xs.length := List.length_pos_iff.mpr x0
  unfold t__law_of
  trivial
  refine l_len (len_items hx (by omega)) ?_
  trivial
  refine ⟨a, _, n, rfl, hp, by omega, by omega, fun v d v0 v1 hd => ?_⟩
  obtain ⟨x, h1, h2⟩ := atI_int v0 v1
  exact l_ixItems (by rw [vw_put_ne ne]; exact hx) (by omega) h2 (l_end0 (q x d (List.mem_of_getElem? h1) hd))
theorem sem__law_turned {a : Addr} {e : D} {xs : List D} {n : Nat} {S : Sto} {R : DK} (hp : PotAt S a (n + 2)) (ne : e ≠ .ref a) (hx : vw S e = .lst xs) (x0 : xs ≠ []) (xl : xs.length ≤ 1000) (q : ∀ ys d, ys.Perm xs → Pot n d → R (.lst ys) (S.put a d)) :
    t__law_turned (dEnds R) [some (.ref a), some e, none, none] S := by
  have pos : 0 < xs.length := List.length_pos_iff.mpr x0
  unfold t__law_turned
  trivial
  refine l_len (n := xs.length) (by rw [hx]; rfl) ?_
  trivial
  refine ⟨a, _, n + 1, rfl, hp, by omega, by omega, fun v d v0 v1 hd => ?_⟩
  have hv : vw (S.put a d) e = .lst xs := by rw [vw_put_ne ne]; exact hx
  trivial
  refine l_slL hv ?_
  trivial
  refine l_slL hv ?_
  rw [cut_from v0 (by omega), cut_to v0]
  have pm : (xs.drop v.toNat ++ xs.take v.toNat).Perm xs := by
    have z : (xs.take v.toNat ++ xs.drop v.toNat) = xs := List.take_append_drop _ _
    exact (List.perm_append_comm).trans (List.Perm.of_eq z)
  refine l_addL rfl rfl (by rw [← List.length_append, pm.length_eq, sizeLine_eq]; omega) ?_
  generalize xs.drop v.toNat ++ xs.take v.toNat = ys at pm ⊢
  trivial
  refine ⟨a, 2, n, rfl, ⟨d, put_same, hd⟩, by decide, by decide, fun v2 d2 _ _ hd2 => ?_⟩
  rw [put_put]
  trivial
  refine l_ite (fun c => ?_) fun c => ?_
  · trivial
    exact ⟨ys, rfl, l_end0 (q _ d2 ((List.reverse_perm ys).trans pm) hd2)⟩
  · trivial
    exact l_end0 (q ys d2 pm hd2)
end DL
end
section
set_option maxHeartbeats 4000000
/-! The generator's defs keep their promises. -/
namespace DL
open PySem PySem.Spec L2 TL
local macro_rules
  | `(tactic| trivial) => `(tactic| (repeat (first
    | (with_reducible refine l_seq ?_)
    | (with_reducible refine l_next ?_)
    | (with_reducible refine l_set ?_)
    | (with_reducible refine l_expr ?_)
    | (with_reducible refine l_ret ?_)
    | (with_reducible refine l_if ?_)
    | (with_reducible refine l_par ?_)
    | (with_reducible refine l_par2 ?_)
    | (with_reducible refine l_asg ?_)
    | (with_reducible refine l_for ?_)
    | (with_reducible refine l_putIx ?_)
    | (with_reducible refine l_putF ?_)
    | ((with_reducible apply l_var); focus rfl)
    | (with_reducible refine l_c ?_)
    | (with_reducible refine l_bin ?_)
    | (with_reducible refine l_test ?_)
    | (with_reducible refine l_bl ?_)
    | (with_reducible refine l_and ?_)
    | (with_reducible refine l_or ?_)
    | (with_reducible refine l_not ?_)
    | (with_reducible refine l_andV ?_)
    | (with_reducible refine l_orV ?_)
    | (with_reducible refine l_notV ?_)
    | (with_reducible refine l_ifE ?_)
    | (with_reducible refine l_truB ?_)
    | (with_reducible refine l_tru ?_)
    | (with_reducible refine l_yes ?_)
    | (with_reducible refine l_chain ?_)
    | (with_reducible refine l_nil ?_)
    | (with_reducible refine l_cons ?_)
    | (with_reducible refine l_star ?_)
    | (with_reducible refine l_tup ?_)
    | (with_reducible refine l_lst ?_)
    | (with_reducible refine l_lstM ?_)
    | (with_reducible refine l_frz2 ?_)
    | (with_reducible refine l_call ?_)
    | (with_reducible refine l_fn ?_)
    | (with_reducible refine l_bm ?_)
    | (with_reducible refine l_rng1 ?_)
    | (with_reducible refine l_rng2 ?_)
    | (with_reducible refine l_seqI ?_)
    | (with_reducible refine l_enum ?_)
    | (with_reducible refine l_zip ?_)
    | (with_reducible refine l_lc ?_)
    | (with_reducible refine l_lcM ?_)
    | (with_reducible refine l_sl2 ?_)
    | (with_reducible refine l_noP ?_)
    | (with_reducible refine l_part ?_)
    | (with_reducible refine l_int ?_)
    | (with_reducible refine l_rev ?_)
    | (with_reducible refine l_ss ?_)
    | (with_reducible refine l_fld ?_)
    | (with_reducible refine l_prop ?_)
    | (with_reducible refine l_mk ?_)
    | (with_reducible refine l_fmt2 ?_)
    | (with_reducible refine l_joined ?_)
    | (with_reducible refine l_js0 ?_)
    | (with_reducible refine l_jsc ?_)
    | (with_reducible refine l_add ?_)
    | (with_reducible refine l_sub ?_)
    | (with_reducible refine l_lt ?_)
    | (with_reducible refine l_gt ?_)
    | (with_reducible refine l_le ?_)
    | (with_reducible refine l_ge ?_)
    | (with_reducible refine l_eq ?_)
    | (with_reducible refine l_ne ?_)
    | (with_reducible refine l_intI ?_)
    | (with_reducible refine l_intB ?_)
    | (with_reducible refine l_abs ?_)
    | (with_reducible refine l_max ?_)
    | (with_reducible refine l_min ?_)
    | (with_reducible refine l_isN ?_)
    | (with_reducible refine l_it rfl ?_)
    | (with_reducible refine l_if0 rfl ?_)
    | dsimp only)))
theorem lt_tri : ∀ a b : List Nat, a < b ∨ a = b ∨ b < a
  | [], [] => .inr (.inl rfl)
  | [], _ :: _ => .inl (List.nil_lt_cons _ _)
  | _ :: _, [] => .inr (.inr (List.nil_lt_cons _ _))
  | x :: a, y :: b => by
    rcases Nat.lt_trichotomy x y with h | h | h
    · exact .inl (List.cons_lt_cons_iff.mpr (.inl h))
    · subst h
      rcases lt_tri a b with k | k | k
      · exact .inl (List.cons_lt_cons_iff.mpr (.inr ⟨rfl, k⟩))
      · exact .inr (.inl (by rw [k]))
      · exact .inr (.inr (List.cons_lt_cons_iff.mpr (.inr ⟨rfl, k⟩)))
    · exact .inr (.inr (List.cons_lt_cons_iff.mpr (.inl h)))
theorem nmD_inj {a b : List Nat} (h : toPy (nmD a) = toPy (nmD b)) : a = b := by
  have h : PyData.str (tx a) = PyData.str (tx b) := h
  injection h with h
  exact tx_inj h
theorem lt_nm (a b : List Nat) : PySem.W.dataLt (toPy (nmD a)) (toPy (nmD b)) = decide (a < b) := by
  show PySem.W.dataLt (.str (tx a)) (.str (tx b)) = _
  rw [PySem.W.dataLt_str]
theorem sorted_nm {xs : List (List Nat)} {ys : List D} (h : Sorted (xs.map nmD) ys) : ∃ zs : List (List Nat), ys = zs.map nmD ∧ (∀ z ∈ zs, z ∈ xs) ∧ (∀ x ∈ xs, x ∈ zs) ∧ zs.Pairwise (· < ·) := by
  obtain ⟨zs, rfl, hz⟩ := pick_sub nmD (Z := xs) (M := ys) fun y hy => List.mem_map.mp (h.sub y hy)
  refine ⟨zs, rfl, hz, fun x hx => ?_, ?_⟩
  · obtain ⟨y, hy, e⟩ := h.all _ (List.mem_map.mpr ⟨x, hx, rfl⟩)
    obtain ⟨z, h1, rfl⟩ := List.mem_map.mp hy
    rw [← nmD_inj e]
    exact h1
  · have h1 := h.nd
    rw [List.map_map] at h1
    have h2 := List.pairwise_map.mp h1
    have h3 := List.pairwise_map.mp h.asc
    refine (h2.and h3).imp fun {a b} ⟨k1, k2⟩ => ?_
    rw [lt_nm, decide_eq_false_iff_not] at k2
    rcases lt_tri a b with c | c | c
    · exact c
    · subst c; exact absurd rfl k1
    · exact absurd c k2
/-- the alphabet -/
abbrev abcS : Str := "abcdefghijklmnopqrstuvwxyz"
theorem abc_tl : tl abcS = List.range' 97 26 := by decide +kernel
theorem abc_at {i : Int} (h0 : 0 ≤ i) (h1 : i < 26) : atI abcS.cps.toList i = some (97 + i.toNat) := by
  obtain ⟨k, rfl⟩ : ∃ k : Nat, i = (k : Nat) := ⟨i.toNat, (Int.toNat_of_nonneg h0).symm⟩
  refine atI_nat ?_
  rw [show abcS.cps.toList = List.range' 97 26 from abc_tl, List.getElem?_range' (by omega), Int.toNat_natCast, Nat.one_mul]
theorem abc_items : itemsD (.str abcS) = some ((List.range' 97 26).map fun c => D.str ⟨#[c]⟩) := by
  show some (abcS.cps.toList.map fun c => D.str ⟨#[c]⟩) = _
  rw [show abcS.cps.toList = List.range' 97 26 from abc_tl]
theorem join_one : ∀ cs : List Nat, tl (Txt.join "" (cs.map fun c => (⟨#[c]⟩ : Str))) = cs := by
  intro cs
  rw [join_eq, tl_join]
  have e : tl ("" : Str) = [] := by decide +kernel
  rw [e, List.map_map]
  have go : ∀ cs : List Nat, joinL [] (cs.map (tl ∘ fun c => (⟨#[c]⟩ : Str))) = cs := by
    intro cs
    induction cs with
    | nil => rfl
    | cons c cs ih =>
      cases cs with
      | nil => rfl
      | cons d cs =>
        show [c] ++ ([] ++ joinL [] ((d :: cs).map (tl ∘ fun c => (⟨#[c]⟩ : Str)))) = _
        rw [ih]
        rfl
  exact go cs
/-- a letter put into the stem -/
def nmAt (cs : List Nat) (sp at_ : Int) (k : Nat) : List Nat := cs.take sp.toNat ++ [97 + ((at_ + 5 * ((0 : Int) + (k : Int))) % 26).toNat] ++ cs.drop sp.toNat
theorem nmAt_len {cs : List Nat} {sp at_ : Int} (k : Nat) : (nmAt cs sp at_ k).length = cs.length + 1 := by
  unfold nmAt
  rw [List.length_append, List.length_append, List.length_take, List.length_drop]
  simp
  omega
theorem nmAt_ok {cs : List Nat} {sp at_ : Int} (hl : cs.length ≤ 7) (hc : ∀ c ∈ cs, 97 ≤ c ∧ c ≤ 122) (k : Nat) : NameL (nmAt cs sp at_ k) := by
  refine ⟨by rw [nmAt_len]; omega, by rw [nmAt_len]; omega, fun c h => ?_⟩
  unfold nmAt at h
  rcases List.mem_append.mp h with h | h
  · rcases List.mem_append.mp h with h | h
    · exact hc c (List.mem_of_mem_take h)
    · rw [List.mem_singleton.mp h]
      have r0 := Int.emod_nonneg (at_ + 5 * ((0 : Int) + (k : Int))) (show (26 : Int) ≠ 0 by decide)
      have r1 := Int.emod_lt_of_pos (at_ + 5 * ((0 : Int) + (k : Int))) (show (0 : Int) < 26 by decide)
      omega
  · exact hc c (List.mem_of_mem_drop h)
theorem nmAt_ne {cs : List Nat} {sp at_ : Int} : nmAt cs sp at_ 0 ≠ nmAt cs sp at_ 1 := fun h => by
  unfold nmAt at h
  have h2 := List.append_cancel_right h
  have h3 := List.append_cancel_left h2
  injection h3 with h4
  omega
theorem sem__law_names {a : Addr} {m : Int} {n : Nat} {S : Sto} {R : DK} (hp : PotAt S a (n + 10)) (m0 : 2 ≤ m) (m1 : m ≤ 8) (q : ∀ ls d, Names ls → Pot n d → R (.lst (ls.map nmD)) (S.put a d)) :
    t__law_names (dEnds R) [some (.ref a), some (.int m), none, none, none, none, none, none, none] S := by
  unfold t__law_names
  trivial
  refine ⟨rfl, ?_⟩
  trivial
  refine l_short (by decide) ?_
  trivial
  refine ⟨a, _, _, n + 9, rfl, hp, (fun z => nomatch z), rfl, (by decide), by decide, fun x d0 hx hd0 => ?_⟩
  obtain ⟨r, er, r7⟩ : ∃ r : Nat, x = .int (r : Int) ∧ r ≤ 7 := by
    have c : x = .int 0 ∨ x = .int 0 ∨ x = .int 1 ∨ x = .int 2 ∨ x = .int 3 ∨ x = .int 4 ∨ x = .int 5 ∨ x = .int 6 ∨ x = .int 7 := by simpa using hx
    rcases c with e | e | e | e | e | e | e | e | e
    · exact ⟨0, e, by decide⟩
    · exact ⟨0, e, by decide⟩
    · exact ⟨1, e, by decide⟩
    · exact ⟨2, e, by decide⟩
    · exact ⟨3, e, by decide⟩
    · exact ⟨4, e, by decide⟩
    · exact ⟨5, e, by decide⟩
    · exact ⟨6, e, by decide⟩
    · exact ⟨7, e, by decide⟩
  subst er
  trivial
  refine ⟨_, rfl, ⟨by omega, by omega⟩, ?_⟩
  intro c hc
  have hSa : S a ≠ none := by
    obtain ⟨z, h1, _⟩ := hp
    rw [h1]; exact fun z => nomatch z
  have nac : a ≠ c := fun z => by rw [← z, put_same] at hc; cases hc
  have hSc : S c = none := by rwa [put_ne (Ne.symm nac)] at hc
  -- the stem
  refine comp_ind (fun ds acc S' => ∃ (cs : List Nat) (l : List Nat), ds = l.map (fun (i : Nat) => D.int ((0 : Int) + (i : Int))) ∧ acc = cs.map (fun c => D.str ⟨#[c]⟩) ∧ S' c = some (.lst acc) ∧ cs.length + l.length ≤ 7 ∧ (∀ c ∈ cs, 97 ≤ c ∧ c ≤ 122) ∧ PotAt S' a (n + 2 + l.length) ∧ ∀ b, b ≠ a → b ≠ c → S' b = S b)
    ?cell ?fin ?turn _ _ _ ⟨[], List.range r, by simp, rfl, put_same, by simp; omega, fun c hc => (by cases hc), ?start, fun b h1 h2 => by rw [put_ne h2, put_ne h1]⟩
  case start =>
    refine ⟨d0, by rw [put_ne nac, put_same], hd0.mono ?_⟩
    rw [List.length_range]; omega
  case cell =>
    rintro ds acc S' ⟨_, _, _, _, h, _⟩
    exact ⟨h, True.intro⟩
  case turn =>
    rintro d ds acc S' ⟨cs, l, el, e, h1, h2, h3, h4, h5⟩ k
    cases l with
    | nil => cases el
    | cons i l =>
      cases el
      refine ⟨_, rfl, ?_⟩
      trivial
      rw [List.length_cons] at h2
      refine ⟨a, _, _, n + 2 + l.length, rfl, by rw [List.length_cons] at h4; exact h4, (fun z => nomatch z), abc_items, (by decide), by decide, fun x d hx hd => ?_⟩
      obtain ⟨z, hz, rfl⟩ := List.mem_map.mp hx
      rw [List.mem_range'_1] at hz
      subst e
      refine ⟨⟨by rw [put_ne (Ne.symm nac)]; exact h1, by rw [List.length_map, sizeLine_eq]; omega⟩, k _ _ ⟨cs ++ [z], l, rfl, by simp, put_same, by simp; omega, fun y hy => ?_, ⟨d, by rw [put_ne nac, put_same], hd⟩, fun b b1 b2 => by rw [put_ne b2, put_ne b1]; exact h5 b b1 b2⟩⟩
      rcases List.mem_append.mp hy with hy | hy
      · exact h3 y hy
      · rw [List.mem_singleton.mp hy]; omega
  case fin =>
    rintro acc S' ⟨cs, l, el, e, h1, h2, h3, ⟨d1, hd1, hp1⟩, h5⟩
    cases l with
    | cons _ _ => cases el
    | nil =>
      rw [store_is h5 hSc nac hd1]
      subst e
      have es : strsD (cs.map fun c => D.str ⟨#[c]⟩) = some (cs.map fun c => (⟨#[c]⟩ : Str)) := by
        have z := strsD_map (cs.map fun c => (⟨#[c]⟩ : Str))
        rw [List.map_map] at z
        exact z
      have hlen : cs.length ≤ 7 := by simpa using h2
      trivial
      refine l_join (ys := cs.map fun c => D.str ⟨#[c]⟩) rfl es ?_ ?_
      · have e0 : ∀ cs : List Nat, ((cs.map fun c => (⟨#[c]⟩ : Str)).map (·.length)).sum = cs.length := fun cs => by
          induction cs with
          | nil => rfl
          | cons c cs ih => rw [List.map_cons, List.map_cons, List.sum_cons, ih, List.length_cons]; show 1 + _ = _; omega
        rw [e0, List.length_map]
        show cs.length + cs.length * 0 ≤ _
        omega
      have ej : Txt.join "" (cs.map fun c => (⟨#[c]⟩ : Str)) = tx cs := ext_tl (by rw [join_one, tl_tx])
      rw [ej]
      trivial
      refine l_len (n := cs.length) ?_ ?_
      · show (if (tx cs).length ≤ sizeLine then some (tx cs).length else none) = _
        rw [tx_len, if_pos (by rw [sizeLine_eq]; omega)]
      trivial
      refine ⟨a, _, n + 1, rfl, ⟨d1, put_same, hp1⟩, by omega, by omega, fun sp d2 sp0 sp1 hd2 => ?_⟩
      rw [put_put]
      trivial
      refine ⟨a, _, n, rfl, ⟨d2, put_same, hd2⟩, by decide, by decide, fun at_ d3 at0 at1 hd3 => ?_⟩
      rw [put_put]
      trivial
      refine l_short (by show 2 ≤ 1000; decide) ?_
      refine ⟨_, rfl, ?_⟩
      trivial
      refine ⟨_, rfl, ⟨by omega, by omega⟩, ?_⟩
      intro c2 hc2
      refine comp_map (fun k => nmD (nmAt cs sp at_ k)) (List.range m.toNat) (fun (i : Nat) => D.int ((0 : Int) + (i : Int))) ?chk (by rw [List.length_range]; omega) ?one ?fin
      case chk => exact fun _ => True.intro
      case one =>
        intro k hk S3 RD _ hR
        refine ⟨_, rfl, ?_⟩
        have hl : (tx cs).length ≤ sizeLine := by rw [tx_len, sizeLine_eq]; omega
        have hk8 := List.mem_range.mp hk
        trivial
        refine l_slS hl ?_
        rw [cut_toS sp0]
        trivial
        refine l_mulL (by decide) ?_
        trivial
        refine l_mod (by decide) ?_
        have r0 := Int.emod_nonneg (at_ + 5 * ((0 : Int) + (k : Int))) (show (26 : Int) ≠ 0 by decide)
        have r1 := Int.emod_lt_of_pos (at_ + 5 * ((0 : Int) + (k : Int))) (show (0 : Int) < 26 by decide)
        refine l_ixS (by decide +kernel) (abc_at r0 r1) ?_
        have e1 : (⟨#[97 + ((at_ + 5 * ((0 : Int) + (k : Int))) % 26).toNat]⟩ : Str) = tx [97 + ((at_ + 5 * ((0 : Int) + (k : Int))) % 26).toNat] := rfl
        rw [e1]
        refine l_addS ?_ ?_
        · rw [tx_len, tx_len, List.length_take, sizeLine_eq]
          simp; omega
        rw [tx_app]
        trivial
        refine l_slS hl ?_
        rw [cut_fromS sp0]
        refine l_addS ?_ ?_
        · rw [tx_len, tx_len, List.length_append, List.length_take, List.length_drop, sizeLine_eq]
          simp; omega
        rw [tx_app]
        exact hR
      case fin =>
        rw [del_put hc2]
        trivial
        have ek : (List.range m.toNat).map (fun k => nmD (nmAt cs sp at_ k)) = ((List.range m.toNat).map fun k => nmAt cs sp at_ k).map nmD := by rw [List.map_map]; rfl
        rw [ek]
        have len : ((List.range m.toNat).map fun k => nmAt cs sp at_ k).length = m.toNat := by rw [List.length_map, List.length_range]
        refine ⟨_, true, rfl, ⟨by rw [List.length_map, len]; omega, fun d hd => ?_, fun d hd e he => ?_⟩, fun ys hys => ?_⟩
        · obtain ⟨z, _, rfl⟩ := List.mem_map.mp hd
          exact ⟨rfl, rfl⟩
        · obtain ⟨z, _, rfl⟩ := List.mem_map.mp hd
          obtain ⟨y, _, rfl⟩ := List.mem_map.mp he
          rfl
        · obtain ⟨zs, rfl, z1, z2, z3⟩ := sorted_nm hys
          refine l_end0 (q zs d3 ⟨fun l hl => ?_, z3, ?_, ?_⟩ hd3)
          · obtain ⟨k, _, rfl⟩ := List.mem_map.mp (z1 l hl)
            exact nmAt_ok hlen h3 k
          · have i0 := z2 _ (List.mem_map.mpr ⟨0, List.mem_range.mpr (by omega), rfl⟩)
            have i1 := z2 _ (List.mem_map.mpr ⟨1, List.mem_range.mpr (by omega), rfl⟩)
            match zs, i0, i1 with
            | [], i0, _ => cases i0
            | [z], i0, i1 => exact absurd ((List.mem_singleton.mp i0).trans (List.mem_singleton.mp i1).symm) nmAt_ne
            | _ :: _ :: _, _, _ => simp
          · have nd : zs.Nodup := z3.imp fun {a b} h e => by rw [e] at h; exact absurd h (List.lt_irrefl b)
            have := nodup_le zs _ nd z1
            rw [len] at this
            omega
end DL
end
section
set_option maxHeartbeats 4000000
/-! The checks of a net keep their promises. -/
namespace DL
open PySem PySem.Spec L2 TL
local macro_rules
  | `(tactic| trivial) => `(tactic| (repeat (first
    | (with_reducible refine l_seq ?_)
    | (with_reducible refine l_next ?_)
    | (with_reducible refine l_set ?_)
    | (with_reducible refine l_expr ?_)
    | (with_reducible refine l_ret ?_)
    | (with_reducible refine l_if ?_)
    | (with_reducible refine l_par ?_)
    | (with_reducible refine l_par2 ?_)
    | (with_reducible refine l_asg ?_)
    | (with_reducible refine l_for ?_)
    | (with_reducible refine l_putIx ?_)
    | (with_reducible refine l_putF ?_)
    | ((with_reducible apply l_var); focus rfl)
    | (with_reducible refine l_c ?_)
    | (with_reducible refine l_bin ?_)
    | (with_reducible refine l_test ?_)
    | (with_reducible refine l_bl ?_)
    | (with_reducible refine l_and ?_)
    | (with_reducible refine l_or ?_)
    | (with_reducible refine l_not ?_)
    | (with_reducible refine l_andV ?_)
    | (with_reducible refine l_orV ?_)
    | (with_reducible refine l_notV ?_)
    | (with_reducible refine l_ifE ?_)
    | (with_reducible refine l_truB ?_)
    | (with_reducible refine l_tru ?_)
    | (with_reducible refine l_yes ?_)
    | (with_reducible refine l_chain ?_)
    | (with_reducible refine l_nil ?_)
    | (with_reducible refine l_cons ?_)
    | (with_reducible refine l_star ?_)
    | (with_reducible refine l_tup ?_)
    | (with_reducible refine l_lst ?_)
    | (with_reducible refine l_lstM ?_)
    | (with_reducible refine l_frz2 ?_)
    | (with_reducible refine l_call ?_)
    | (with_reducible refine l_fn ?_)
    | (with_reducible refine l_bm ?_)
    | (with_reducible refine l_rng1 ?_)
    | (with_reducible refine l_rng2 ?_)
    | (with_reducible refine l_seqI ?_)
    | (with_reducible refine l_enum ?_)
    | (with_reducible refine l_zip ?_)
    | (with_reducible refine l_lc ?_)
    | (with_reducible refine l_lcM ?_)
    | (with_reducible refine l_sl2 ?_)
    | (with_reducible refine l_noP ?_)
    | (with_reducible refine l_part ?_)
    | (with_reducible refine l_int ?_)
    | (with_reducible refine l_rev ?_)
    | (with_reducible refine l_ss ?_)
    | (with_reducible refine l_fld ?_)
    | (with_reducible refine l_prop ?_)
    | (with_reducible refine l_mk ?_)
    | (with_reducible refine l_fmt2 ?_)
    | (with_reducible refine l_joined ?_)
    | (with_reducible refine l_js0 ?_)
    | (with_reducible refine l_jsc ?_)
    | (with_reducible refine l_add ?_)
    | (with_reducible refine l_sub ?_)
    | (with_reducible refine l_lt ?_)
    | (with_reducible refine l_gt ?_)
    | (with_reducible refine l_le ?_)
    | (with_reducible refine l_ge ?_)
    | (with_reducible refine l_eq ?_)
    | (with_reducible refine l_ne ?_)
    | (with_reducible refine l_intI ?_)
    | (with_reducible refine l_intB ?_)
    | (with_reducible refine l_abs ?_)
    | (with_reducible refine l_max ?_)
    | (with_reducible refine l_min ?_)
    | (with_reducible refine l_isN ?_)
    | (with_reducible refine l_it rfl ?_)
    | (with_reducible refine l_if0 rfl ?_)
    | dsimp only)))
/-! ### names and pairs as data -/
section
variable {S : Sto} {R : DK} {a b : Nm} {ls : List Nm}
theorem str_eqv (x y : Str) : PyData.eqv (.str x) (.str y) = decide (x = y) := by
  unfold PyData.eqv
  by_cases h : x = y
  · rw [h, decide_eq_true rfl]; first | rfl | simp
  · rw [decide_eq_false h]; simpa using h
theorem nm_eqv : PyData.eqv (toPy (nmD a)) (toPy (nmD b)) = decide (a = b) := by
  refine (str_eqv (tx a) (tx b)).trans ?_
  by_cases h : a = b
  · rw [h]; simp
  · rw [decide_eq_false h, decide_eq_false (fun e => h (tx_inj e))]
theorem isDat_map {α : Type} (f : α → D) (xs : List α) (h : ∀ x ∈ xs, datk 7 (f x) = true) : isDat (.tup (xs.map f)) = true := by
  show (xs.map f).all (datk 7) = true
  rw [List.all_eq_true]
  intro y hy
  obtain ⟨x, hx, rfl⟩ := List.mem_map.mp hy
  exact h x hx
theorem isDat_rt : isDat (rtD ls) = true := isDat_map _ _ fun _ _ => rfl
theorem isDat_ln {ks : List Lk} : isDat (lnD ks) = true := isDat_map _ _ fun _ _ => rfl
theorem in_rt : inD S (nmD a) (rtD ls) = some (decide (a ∈ ls)) := by
  show (if isDat (nmD a) && isDat (rtD ls) then some ((toPyL (ls.map nmD)).any fun y => PyData.eqv y (toPy (nmD a))) else none) = _
  rw [isDat_rt]
  have e : isDat (nmD a) = true := rfl
  rw [e, Bool.and_self, if_pos rfl, toPyL_map, List.map_map, List.any_map]
  congr 1
  rw [Bool.eq_iff_iff, List.any_eq_true, decide_eq_true_iff]
  constructor
  · rintro ⟨x, hx, h⟩
    have h : PyData.eqv (toPy (nmD x)) (toPy (nmD a)) = true := h
    rw [nm_eqv] at h
    rw [← of_decide_eq_true h]; exact hx
  · intro h
    exact ⟨a, h, by show PyData.eqv (toPy (nmD a)) (toPy (nmD a)) = true; rw [nm_eqv]; exact decide_eq_true rfl⟩
theorem zip_tail {α : Type} {r : α → α → Prop} : ∀ {xs : List α}, xs.Pairwise r → ∀ p ∈ xs.zip xs.tail, r p.1 p.2
  | [], _, p, h => by cases h
  | [x], _, p, h => by cases h
  | x :: y :: xs, hp, p, h => by
    rw [List.tail_cons, List.zip_cons_cons] at h
    rcases List.mem_cons.mp h with e | h
    · rw [e]; exact (List.pairwise_cons.mp hp).1 y List.mem_cons_self
    · exact zip_tail (List.pairwise_cons.mp hp).2 p h
theorem asc_of {α : Type} {f : α → D} {r : α → α → Prop} {xs : List α} (hp : xs.Pairwise r) (h : ∀ x y, r x y → ((∀ S, vw S (f x) = f x) ∧ ∀ S, vw S (f y) = f y) ∧ ordD (f x) (f y) = true ∧ PySem.W.dataLt (toPy (f x)) (toPy (f y)) = true) : Asc (xs.map f) := by
  have h2 : (xs.map f).Pairwise fun x y => ((∀ S, vw S x = x) ∧ ∀ S, vw S y = y) ∧ ordD x y = true ∧ PySem.W.dataLt (toPy x) (toPy y) = true := List.pairwise_map.mpr (hp.imp fun {x y} q => h x y q)
  exact zip_tail h2
theorem asc_names (h : ls.Pairwise (· < ·)) : Asc (ls.map nmD) := asc_of h fun x y q => ⟨⟨fun _ => rfl, fun _ => rfl⟩, rfl, by rw [lt_nm]; exact decide_eq_true q⟩
theorem alike_nm : PySem.W.alike (toPy (nmD a)) (toPy (nmD b)) = true := rfl
theorem lt_pr {p q : Nm × Nm} (h : PLt p q) : PySem.W.dataLt (toPy (prD p)) (toPy (prD q)) = true := by
  show PySem.W.dataLt (.tuple [toPy (nmD p.1), toPy (nmD p.2)]) (.tuple [toPy (nmD q.1), toPy (nmD q.2)]) = true
  rw [PySem.W.dataLt_pair rfl rfl, nm_eqv, nm_eqv, lt_nm, lt_nm]
  rcases h with h | ⟨h1, h2⟩
  · have n : p.1 ≠ q.1 := fun e => by rw [e] at h; exact List.lt_irrefl _ h
    rw [decide_eq_false n, if_neg (by decide)]
    exact decide_eq_true h
  · have n : p.2 ≠ q.2 := fun e => by rw [e] at h2; exact List.lt_irrefl _ h2
    rw [decide_eq_true h1, if_pos rfl, decide_eq_false n, if_neg (by decide)]
    exact decide_eq_true h2
theorem asc_pairs {ks : List Lk} (h : ks.Pairwise fun x y => PLt (x.a, x.b) (y.a, y.b)) : Asc (ks.map fun l => prD (l.a, l.b)) := asc_of h fun x y q => ⟨⟨fun _ => rfl, fun _ => rfl⟩, rfl, lt_pr q⟩
theorem l_allT {α : Type} {d : D} {xs : List α} (h : vw S d = .lst (xs.map fun _ => .bl true)) (q : R (.bl true) S) : dAll [d] S R := by
  have e : (xs.map fun _ => D.bl true) = (xs.map fun _ => true).map D.bl := by rw [List.map_map]; rfl
  refine l_all h (bs := xs.map fun _ => true) (by rw [e]; exact blsD_map _) ?_
  have z : (xs.map fun _ => true).all id = true := by simp
  rw [z]; exact q
end
/-! ### the checks -/
section
variable {S : Sto} {R : DK}
theorem sem_is_tuple_to {xs : List D} {m : Int} (q : R (.bl (decide ((xs.length : Int) ≤ m))) S) : t_is_tuple_to (dEnds R) [some (.tup xs), some (.int m)] S := by
  unfold t_is_tuple_to
  trivial
  refine l_isi (ty := "tuple") rfl (by decide) ?_
  refine ⟨true, rfl, ?_⟩
  trivial
  refine l_len (n := xs.length) rfl ?_
  trivial
  exact l_end0 q
theorem sem_is_tuple_of {xs : List D} {m : Int} (q : R (.bl (decide ((xs.length : Int) = m))) S) : t_is_tuple_of (dEnds R) [some (.tup xs), some (.int m)] S := by
  unfold t_is_tuple_of
  trivial
  refine l_isi (ty := "tuple") rfl (by decide) ?_
  refine ⟨true, rfl, ?_⟩
  trivial
  refine l_len (n := xs.length) rfl ?_
  trivial
  exact l_end0 q
theorem sem_is_one_of {l : Nm} {ls : List Nm} (q : R (.bl (decide (l ∈ ls))) S) : t_is_one_of (dEnds R) [some (nmD l), some (rtD ls)] S := by
  unfold t_is_one_of
  trivial
  refine l_isi (ty := "str") rfl (by decide) ?_
  refine ⟨true, rfl, ?_⟩
  trivial
  exact ⟨_, in_rt, l_end0 q⟩
theorem sem_is_integer {i : Int} (q : R (.bl true) S) : t_is_integer (dEnds R) [some (.int i)] S := by
  unfold t_is_integer
  trivial
  refine l_isi (ty := "int") rfl (by decide) ?_
  refine ⟨true, rfl, ?_⟩
  trivial
  refine l_isi (ty := "int") rfl (by decide) ?_
  exact ⟨false, rfl, l_end0 q⟩
theorem sem_is_from {i j : Int} (q : R (.bl (decide (j ≤ i))) S) : t_is_from (dEnds R) [some (.int i), some (.int j)] S := by
  unfold t_is_from
  trivial
  refine ⟨i, rfl, true, rfl, ?_⟩
  trivial
  exact l_end0 q
theorem sem_is_name {l : Nm} (h : NameL l) (q : R (.bl true) S) : t_is_name (dEnds R) [some (nmD l), none] S := by
  obtain ⟨h1, h2, h3⟩ := h
  have hl : lenD (nmD l) = some l.length := by
    show (if (tx l).length ≤ sizeLine then some (tx l).length else none) = _
    rw [tx_len, if_pos (by rw [sizeLine_eq]; omega)]
  unfold t_is_name
  trivial
  refine l_isi (ty := "str") rfl (by decide) ?_
  refine ⟨true, rfl, ?_⟩
  refine l_if0 rfl ?_
  trivial
  refine l_len (n := l.length) hl ?_
  trivial
  refine l_it (decide_eq_true (by omega)) ?_
  trivial
  refine l_if0 (by rw [decide_eq_true (show (l.length : Int) ≤ 8 by omega)]; rfl) ?_
  trivial
  refine ⟨l.map fun c => .str ⟨#[c]⟩, rfl, ?_⟩
  intro a ha
  refine comp_map (fun _ => .bl true) l (fun c => D.str ⟨#[c]⟩) ?chk (by omega) ?one ?fin
  case chk => exact fun _ => rfl
  case one =>
    intro c hc S3 RD _ hR
    refine ⟨_, rfl, ?_⟩
    trivial
    refine ⟨true, ?_, hR⟩
    show some (inStr ⟨#[c]⟩ abcS) = some true
    rw [(inStr_one (x := ⟨#[c]⟩) (c := c) rfl).2]
    have := h3 c hc
    rw [decide_eq_true]
    show c ∈ tl abcS
    rw [abc_tl, List.mem_range'_1]
    omega
  case fin =>
    rw [del_put ha]
    exact l_allT (xs := l) rfl (l_end0 q)
theorem sem_are_ascending {d : D} {xs : List D} (hd : vw S d = .tup xs ∨ vw S d = .lst xs) (hl : xs.length ≤ 1000) (h : Asc xs) (q : R (.bl true) S) : t_are_ascending (dEnds R) [some d, none, none] S := by
  have key : ∀ e : D, seqD (vw S d) = some xs → (e = .tup (xs.drop 1) ∨ e = .lst (xs.drop 1)) → (∀ (ti : DTI), (∀ RI : List D → (Sto → Prop) → Sto → Prop, RI (zipD xs (xs.drop 1)) (fun S2 => vw S2 d = vw S d ∧ vw S2 e = vw S e) S → ti [some d, none, none] S RI) → dRet (dCall dAll (dCons (dLc ti (.tp [.nm 1, .nm 2]) dYes (dBin dLt (dVar 1) (dVar 2)) [1, 2]) dNil)) (dEnds R) [some d, none, none] S) := by
    intro e _ he ti hti
    trivial
    refine hti _ ?_
    intro a ha
    have er : ∀ S', vw S' e = e := fun S' => by rcases he with r | r <;> (rw [r]; rfl)
    refine comp_map (fun _ => .bl true) (xs.zip (xs.drop 1)) (fun p => D.tup [p.1, p.2]) ?chk ?len ?one ?fin
    case len => rw [List.length_zip]; omega
    case chk =>
      intro acc
      refine ⟨vw_new ha ?_, by rw [er, er]⟩
      rcases hd with r | r <;> (rw [r]; exact fun z => nomatch z)
    case one =>
      intro p hp S3 RD _ hR
      obtain ⟨⟨v1, v2⟩, o, lt⟩ := h p (by rw [← List.drop_one]; exact hp)
      refine ⟨_, rfl, ?_⟩
      trivial
      refine ⟨by rw [v1, v2]; exact o, ?_⟩
      rw [v1, v2, lt]
      exact hR
    case fin =>
      rw [del_put ha]
      exact l_allT (xs := xs.zip (xs.drop 1)) rfl (l_end0 q)
  unfold t_are_ascending
  rcases hd with r | r
  · refine key (.tup (xs.drop 1)) (by rw [r]; rfl) (.inl rfl) _ fun RI h => ?_
    trivial
    unfold slK
    rw [r]
    refine ⟨_, _, xs, xs.drop 1, rfl, by rw [r]; rfl, ?_, ?_⟩
    · show some (cutD xs (some 1) none) = _
      by_cases z : xs.length = 0
      · rw [List.eq_nil_of_length_eq_zero z]; rfl
      · rw [cut_from (by decide) (by omega)]; rfl
    · have ec : cutD xs (some 1) none = xs.drop 1 := by
        by_cases z : xs.length = 0
        · rw [List.eq_nil_of_length_eq_zero z]; rfl
        · rw [cut_from (by decide) (by omega)]; rfl
      rw [ec]
      exact h
  · refine key (.lst (xs.drop 1)) (by rw [r]; rfl) (.inr rfl) _ fun RI h => ?_
    trivial
    unfold slK
    rw [r]
    have ec : cutD xs (some 1) none = xs.drop 1 := by
      by_cases z : xs.length = 0
      · rw [List.eq_nil_of_length_eq_zero z]; rfl
      · rw [cut_from (by decide) (by omega)]; rfl
    refine ⟨_, _, xs, xs.drop 1, rfl, by rw [r]; rfl, ?_, ?_⟩
    · show some (cutD xs (some 1) none) = _
      rw [ec]
    · rw [ec]
      exact h
end
end DL
end
section
set_option maxHeartbeats 4000000
/-! A net made: promises kept. -/
namespace DL
open PySem PySem.Spec L2 TL
local macro_rules
  | `(tactic| trivial) => `(tactic| (repeat (first
    | (with_reducible refine l_seq ?_)
    | (with_reducible refine l_next ?_)
    | (with_reducible refine l_set ?_)
    | (with_reducible refine l_expr ?_)
    | (with_reducible refine l_ret ?_)
    | (with_reducible refine l_if ?_)
    | (with_reducible refine l_par ?_)
    | (with_reducible refine l_par2 ?_)
    | (with_reducible refine l_asg ?_)
    | (with_reducible refine l_for ?_)
    | (with_reducible refine l_putIx ?_)
    | (with_reducible refine l_putF ?_)
    | ((with_reducible apply l_var); focus rfl)
    | (with_reducible refine l_c ?_)
    | (with_reducible refine l_bin ?_)
    | (with_reducible refine l_test ?_)
    | (with_reducible refine l_bl ?_)
    | (with_reducible refine l_and ?_)
    | (with_reducible refine l_or ?_)
    | (with_reducible refine l_not ?_)
    | (with_reducible refine l_andV ?_)
    | (with_reducible refine l_orV ?_)
    | (with_reducible refine l_notV ?_)
    | (with_reducible refine l_ifE ?_)
    | (with_reducible refine l_truB ?_)
    | (with_reducible refine l_tru ?_)
    | (with_reducible refine l_yes ?_)
    | (with_reducible refine l_chain ?_)
    | (with_reducible refine l_nil ?_)
    | (with_reducible refine l_cons ?_)
    | (with_reducible refine l_star ?_)
    | (with_reducible refine l_tup ?_)
    | (with_reducible refine l_lst ?_)
    | (with_reducible refine l_lstM ?_)
    | (with_reducible refine l_frz2 ?_)
    | (with_reducible refine l_call ?_)
    | (with_reducible refine l_fn ?_)
    | (with_reducible refine l_bm ?_)
    | (with_reducible refine l_rng1 ?_)
    | (with_reducible refine l_rng2 ?_)
    | (with_reducible refine l_seqI ?_)
    | (with_reducible refine l_enum ?_)
    | (with_reducible refine l_zip ?_)
    | (with_reducible refine l_lc ?_)
    | (with_reducible refine l_lcM ?_)
    | (with_reducible refine l_sl2 ?_)
    | (with_reducible refine l_noP ?_)
    | (with_reducible refine l_part ?_)
    | (with_reducible refine l_int ?_)
    | (with_reducible refine l_rev ?_)
    | (with_reducible refine l_ss ?_)
    | (with_reducible refine l_fld ?_)
    | (with_reducible refine l_prop ?_)
    | (with_reducible refine l_mk ?_)
    | (with_reducible refine l_fmt2 ?_)
    | (with_reducible refine l_joined ?_)
    | (with_reducible refine l_js0 ?_)
    | (with_reducible refine l_jsc ?_)
    | (with_reducible refine l_add ?_)
    | (with_reducible refine l_sub ?_)
    | (with_reducible refine l_lt ?_)
    | (with_reducible refine l_gt ?_)
    | (with_reducible refine l_le ?_)
    | (with_reducible refine l_ge ?_)
    | (with_reducible refine l_eq ?_)
    | (with_reducible refine l_ne ?_)
    | (with_reducible refine l_intI ?_)
    | (with_reducible refine l_intB ?_)
    | (with_reducible refine l_abs ?_)
    | (with_reducible refine l_max ?_)
    | (with_reducible refine l_min ?_)
    | (with_reducible refine l_isN ?_)
    | (with_reducible refine l_it rfl ?_)
    | (with_reducible refine l_if0 rfl ?_)
    | dsimp only)))
section
variable {S : Sto} {R : DK}
theorem sem_is_ascending_of {xs ls : List Nm} (hs : ∀ x ∈ xs, x ∈ ls) (hp : xs.Pairwise (· < ·)) (hl : xs.length ≤ 100) (q : R (.bl true) S) : t_is_ascending_of (dEnds R) [some (rtD xs), some (rtD ls), none] S := by
  unfold t_is_ascending_of
  trivial
  refine l_isi (ty := "tuple") rfl (by decide) ?_
  refine ⟨true, rfl, ?_⟩
  trivial
  refine ⟨xs.map nmD, rfl, ?_⟩
  intro a ha
  refine comp_map (fun _ => .bl true) xs nmD ?chk (by omega) ?one ?fin
  case chk => exact fun _ => rfl
  case one =>
    intro x hx S3 RD _ hR
    refine ⟨_, rfl, ?_⟩
    trivial
    exact ⟨x, ls, rfl, by rw [decide_eq_true (hs x hx)]; exact hR⟩
  case fin =>
    rw [del_put ha]
    trivial
    refine l_allT (xs := xs) rfl ?_
    refine ⟨true, rfl, ?_⟩
    trivial
    exact ⟨_, _, rfl, .inl rfl, by rw [List.length_map]; omega, asc_names hp, l_end0 q⟩
theorem sem_are_routers {ls : List Nm} (h : Names ls) (q : R (.bl true) S) : t_are_routers (dEnds R) [some (rtD ls), none] S := by
  obtain ⟨h1, h2, h3, h4⟩ := h
  unfold t_are_routers
  trivial
  refine ⟨_, _, rfl, ?_⟩
  rw [List.length_map, decide_eq_true (show (ls.length : Int) ≤ 8 by omega)]
  refine ⟨true, rfl, ?_⟩
  trivial
  refine l_len (n := ls.length) (by show some (ls.map nmD).length = _; rw [List.length_map]) ?_
  trivial
  refine l_if0 (decide_eq_false (by omega)) ?_
  trivial
  refine ⟨ls.map nmD, rfl, ?_⟩
  intro a ha
  refine comp_map (fun _ => .bl true) ls nmD ?chk (by omega) ?one ?fin
  case chk => exact fun _ => rfl
  case one =>
    intro x hx S3 RD _ hR
    refine ⟨_, rfl, ?_⟩
    trivial
    exact ⟨x, rfl, h1 x hx, hR⟩
  case fin =>
    rw [del_put ha]
    trivial
    refine l_allT (xs := ls) rfl ?_
    refine ⟨true, rfl, ?_⟩
    trivial
    exact ⟨_, _, rfl, .inl rfl, by rw [List.length_map]; omega, asc_names h2, l_end0 q⟩
theorem sem_is_link {l : Lk} {ls : List Nm} (h : LinkOf ls l) (q : R (.bl true) S) : t_is_link (dEnds R) [some (lkD l), some (rtD ls)] S := by
  obtain ⟨⟨p1, p2, p3⟩, t1, k1⟩ := h
  have ht : (1 : Int) ≤ l.t := t1.1
  have hk : (1 : Int) ≤ l.k := k1.1
  unfold t_is_link
  trivial
  refine ⟨_, _, rfl, ?_⟩
  refine ⟨true, rfl, ?_⟩
  trivial
  refine l_slT ?_
  trivial
  refine ⟨[l.a, l.b], ls, rfl, ?_, ?_, (by show 2 ≤ 100; decide), ?_⟩
  · intro x hx
    rcases List.mem_cons.mp hx with e | hx
    · rw [e]; exact p1
    · rw [List.mem_singleton.mp hx]; exact p2
  · exact List.pairwise_cons.mpr ⟨fun y hy => by rw [List.mem_singleton.mp hy]; exact p3, List.pairwise_singleton _ _⟩
  refine ⟨true, rfl, ?_⟩
  trivial
  refine l_ixT (z := .int l.t) rfl ?_
  trivial
  refine ⟨_, _, rfl, ?_⟩
  refine ⟨_, rfl, ?_⟩
  refine l_it (decide_eq_true ht) ?_
  trivial
  refine l_ixT (z := .int l.k) rfl ?_
  trivial
  refine ⟨_, _, rfl, ?_⟩
  rw [decide_eq_true hk]
  exact l_end0 q
theorem sem_are_links {ks : List Lk} {ls : List Nm} (h : Links ls ks) (q : R (.bl true) S) : t_are_links (dEnds R) [some (lnD ks), some (rtD ls), none] S := by
  obtain ⟨h1, h2, h3⟩ := h
  unfold t_are_links
  trivial
  refine ⟨_, _, rfl, ?_⟩
  rw [List.length_map, decide_eq_true (show (ks.length : Int) ≤ 16 by omega)]
  refine ⟨true, rfl, ?_⟩
  trivial
  refine ⟨ks.map lkD, rfl, ?_⟩
  intro a ha
  refine comp_map (fun _ => .bl true) ks lkD ?chk (by omega) ?one ?fin
  case chk => exact fun _ => rfl
  case one =>
    intro x hx S3 RD _ hR
    refine ⟨_, rfl, ?_⟩
    trivial
    exact ⟨x, ls, rfl, h1 x hx, hR⟩
  case fin =>
    rw [del_put ha]
    trivial
    refine l_allT (xs := ks) rfl ?_
    refine ⟨true, rfl, ?_⟩
    trivial
    refine ⟨ks.map lkD, rfl, ?_⟩
    intro b hb
    refine comp_map (fun l => prD (l.a, l.b)) ks lkD ?chk2 (by omega) ?one2 ?fin2
    case chk2 => exact fun _ => rfl
    case one2 =>
      intro x hx S3 RD _ hR
      refine ⟨_, rfl, ?_⟩
      trivial
      exact l_slT hR
    case fin2 =>
      rw [del_put hb]
      exact ⟨_, _, rfl, .inr rfl, by rw [List.length_map]; omega, asc_pairs h2, l_end0 q⟩
theorem sem_Net___init__ {C a : Addr} {ls : List Nm} {ks : List Lk} (h : Names ls) (k : Links ls ks) (hS : S a = some (.obj C [])) (q : R .non (S.put a (netD C ls ks))) : t_Net___init__ C (dEnds R) [some (.ref a), some (rtD ls), some (lnD ks)] S := by
  unfold t_Net___init__
  trivial
  refine ⟨ls, rfl, h, ?_⟩
  refine ⟨true, rfl, ?_⟩
  trivial
  refine ⟨ks, ls, rfl, k, ?_⟩
  refine ⟨true, rfl, ?_⟩
  trivial
  refine ⟨a, [], rfl, hS, by decide, ?_⟩
  trivial
  refine ⟨a, _, rfl, put_same, (by show 1 < 1000; decide), ?_⟩
  rw [put_put]
  exact l_endN0 q
theorem sem_Net_routers {C : Addr} {d : D} {ls : List Nm} {ks : List Lk} (hd : vw S d = netD C ls ks) (q : R (rtD ls) S) : t_Net_routers C (dEnds R) [some d] S := by
  unfold t_Net_routers
  trivial
  refine ⟨_, rtD ls, by rw [hd]; exact if_pos rfl, rfl, l_end0 q⟩
theorem sem_Net_links {C : Addr} {d : D} {ls : List Nm} {ks : List Lk} (hd : vw S d = netD C ls ks) (q : R (lnD ks) S) : t_Net_links C (dEnds R) [some d] S := by
  unfold t_Net_links
  trivial
  refine ⟨_, lnD ks, by rw [hd]; exact if_pos rfl, rfl, l_end0 q⟩
theorem plain_eqv {d : D} (h : isDat d = true) : PyData.eqv (toPy d) (toPy d) = true := PySem.SeqAt.eqv_refl_plain _ (isDat_plain h)
theorem sem_Net___eq__ {C : Addr} {ls : List Nm} {ks : List Lk} (q : R (.bl true) S) : t_Net___eq__ C (dEnds R) [some (netD C ls ks), some (netD C ls ks)] S := by
  unfold t_Net___eq__
  trivial
  refine ⟨_, _, rfl, if_pos rfl, ?_⟩
  refine ⟨true, rfl, ?_⟩
  trivial
  refine ⟨_, rtD ls, if_pos rfl, rfl, ?_⟩
  trivial
  refine ⟨_, rtD ls, if_pos rfl, rfl, ?_⟩
  refine ⟨⟨isDat_rt, isDat_rt⟩, ?_⟩
  refine ⟨true, by show D.bl (PyData.eqv (toPy (rtD ls)) (toPy (rtD ls))) = _; rw [plain_eqv isDat_rt], ?_⟩
  trivial
  refine ⟨_, lnD ks, if_pos rfl, rfl, ?_⟩
  trivial
  refine ⟨_, lnD ks, if_pos rfl, rfl, ?_⟩
  refine ⟨⟨isDat_ln, isDat_ln⟩, ?_⟩
  refine l_end0 ?_
  show R (D.bl (PyData.eqv (toPy (lnD ks)) (toPy (lnD ks)))) S
  rw [plain_eqv isDat_ln]; exact q
theorem sem__law_made {C : Addr} {ls : List Nm} {ks : List Lk} (h : Names ls) (k : Links ls ks) (q : R (netD C ls ks) S) : t__law_made C (dEnds R) [some (wD ls ks)] S := by
  unfold t__law_made
  trivial
  refine l_ixT (z := rtD ls) rfl ?_
  trivial
  refine l_ixT (z := lnD ks) rfl ?_
  trivial
  intro x hx
  refine ⟨x, ls, ks, rfl, h, k, put_same, rfl, _, put_same, ?_⟩
  rw [put_put, del_put hx]
  exact l_end0 q
end
end DL
end
section
set_option maxHeartbeats 4000000
/-! Texts of nets: promises kept. -/
namespace DL
open PySem PySem.Spec L2 TL
local macro_rules
  | `(tactic| trivial) => `(tactic| (repeat (first
    | (with_reducible refine l_seq ?_)
    | (with_reducible refine l_next ?_)
    | (with_reducible refine l_set ?_)
    | (with_reducible refine l_expr ?_)
    | (with_reducible refine l_ret ?_)
    | (with_reducible refine l_if ?_)
    | (with_reducible refine l_par ?_)
    | (with_reducible refine l_par2 ?_)
    | (with_reducible refine l_asg ?_)
    | (with_reducible refine l_for ?_)
    | (with_reducible refine l_putIx ?_)
    | (with_reducible refine l_putF ?_)
    | ((with_reducible apply l_var); focus rfl)
    | (with_reducible refine l_c ?_)
    | (with_reducible refine l_bin ?_)
    | (with_reducible refine l_test ?_)
    | (with_reducible refine l_bl ?_)
    | (with_reducible refine l_and ?_)
    | (with_reducible refine l_or ?_)
    | (with_reducible refine l_not ?_)
    | (with_reducible refine l_andV ?_)
    | (with_reducible refine l_orV ?_)
    | (with_reducible refine l_notV ?_)
    | (with_reducible refine l_ifE ?_)
    | (with_reducible refine l_truB ?_)
    | (with_reducible refine l_tru ?_)
    | (with_reducible refine l_yes ?_)
    | (with_reducible refine l_chain ?_)
    | (with_reducible refine l_nil ?_)
    | (with_reducible refine l_cons ?_)
    | (with_reducible refine l_star ?_)
    | (with_reducible refine l_tup ?_)
    | (with_reducible refine l_lst ?_)
    | (with_reducible refine l_lstM ?_)
    | (with_reducible refine l_frz2 ?_)
    | (with_reducible refine l_call ?_)
    | (with_reducible refine l_fn ?_)
    | (with_reducible refine l_bm ?_)
    | (with_reducible refine l_rng1 ?_)
    | (with_reducible refine l_rng2 ?_)
    | (with_reducible refine l_seqI ?_)
    | (with_reducible refine l_enum ?_)
    | (with_reducible refine l_zip ?_)
    | (with_reducible refine l_lc ?_)
    | (with_reducible refine l_lcM ?_)
    | (with_reducible refine l_sl2 ?_)
    | (with_reducible refine l_noP ?_)
    | (with_reducible refine l_part ?_)
    | (with_reducible refine l_int ?_)
    | (with_reducible refine l_rev ?_)
    | (with_reducible refine l_ss ?_)
    | (with_reducible refine l_fld ?_)
    | (with_reducible refine l_prop ?_)
    | (with_reducible refine l_mk ?_)
    | (with_reducible refine l_fmt2 ?_)
    | (with_reducible refine l_joined ?_)
    | (with_reducible refine l_js0 ?_)
    | (with_reducible refine l_jsc ?_)
    | (with_reducible refine l_add ?_)
    | (with_reducible refine l_sub ?_)
    | (with_reducible refine l_lt ?_)
    | (with_reducible refine l_gt ?_)
    | (with_reducible refine l_le ?_)
    | (with_reducible refine l_ge ?_)
    | (with_reducible refine l_eq ?_)
    | (with_reducible refine l_ne ?_)
    | (with_reducible refine l_intI ?_)
    | (with_reducible refine l_intB ?_)
    | (with_reducible refine l_abs ?_)
    | (with_reducible refine l_max ?_)
    | (with_reducible refine l_min ?_)
    | (with_reducible refine l_isN ?_)
    | (with_reducible refine l_it rfl ?_)
    | (with_reducible refine l_if0 rfl ?_)
    | dsimp only)))
/-! ### joined and split by signs -/
theorem joinL_len {sep : List Nat} {M : Nat} : ∀ {ps : List (List Nat)}, (∀ p ∈ ps, p.length ≤ M) → (joinL sep ps).length ≤ ps.length * (M + sep.length)
  | [], _ => Nat.zero_le _
  | [p], h => by
    have := h p List.mem_cons_self
    show p.length ≤ 1 * (M + sep.length)
    omega
  | p :: q :: r, h => by
    have h1 := h p List.mem_cons_self
    have h2 := joinL_len (sep := sep) (ps := q :: r) fun z hz => h z (List.mem_cons_of_mem _ hz)
    show (p ++ (sep ++ joinL sep (q :: r))).length ≤ _
    rw [List.length_append, List.length_append, List.length_cons (a := p), Nat.add_mul]
    omega
theorem joinL_mem {sep : List Nat} {c : Nat} : ∀ {ps : List (List Nat)}, c ∈ joinL sep ps → c ∈ sep ∨ ∃ p ∈ ps, c ∈ p
  | [], h => by cases h
  | [p], h => .inr ⟨p, List.mem_cons_self, h⟩
  | p :: q :: r, h => by
    rcases List.mem_append.mp h with h | h
    · exact .inr ⟨p, List.mem_cons_self, h⟩
    · rcases List.mem_append.mp h with h | h
      · exact .inl h
      · rcases joinL_mem h with h | ⟨z, h1, h2⟩
        · exact .inl h
        · exact .inr ⟨z, List.mem_cons_of_mem _ h1, h2⟩
theorem join_tx (sep : List Nat) (ps : List (List Nat)) : Txt.join (tx sep) (ps.map tx) = tx (joinL sep ps) := by
  refine ext_tl ?_
  rw [join_eq, tl_join, tl_tx, tl_tx, List.map_map]
  congr 1
  exact (List.map_congr_left fun x _ => tl_tx x).trans (List.map_id _)
section
variable {S : Sto} {R : DK} {d : D}
theorem l_joinX {sep : List Nat} {ps : List (List Nat)} {y : Str} (hy : y = tx sep) (he : seqD (vw S d) = some (ps.map fun p => D.str (tx p))) (hn : ps.length ≤ 1000) (hl : ∀ p ∈ ps, p.length ≤ 1000) (hs : sep.length ≤ 10) (q : R (.str (tx (joinL sep ps))) S) : dJoin (.str y) [d] S R := by
  have e1 : strsD (ps.map fun p => D.str (tx p)) = some (ps.map tx) := by
    have z := strsD_map (ps.map tx)
    rw [List.map_map] at z
    exact z
  refine l_join he e1 ?_ ?_
  · have go : ∀ ps : List (List Nat), (∀ p ∈ ps, p.length ≤ 1000) → ((ps.map tx).map (·.length)).sum ≤ ps.length * 1000 := by
      intro ps
      induction ps with
      | nil => intro _; exact Nat.zero_le _
      | cons p ps ih =>
        intro h
        have h1 := h p List.mem_cons_self
        have h2 := ih fun z hz => h z (List.mem_cons_of_mem _ hz)
        rw [List.map_cons, List.map_cons, List.sum_cons, List.length_cons, Nat.add_mul, tx_len]
        omega
    have h1 := go ps hl
    rw [List.length_map, hy, tx_len]
    have h2 : ps.length * sep.length ≤ 1000 * 10 := Nat.mul_le_mul hn hs
    omega
  · rw [hy, join_tx]; exact q
theorem l_splitX {s : Nat} {ps : List (List Nat)} {y : Str} (hy : y = tx [s]) (hs : s < 256) (hne : ps ≠ []) (hf : ∀ p ∈ ps, s ∉ p) (hl : (joinL [s] ps).length ≤ 100000) (q : R (.lst (ps.map fun p => D.str (tx p))) S) : dSplit (.str (tx (joinL [s] ps))) [.str y] S R := by
  refine l_split (by rw [hy]; rfl) (by rw [tx_len, sizeLine_eq]; omega) ?_
  have e : Txt.split (tx (joinL [s] ps)) y = ps.map tx := by
    rw [hy, ← join_tx]
    refine split_join (s := s) (S := []) (tl_tx _) (by simpa using hs) (fun z => hne (List.map_eq_nil_iff.mp z)) fun p hp => ?_
    obtain ⟨z, hz, rfl⟩ := List.mem_map.mp hp
    rw [tl_tx]; exact hf z hz
  rw [e, List.map_map]
  exact q
end
/-! ### the lines of a net -/
theorem bl_tx : (" " : Str) = tx [32] := rfl
theorem nl_tx : ("\n" : Str) = tx [10] := rfl
theorem rt_tx : ("routers" : Str) = tx [114, 111, 117, 116, 101, 114, 115] := rfl
theorem rts_tx : ("routers " : Str) = tx [114, 111, 117, 116, 101, 114, 115, 32] := rfl
theorem lk_tx : ("link" : Str) = tx [108, 105, 110, 107] := rfl
theorem lks_tx : ("link " : Str) = tx [108, 105, 110, 107, 32] := rfl
theorem num_tx {i : Int} (h : 0 ≤ i) : (Str.ofString (toString i)) = tx (numL i.toNat) := by
  obtain ⟨n, rfl⟩ : ∃ n : Nat, i = (n : Nat) := ⟨i.toNat, (Int.toNat_of_nonneg h).symm⟩
  exact ext_tl (by rw [tl_num, tl_tx, Int.toNat_natCast])
theorem far_len {i : Int} (h : FarI i) : (numL i.toNat).length ≤ 9 := numL_len (by decide) (by have := h.1; have := h.2; omega)
theorem far_log {i : Int} (h : FarI i) : i.natAbs.log2 < 1920 := Nat.lt_of_lt_of_le (log2_lt (k := 64) (by have := h.1; have := h.2; omega) (by decide)) (by decide)
section
variable {ls : List Nm} {ks : List Lk} {l : Lk}
theorem Names.one (h : Names ls) {x : Nm} (hx : x ∈ ls) : NameL x := h.1 x hx
theorem headL_len (h : Names ls) : (headL ls).length ≤ 81 := by
  refine Nat.le_trans (joinL_len (M := 8) fun p hp => ?_) ?_
  · rcases List.mem_cons.mp hp with e | hp
    · rw [e]; decide
    · exact (h.1 p hp).2.1
  · have := h.2.2.2
    rw [List.length_cons]
    show (ls.length + 1) * 9 ≤ 81
    omega
theorem row_parts (h : Names ls) (k : LinkOf ls l) : ∀ p ∈ [[108, 105, 110, 107], l.a, l.b, numL l.t.toNat, numL l.k.toNat], p.length ≤ 9 ∧ 32 ∉ p ∧ 10 ∉ p := by
  obtain ⟨⟨p1, p2, _⟩, t1, k1⟩ := k
  have nm : ∀ x ∈ ls, x.length ≤ 9 ∧ 32 ∉ x ∧ 10 ∉ x := fun x hx => by
    obtain ⟨_, a2, a3⟩ := h.1 x hx
    exact ⟨by omega, fun z => by have := a3 _ z; omega, fun z => by have := a3 _ z; omega⟩
  have nu : ∀ i : Int, FarI i → (numL i.toNat).length ≤ 9 ∧ 32 ∉ numL i.toNat ∧ 10 ∉ numL i.toNat := fun i hi => ⟨far_len hi, numL_free (.inl (by decide)), numL_free (.inl (by decide))⟩
  intro p hp
  simp only [List.mem_cons, List.not_mem_nil, or_false] at hp
  rcases hp with e | e | e | e | e
  · rw [e]; decide
  · rw [e]; exact nm _ p1
  · rw [e]; exact nm _ p2
  · rw [e]; exact nu _ t1
  · rw [e]; exact nu _ k1
theorem rowL_len (h : Names ls) (k : LinkOf ls l) : (rowL l).length ≤ 50 := by
  refine Nat.le_trans (joinL_len (M := 9) fun p hp => (row_parts h k p hp).1) ?_
  show 5 * 10 ≤ 50
  decide
theorem rowL_free (h : Names ls) (k : LinkOf ls l) : 10 ∉ rowL l := fun z => by
  rcases joinL_mem z with z | ⟨p, hp, z⟩
  · revert z; decide
  · exact (row_parts h k p hp).2.2 z
theorem headL_free (h : Names ls) : 10 ∉ headL ls := fun z => by
  rcases joinL_mem z with z | ⟨p, hp, z⟩
  · revert z; decide
  · rcases List.mem_cons.mp hp with e | hp
    · rw [e] at z; revert z; decide
    · have := (h.1 p hp).2.2 _ z
      omega
theorem page_parts (h : Names ls) (k : Links ls ks) : ∀ p ∈ headL ls :: ks.map rowL, p.length ≤ 81 ∧ 10 ∉ p := fun p hp => by
  rcases List.mem_cons.mp hp with e | hp
  · rw [e]; exact ⟨headL_len h, headL_free h⟩
  · obtain ⟨x, hx, rfl⟩ := List.mem_map.mp hp
    have := rowL_len h (k.1 x hx)
    exact ⟨by omega, rowL_free h (k.1 x hx)⟩
theorem pageL_len (h : Names ls) (k : Links ls ks) : (pageL ls ks).length ≤ 2000 := by
  refine Nat.le_trans (joinL_len (M := 81) fun p hp => (page_parts h k p hp).1) ?_
  have := k.2.2
  rw [List.length_cons, List.length_map]
  show (ks.length + 1) * 82 ≤ 2000
  omega
theorem rowL_eq : rowL l = [108, 105, 110, 107] ++ ([32] ++ (l.a ++ ([32] ++ (l.b ++ ([32] ++ (numL l.t.toNat ++ ([32] ++ numL l.k.toNat))))))) := rfl
theorem headL_eq (h : Names ls) : headL ls = [114, 111, 117, 116, 101, 114, 115, 32] ++ joinL [32] ls := by
  obtain ⟨_, _, h3, _⟩ := h
  cases ls with
  | nil => simp at h3
  | cons x xs => rfl
end
section
variable {S : Sto} {R : DK} {ls : List Nm} {ks : List Lk}
theorem nmSeq : seqD (rtD ls) = some (ls.map fun p => D.str (tx p)) := rfl
theorem sem__law_net_page (h : Names ls) (k : Links ls ks) (q : R (.str (tx (pageL ls ks))) S) : t__law_net_page (dEnds R) [some (wD ls ks), none, none, none, none, none] S := by
  unfold t__law_net_page
  trivial
  refine ⟨rfl, ?_⟩
  trivial
  refine l_ixT (z := rtD ls) rfl ?_
  have h4 := h.2.2.2
  trivial
  refine l_joinX (ps := ls) bl_tx nmSeq (by omega) (fun p hp => by have := (h.1 p hp).2.1; omega) (by decide) ?_
  rw [rts_tx]
  have hh := headL_len h
  rw [headL_eq h, List.length_append] at hh
  have hj : (joinL [32] ls).length ≤ 81 := by omega
  refine l_addS (by rw [tx_len, tx_len, sizeLine_eq]; simp; omega) ?_
  rw [tx_app, ← headL_eq h]
  trivial
  refine l_short (by show 1 ≤ 1000; decide) ?_
  intro c hc
  trivial
  refine ⟨by rw [vw_put]; rfl, ?_⟩
  trivial
  refine l_ixT (z := lnD ks) rfl ?_
  refine ⟨ks.map lkD, rfl, ?_⟩
  intro b hb
  have hk := k.2.2
  refine comp_map (fun l => .str (tx (rowL l))) ks lkD ?chk (by omega) ?one ?fin
  case chk => exact fun _ => rfl
  case one =>
    intro l hl S3 RD _ hR
    have kl := k.1 l hl
    have rl := row_parts h kl
    have r1 := (rl l.a (by simp)).1
    have r2 := (rl l.b (by simp)).1
    have r3 := (rl (numL l.t.toNat) (by simp)).1
    have r4 := (rl (numL l.k.toNat) (by simp)).1
    obtain ⟨_, t1, k1⟩ := kl
    refine ⟨_, rfl, ?_⟩
    trivial
    rw [lks_tx]
    refine l_addS (by simp only [tx_len, List.length_append, List.length_cons, List.length_nil, sizeLine_eq]; omega) ?_
    rw [tx_app, bl_tx]
    trivial
    refine l_addS (by simp only [tx_len, List.length_append, List.length_cons, List.length_nil, sizeLine_eq]; omega) ?_
    rw [tx_app]
    trivial
    refine l_addS (by simp only [tx_len, List.length_append, List.length_cons, List.length_nil, sizeLine_eq]; omega) ?_
    rw [tx_app]
    trivial
    refine l_addS (by simp only [tx_len, List.length_append, List.length_cons, List.length_nil, sizeLine_eq]; omega) ?_
    rw [tx_app]
    trivial
    refine l_str (far_log t1) ?_
    rw [num_tx (show 0 ≤ l.t by have := t1.1; omega)]
    refine l_addS (by simp only [tx_len, List.length_append, List.length_cons, List.length_nil, sizeLine_eq]; omega) ?_
    rw [tx_app]
    trivial
    refine l_addS (by simp only [tx_len, List.length_append, List.length_cons, List.length_nil, sizeLine_eq]; omega) ?_
    rw [tx_app]
    trivial
    refine l_str (far_log k1) ?_
    rw [num_tx (show 0 ≤ l.k by have := k1.1; omega)]
    refine l_addS (by simp only [tx_len, List.length_append, List.length_cons, List.length_nil, sizeLine_eq]; omega) ?_
    rw [tx_app]
    have e : [108, 105, 110, 107, 32] ++ l.a ++ [32] ++ l.b ++ [32] ++ numL l.t.toNat ++ [32] ++ numL l.k.toNat = rowL l := by
      rw [rowL_eq]; simp
    rw [e]
    exact hR
  case fin =>
    rw [del_put hb]
    trivial
    refine l_ext put_same rfl (by rw [List.length_map]; show 1 + ks.length ≤ _; rw [sizeLine_eq]; omega) ?_
    rw [put_put]
    trivial
    refine ⟨rfl, ?_⟩
    trivial
    refine l_joinX (ps := headL ls :: ks.map rowL) nl_tx ?_ (by rw [List.length_cons, List.length_map]; omega) (fun p hp => by have := (page_parts h k p hp).1; omega) (by decide) ?_
    · rw [vw_put]
      show some _ = some _
      rw [List.map_cons, List.map_map]; rfl
    · exact l_end (sub_new hc) q
end
end DL
end
section
set_option maxHeartbeats 4000000
/-! Texts of nets shown and read: promises kept. -/
namespace DL
open PySem PySem.Spec L2 TL
local macro_rules
  | `(tactic| trivial) => `(tactic| (repeat (first
    | (with_reducible refine l_seq ?_)
    | (with_reducible refine l_next ?_)
    | (with_reducible refine l_set ?_)
    | (with_reducible refine l_expr ?_)
    | (with_reducible refine l_ret ?_)
    | (with_reducible refine l_if ?_)
    | (with_reducible refine l_par ?_)
    | (with_reducible refine l_par2 ?_)
    | (with_reducible refine l_asg ?_)
    | (with_reducible refine l_for ?_)
    | (with_reducible refine l_putIx ?_)
    | (with_reducible refine l_putF ?_)
    | ((with_reducible apply l_var); focus rfl)
    | (with_reducible refine l_c ?_)
    | (with_reducible refine l_bin ?_)
    | (with_reducible refine l_test ?_)
    | (with_reducible refine l_bl ?_)
    | (with_reducible refine l_and ?_)
    | (with_reducible refine l_or ?_)
    | (with_reducible refine l_not ?_)
    | (with_reducible refine l_andV ?_)
    | (with_reducible refine l_orV ?_)
    | (with_reducible refine l_notV ?_)
    | (with_reducible refine l_ifE ?_)
    | (with_reducible refine l_truB ?_)
    | (with_reducible refine l_tru ?_)
    | (with_reducible refine l_yes ?_)
    | (with_reducible refine l_chain ?_)
    | (with_reducible refine l_nil ?_)
    | (with_reducible refine l_cons ?_)
    | (with_reducible refine l_star ?_)
    | (with_reducible refine l_tup ?_)
    | (with_reducible refine l_lst ?_)
    | (with_reducible refine l_lstM ?_)
    | (with_reducible refine l_frz2 ?_)
    | (with_reducible refine l_call ?_)
    | (with_reducible refine l_fn ?_)
    | (with_reducible refine l_bm ?_)
    | (with_reducible refine l_rng1 ?_)
    | (with_reducible refine l_rng2 ?_)
    | (with_reducible refine l_seqI ?_)
    | (with_reducible refine l_enum ?_)
    | (with_reducible refine l_zip ?_)
    | (with_reducible refine l_lc ?_)
    | (with_reducible refine l_lcM ?_)
    | (with_reducible refine l_sl2 ?_)
    | (with_reducible refine l_noP ?_)
    | (with_reducible refine l_part ?_)
    | (with_reducible refine l_int ?_)
    | (with_reducible refine l_rev ?_)
    | (with_reducible refine l_ss ?_)
    | (with_reducible refine l_fld ?_)
    | (with_reducible refine l_prop ?_)
    | (with_reducible refine l_mk ?_)
    | (with_reducible refine l_fmt2 ?_)
    | (with_reducible refine l_joined ?_)
    | (with_reducible refine l_js0 ?_)
    | (with_reducible refine l_jsc ?_)
    | (with_reducible refine l_add ?_)
    | (with_reducible refine l_sub ?_)
    | (with_reducible refine l_lt ?_)
    | (with_reducible refine l_gt ?_)
    | (with_reducible refine l_le ?_)
    | (with_reducible refine l_ge ?_)
    | (with_reducible refine l_eq ?_)
    | (with_reducible refine l_ne ?_)
    | (with_reducible refine l_intI ?_)
    | (with_reducible refine l_intB ?_)
    | (with_reducible refine l_abs ?_)
    | (with_reducible refine l_max ?_)
    | (with_reducible refine l_min ?_)
    | (with_reducible refine l_isN ?_)
    | (with_reducible refine l_it rfl ?_)
    | (with_reducible refine l_if0 rfl ?_)
    | dsimp only)))
section
variable {S : Sto} {R : DK} {ls : List Nm} {ks : List Lk}
theorem l_jsT {ρ : DSt} {te : DTE} {ts : List DTE} {x y : List Nat} {RO : Str → Sto → Prop} (h : te ρ S fun d S1 => d = .str (tx y) ∧ dJs ts (tx (x ++ y)) ρ S1 RO) (hl : (x ++ y).length ≤ 1000) (mono : ∀ {P Q : DK}, (∀ d S1, P d S1 → Q d S1) → te ρ S P → te ρ S Q) : dJs (te :: ts) (tx x) ρ S RO :=
  mono (fun d S1 ⟨e, z⟩ => ⟨tx y, e, by rw [tx_app, tx_len, sizeLine_eq]; omega, by rw [tx_app]; exact z⟩) h
theorem l_piece {ts : List DTE} {ρ : DSt} {x y : List Nat} {z : Str} {RO : Str → Sto → Prop} (hz : z = tx y) (hl : (x ++ y).length ≤ 1000) (h : dJs ts (tx (x ++ y)) ρ S RO) : ∃ w : Str, D.str z = .str w ∧ (tx x ++ w).length ≤ sizeLine ∧ dJs ts (tx x ++ w) ρ S RO :=
  ⟨z, rfl, by rw [hz, tx_app, tx_len, sizeLine_eq]; omega, by rw [hz, tx_app]; exact h⟩
theorem em_tx : Str.empty = tx [] := rfl
theorem sem_show_net {C : Addr} (h : Names ls) (k : Links ls ks) (q : R (.str (tx (pageL ls ks))) S) : t_show_net C (dEnds R) [some (netD C ls ks), none, none, none, none, none] S := by
  unfold t_show_net
  trivial
  refine ⟨rfl, ?_⟩
  trivial
  refine ⟨_, if_pos rfl, ?_⟩
  refine ⟨_, ls, ks, rfl, rfl, ?_⟩
  refine l_starX (xs := ls.map nmD) rfl ?_
  trivial
  have h4 := h.2.2.2
  have hk := k.2.2
  refine l_short (by rw [List.length_cons, List.length_append, List.length_map, List.length_nil]; omega) ?_
  trivial
  refine l_joinX (ps := [114, 111, 117, 116, 101, 114, 115] :: ls) bl_tx ?_ (by rw [List.length_cons]; omega) (fun p hp => ?_) (by decide) ?_
  · show some _ = some _
    rw [List.append_nil]; rfl
  · rcases List.mem_cons.mp hp with e | hp
    · rw [e]; decide
    · have := (h.1 p hp).2.1; omega
  trivial
  refine l_short (by show 1 ≤ 1000; decide) ?_
  intro c hc
  trivial
  refine ⟨by rw [vw_put]; rfl, ?_⟩
  trivial
  refine ⟨_, if_pos rfl, ?_⟩
  refine ⟨_, ls, ks, rfl, rfl, ?_⟩
  refine ⟨ks.map lkD, rfl, ?_⟩
  intro b hb
  refine comp_map (fun l => .str (tx (rowL l))) ks lkD ?chk (by omega) ?one ?fin
  case chk => exact fun _ => rfl
  case one =>
    intro l hl S3 RD _ hR
    have kl := k.1 l hl
    have rl := row_parts h kl
    have r1 := (rl l.a (by simp)).1
    have r2 := (rl l.b (by simp)).1
    have r3 := (rl (numL l.t.toNat) (by simp)).1
    have r4 := (rl (numL l.k.toNat) (by simp)).1
    obtain ⟨_, t1, k1⟩ := kl
    refine ⟨_, rfl, ?_⟩
    trivial
    refine l_fmtS (by decide) ?_
    rw [em_tx]
    refine l_piece lk_tx (by simp only [List.length_append, List.length_cons, List.length_nil]; omega) ?_
    trivial
    refine l_piece bl_tx (by simp only [List.length_append, List.length_cons, List.length_nil]; omega) ?_
    trivial
    refine l_fmtS (by rw [tx_len, sizeLine_eq]; omega) ?_
    refine l_piece rfl (by simp only [List.length_append, List.length_cons, List.length_nil]; omega) ?_
    trivial
    refine l_piece bl_tx (by simp only [List.length_append, List.length_cons, List.length_nil]; omega) ?_
    trivial
    refine l_fmtS (by rw [tx_len, sizeLine_eq]; omega) ?_
    refine l_piece rfl (by simp only [List.length_append, List.length_cons, List.length_nil]; omega) ?_
    trivial
    refine l_piece bl_tx (by simp only [List.length_append, List.length_cons, List.length_nil]; omega) ?_
    trivial
    refine l_fmtI (far_log t1) ?_
    refine l_piece (num_tx (show 0 ≤ l.t by have := t1.1; omega)) (by simp only [List.length_append, List.length_cons, List.length_nil]; omega) ?_
    trivial
    refine l_piece bl_tx (by simp only [List.length_append, List.length_cons, List.length_nil]; omega) ?_
    trivial
    refine l_fmtI (far_log k1) ?_
    refine l_piece (num_tx (show 0 ≤ l.k by have := k1.1; omega)) (by simp only [List.length_append, List.length_cons, List.length_nil]; omega) ?_
    trivial
    have e : [] ++ [108, 105, 110, 107] ++ [32] ++ l.a ++ [32] ++ l.b ++ [32] ++ numL l.t.toNat ++ [32] ++ numL l.k.toNat = rowL l := by
      rw [rowL_eq]; simp
    rw [e]
    exact hR
  case fin =>
    rw [del_put hb]
    trivial
    refine l_ext put_same rfl (by rw [List.length_map]; show 1 + ks.length ≤ _; rw [sizeLine_eq]; omega) ?_
    rw [put_put]
    trivial
    refine ⟨rfl, ?_⟩
    trivial
    refine l_joinX (ps := headL ls :: ks.map rowL) nl_tx ?_ (by rw [List.length_cons, List.length_map]; omega) (fun p hp => by have := (page_parts h k p hp).1; omega) (by decide) ?_
    · rw [vw_put]
      show some _ = some _
      rw [List.map_cons, List.map_map]; rfl
    · exact l_end (sub_new hc) q
theorem sem_rows_of {x : Str} (hl : x.length ≤ 10000) (q : R (.lst ((Txt.split x "\n").map .str)) S) : t_rows_of (dEnds R) [some (.str x)] S := by
  unfold t_rows_of
  trivial
  refine l_isi (ty := "str") rfl (by decide) ?_
  refine ⟨true, rfl, ?_⟩
  trivial
  refine ⟨rfl, ?_⟩
  trivial
  exact l_split rfl (by rw [sizeLine_eq]; omega) (l_end0 q)
theorem numL_head : ∀ n : Nat, n ≠ 0 → ∃ c r, numL n = c :: r ∧ c ≠ 48 := by
  intro n
  induction n using Nat.strongRecOn with
  | _ n ih =>
    intro hn
    by_cases h : n < 10
    · exact ⟨48 + n, [], numL_lt h, by omega⟩
    · obtain ⟨c, r, e, hc⟩ := ih (n / 10) (by omega) (by omega)
      exact ⟨c, r ++ [48 + n % 10], by rw [numL_step (by omega), e]; rfl, hc⟩
theorem digits_tl : tl ("0123456789" : Str) = List.range' 48 10 := by decide +kernel
theorem sem_integer_in {n : Nat} (hn : n < 10 ^ 9) (q : R (.int n) S) : t_integer_in (dEnds R) [some (.str (tx (numL n))), none] S := by
  have l1 : 1 ≤ (numL n).length := List.length_pos_iff.mpr (numL_ne n)
  have l2 : (numL n).length ≤ 9 := numL_len (by decide) hn
  have hl : lenD (.str (tx (numL n))) = some (numL n).length := by
    show (if (tx (numL n)).length ≤ sizeLine then some (tx (numL n)).length else none) = _
    rw [tx_len, if_pos (by rw [sizeLine_eq]; omega)]
  unfold t_integer_in
  trivial
  refine l_len (n := (numL n).length) hl ?_
  trivial
  refine l_it (decide_eq_true (by omega)) ?_
  trivial
  rw [decide_eq_true (show ((numL n).length : Int) ≤ 9 by omega)]
  refine l_if0 rfl ?_
  trivial
  refine ⟨(numL n).map fun c => .str ⟨#[c]⟩, rfl, ?_⟩
  intro a ha
  refine comp_map (fun _ => .bl true) (numL n) (fun c => D.str ⟨#[c]⟩) ?chk (by omega) ?one ?fin
  case chk => exact fun _ => rfl
  case one =>
    intro c hc S3 RD _ hR
    refine ⟨_, rfl, ?_⟩
    trivial
    refine ⟨true, ?_, hR⟩
    show some (inStr ⟨#[c]⟩ ("0123456789" : Str)) = some true
    rw [(inStr_one (x := ⟨#[c]⟩) (c := c) rfl).2]
    have := numL_digits n c hc
    rw [decide_eq_true]
    show c ∈ tl ("0123456789" : Str)
    rw [digits_tl, List.mem_range'_1]
    omega
  case fin =>
    rw [del_put ha]
    trivial
    refine l_allT (xs := numL n) rfl ?_
    refine ⟨true, rfl, ?_⟩
    trivial
    have zero : ∃ c r, numL n = c :: r ∧ (c = 48 → r = []) := by
      by_cases z : n = 0
      · exact ⟨48, [], by rw [z]; exact numL_lt (by decide), fun _ => rfl⟩
      · obtain ⟨c, r, e, hc⟩ := numL_head n z
        exact ⟨c, r, e, fun y => absurd y hc⟩
    obtain ⟨c, r, e, hz⟩ := zero
    refine l_ixS (z := c) (by rw [tx_len, sizeLine_eq]; omega) ?_ ?_
    · show atI (tl (tx (numL n))) 0 = some c
      rw [tl_tx, e]; exact atI_nat (k := 0) rfl
    trivial
    refine ⟨⟨rfl, rfl⟩, ?_⟩
    have e0 : PyData.eqv (toPy (.str ⟨#[c]⟩)) (toPy (.str "0")) = decide (c = 48) := by
      refine (str_eqv (tx [c]) (tx [48])).trans ?_
      by_cases y : c = 48
      · rw [y]; rfl
      · rw [decide_eq_false y, decide_eq_false fun w => y (by have := tx_inj w; injection this)]
    have last : dIntS [.str (tx (numL n))] S (dEnds R).rt := by
      refine ⟨_, (n : Int), rfl, ?_, by rw [tx_len]; omega, ?_⟩
      · have z := int_num (n := n) (by omega)
        rw [num_tx (by omega), Int.toNat_natCast] at z
        exact z
      · exact l_end0 q
    refine ⟨decide (c = 48), by show D.bl (PyData.eqv (toPy (.str ⟨#[c]⟩)) (toPy (.str "0"))) = _; rw [e0], ?_⟩
    refine l_ite (fun y => ?_) fun y => ?_
    · have hr := hz (of_decide_eq_true y)
      trivial
      refine l_len (n := (numL n).length) hl ?_
      trivial
      rw [e, hr]
      trivial
      rw [hr] at e
      rw [← e]
      exact last
    · trivial
      exact last
end
end DL
end
section
set_option maxHeartbeats 4000000
/-! Texts of nets read: promises kept. -/
namespace DL
open PySem PySem.Spec L2 TL
local macro_rules
  | `(tactic| trivial) => `(tactic| (repeat (first
    | (with_reducible refine l_seq ?_)
    | (with_reducible refine l_next ?_)
    | (with_reducible refine l_set ?_)
    | (with_reducible refine l_expr ?_)
    | (with_reducible refine l_ret ?_)
    | (with_reducible refine l_if ?_)
    | (with_reducible refine l_par ?_)
    | (with_reducible refine l_par2 ?_)
    | (with_reducible refine l_asg ?_)
    | (with_reducible refine l_for ?_)
    | (with_reducible refine l_putIx ?_)
    | (with_reducible refine l_putF ?_)
    | ((with_reducible apply l_var); focus rfl)
    | (with_reducible refine l_c ?_)
    | (with_reducible refine l_bin ?_)
    | (with_reducible refine l_test ?_)
    | (with_reducible refine l_bl ?_)
    | (with_reducible refine l_and ?_)
    | (with_reducible refine l_or ?_)
    | (with_reducible refine l_not ?_)
    | (with_reducible refine l_andV ?_)
    | (with_reducible refine l_orV ?_)
    | (with_reducible refine l_notV ?_)
    | (with_reducible refine l_ifE ?_)
    | (with_reducible refine l_truB ?_)
    | (with_reducible refine l_tru ?_)
    | (with_reducible refine l_yes ?_)
    | (with_reducible refine l_chain ?_)
    | (with_reducible refine l_nil ?_)
    | (with_reducible refine l_cons ?_)
    | (with_reducible refine l_star ?_)
    | (with_reducible refine l_tup ?_)
    | (with_reducible refine l_lst ?_)
    | (with_reducible refine l_lstM ?_)
    | (with_reducible refine l_frz2 ?_)
    | (with_reducible refine l_call ?_)
    | (with_reducible refine l_fn ?_)
    | (with_reducible refine l_bm ?_)
    | (with_reducible refine l_rng1 ?_)
    | (with_reducible refine l_rng2 ?_)
    | (with_reducible refine l_seqI ?_)
    | (with_reducible refine l_enum ?_)
    | (with_reducible refine l_zip ?_)
    | (with_reducible refine l_lc ?_)
    | (with_reducible refine l_lcM ?_)
    | (with_reducible refine l_sl2 ?_)
    | (with_reducible refine l_noP ?_)
    | (with_reducible refine l_part ?_)
    | (with_reducible refine l_int ?_)
    | (with_reducible refine l_rev ?_)
    | (with_reducible refine l_ss ?_)
    | (with_reducible refine l_fld ?_)
    | (with_reducible refine l_prop ?_)
    | (with_reducible refine l_mk ?_)
    | (with_reducible refine l_fmt2 ?_)
    | (with_reducible refine l_joined ?_)
    | (with_reducible refine l_js0 ?_)
    | (with_reducible refine l_jsc ?_)
    | (with_reducible refine l_add ?_)
    | (with_reducible refine l_sub ?_)
    | (with_reducible refine l_lt ?_)
    | (with_reducible refine l_gt ?_)
    | (with_reducible refine l_le ?_)
    | (with_reducible refine l_ge ?_)
    | (with_reducible refine l_eq ?_)
    | (with_reducible refine l_ne ?_)
    | (with_reducible refine l_intI ?_)
    | (with_reducible refine l_intB ?_)
    | (with_reducible refine l_abs ?_)
    | (with_reducible refine l_max ?_)
    | (with_reducible refine l_min ?_)
    | (with_reducible refine l_isN ?_)
    | (with_reducible refine l_it rfl ?_)
    | (with_reducible refine l_if0 rfl ?_)
    | dsimp only)))
section
variable {S : Sto} {R : DK} {ls : List Nm} {ks : List Lk}
theorem toNat_far {i : Int} (h : FarI i) : ((i.toNat : Nat) : Int) = i := Int.toNat_of_nonneg (by have := h.1; omega)
theorem sem_link_of_row {l : Lk} (h : Names ls) (k : LinkOf ls l) (q : R (lkD l) S) : t_link_of_row (dEnds R) [some (.str (tx (rowL l))), none, none, none] S := by
  unfold t_link_of_row
  have rp := row_parts h k
  have rl := rowL_len h k
  obtain ⟨⟨p1, p2, _⟩, t1, k1⟩ := k
  trivial
  refine ⟨rfl, ?_⟩
  trivial
  refine l_splitX (ps := [[108, 105, 110, 107], l.a, l.b, numL l.t.toNat, numL l.k.toNat]) bl_tx (by decide) (by simp) (fun p hp => (rp p hp).2.1) (by show (rowL l).length ≤ _; omega) ?_
  trivial
  refine l_len (n := 5) rfl ?_
  trivial
  refine l_ixL (z := .str (tx [108, 105, 110, 107])) rfl rfl ?_
  refine ⟨⟨rfl, rfl⟩, ?_⟩
  refine ⟨_, rfl, ?_⟩
  refine l_if0 (by show (!PyData.eqv (.str (tx [108, 105, 110, 107])) (.str "link")) = false; decide +kernel) ?_
  trivial
  refine l_ixL (z := nmD l.a) rfl rfl ?_
  trivial
  refine ⟨l.a, rfl, h.1 _ p1, ?_⟩
  refine ⟨true, rfl, ?_⟩
  refine l_if0 rfl ?_
  trivial
  refine l_ixL (z := nmD l.b) rfl rfl ?_
  trivial
  refine ⟨l.b, rfl, h.1 _ p2, ?_⟩
  refine ⟨true, rfl, ?_⟩
  refine l_if0 rfl ?_
  trivial
  refine l_ixL (z := .str (tx (numL l.t.toNat))) rfl rfl ?_
  trivial
  refine ⟨l.t.toNat, rfl, (by have := t1.2; omega), ?_⟩
  trivial
  refine l_ixL (z := .str (tx (numL l.k.toNat))) rfl rfl ?_
  trivial
  refine ⟨l.k.toNat, rfl, (by have := k1.2; omega), ?_⟩
  rw [toNat_far t1, toNat_far k1]
  trivial
  refine l_ixL (z := nmD l.a) rfl rfl ?_
  trivial
  refine l_ixL (z := nmD l.b) rfl rfl ?_
  trivial
  exact l_short (by show 4 ≤ 1000; decide) (l_end0 q)
theorem seq_map {α : Type} {f : α → D} {xs : List α} : itemsD (vw S (.lst (xs.map f))) = some (xs.map f) := rfl
theorem drop_one {x : D} {xs : List D} : cutD (x :: xs) (some 1) none = xs := by
  rw [cut_from (by decide) (by rw [List.length_cons]; omega)]; rfl
theorem sem_net_rows (h : Names ls) (k : Links ls ks) (q : R (.tup [wD ls ks, .int (1 + (ks.length : Int))]) S) : t_net_rows (dEnds R) [some (.lst ((headL ls :: ks.map rowL).map fun x => .str (tx x))), none, none, none, none, none] S := by
  have h4 := h.2.2.2
  have hk := k.2.2
  have hh := headL_len h
  unfold t_net_rows
  trivial
  refine l_ixL (z := .str (tx (headL ls))) rfl (atI_nat (k := 0) rfl) ?_
  refine ⟨rfl, ?_⟩
  trivial
  refine l_splitX (ps := [114, 111, 117, 116, 101, 114, 115] :: ls) bl_tx (by decide) (by simp) (fun p hp => ?_) (by show (headL ls).length ≤ _; omega) ?_
  · rcases List.mem_cons.mp hp with e | hp
    · rw [e]; decide
    · exact fun z => by have := (h.1 p hp).2.2 _ z; omega
  trivial
  refine l_ixL (z := .str (tx [114, 111, 117, 116, 101, 114, 115])) rfl (atI_nat (k := 0) rfl) ?_
  refine ⟨⟨rfl, rfl⟩, ?_⟩
  refine ⟨_, rfl, ?_⟩
  refine l_if0 (by show (!PyData.eqv (.str (tx [114, 111, 117, 116, 101, 114, 115])) (.str "routers")) = false; decide +kernel) ?_
  trivial
  refine l_slL rfl ?_
  rw [List.map_cons, drop_one]
  refine ⟨ls.map nmD, rfl, ?_⟩
  intro a ha
  refine comp_map (fun _ => .bl true) ls nmD ?chk (by omega) ?one ?fin
  case chk => exact fun _ => rfl
  case one =>
    intro x hx S3 RD _ hR
    refine ⟨_, rfl, ?_⟩
    trivial
    exact ⟨x, rfl, h.1 x hx, hR⟩
  case fin =>
    rw [del_put ha]
    trivial
    refine l_allT (xs := ls) rfl ?_
    refine ⟨true, rfl, ?_⟩
    refine l_if0 rfl ?_
    trivial
    refine l_slL rfl ?_
    rw [List.map_cons, drop_one, List.map_map]
    refine ⟨ks.map fun l => .str (tx (rowL l)), rfl, ?_⟩
    intro b hb
    refine comp_map lkD ks (fun l => .str (tx (rowL l))) ?chk2 (by omega) ?one2 ?fin2
    case chk2 => exact fun _ => rfl
    case one2 =>
      intro l hl S3 RD _ hR
      refine ⟨_, rfl, ?_⟩
      trivial
      exact ⟨ls, l, rfl, h, k.1 l hl, hR⟩
    case fin2 =>
      rw [del_put hb]
      trivial
      refine ⟨false, ?_, ?_⟩
      · have e1 : isDat (.lst (ks.map lkD)) = true := by
          show (ks.map lkD).all (datk 7) = true
          rw [List.all_eq_true]
          intro y hy
          obtain ⟨x, hx, rfl⟩ := List.mem_map.mp hy
          rfl
        show (if isDat .non && isDat (.lst (ks.map lkD)) then some ((toPyL (ks.map lkD)).any fun y => PyData.eqv y (toPy .non)) else none) = some false
        rw [e1]
        have e2 : ((toPyL (ks.map lkD)).any fun y => PyData.eqv y (toPy .non)) = false := by
          rw [toPyL_map, List.map_map, List.any_map, List.any_eq_false]
          intro x hx
          have z : PyData.eqv (toPy (lkD x)) (toPy .non) = false := rfl
          exact fun y => by
            have y : PyData.eqv (toPy (lkD x)) (toPy .non) = true := y
            rw [z] at y; cases y
        rw [e2]; rfl
      trivial
      refine l_len (n := ks.length) (by show some (ks.map lkD).length = _; rw [List.length_map]) ?_
      trivial
      refine l_slL rfl ?_
      rw [drop_one]
      trivial
      refine l_tuple (.inl rfl) ?_
      trivial
      refine l_slL rfl ?_
      rw [cut_to (by omega), Int.toNat_natCast, show (ks.map lkD).take ks.length = ks.map lkD from List.take_of_length_le (by rw [List.length_map]; omega)]
      trivial
      refine l_tuple (.inl rfl) ?_
      trivial
      refine l_short (by show 2 ≤ 1000; decide) ?_
      trivial
      exact l_short (by show 2 ≤ 1000; decide) (l_end0 q)
theorem sem_read_net {C : Addr} (h : Names ls) (k : Links ls ks) (q : R (netD C ls ks) S) : t_read_net C (dEnds R) [some (.str (tx (pageL ls ks))), none, none, none, none] S := by
  have hp := pageL_len h k
  have pp := page_parts h k
  have e : Txt.split (tx (pageL ls ks)) "\n" = (headL ls :: ks.map rowL).map tx := by
    rw [nl_tx, pageL, ← join_tx]
    refine split_join (s := 10) (S := []) (tl_tx _) (by decide +kernel) (by simp) fun p hp => ?_
    obtain ⟨z, hz, rfl⟩ := List.mem_map.mp hp
    rw [tl_tx]; exact (pp z hz).2
  unfold t_read_net
  trivial
  refine ⟨_, rfl, by rw [tx_len]; omega, ?_⟩
  rw [e, List.map_map]
  trivial
  refine ⟨ls, ks, rfl, h, k, ?_⟩
  refine ⟨_, rfl, ?_⟩
  trivial
  refine l_len (n := ks.length + 1) (by show some _ = some _; rw [List.length_map, List.length_cons, List.length_map]) ?_
  trivial
  refine l_if0 (decide_eq_false (by omega)) ?_
  trivial
  intro x hx
  refine ⟨x, ls, ks, rfl, h, k, put_same, rfl, _, put_same, ?_⟩
  rw [put_put, del_put hx]
  exact l_end0 q
end
end DL
end
section
set_option maxHeartbeats 4000000
/-! Pairs and worlds: promises kept. -/
namespace DL
open PySem PySem.Spec L2 TL
local macro_rules
  | `(tactic| trivial) => `(tactic| (repeat (first
    | (with_reducible refine l_seq ?_)
    | (with_reducible refine l_next ?_)
    | (with_reducible refine l_set ?_)
    | (with_reducible refine l_expr ?_)
    | (with_reducible refine l_ret ?_)
    | (with_reducible refine l_if ?_)
    | (with_reducible refine l_par ?_)
    | (with_reducible refine l_par2 ?_)
    | (with_reducible refine l_asg ?_)
    | (with_reducible refine l_for ?_)
    | (with_reducible refine l_putIx ?_)
    | (with_reducible refine l_putF ?_)
    | ((with_reducible apply l_var); focus rfl)
    | (with_reducible refine l_c ?_)
    | (with_reducible refine l_bin ?_)
    | (with_reducible refine l_test ?_)
    | (with_reducible refine l_bl ?_)
    | (with_reducible refine l_and ?_)
    | (with_reducible refine l_or ?_)
    | (with_reducible refine l_not ?_)
    | (with_reducible refine l_andV ?_)
    | (with_reducible refine l_orV ?_)
    | (with_reducible refine l_notV ?_)
    | (with_reducible refine l_ifE ?_)
    | (with_reducible refine l_truB ?_)
    | (with_reducible refine l_tru ?_)
    | (with_reducible refine l_yes ?_)
    | (with_reducible refine l_chain ?_)
    | (with_reducible refine l_nil ?_)
    | (with_reducible refine l_cons ?_)
    | (with_reducible refine l_star ?_)
    | (with_reducible refine l_tup ?_)
    | (with_reducible refine l_lst ?_)
    | (with_reducible refine l_lstM ?_)
    | (with_reducible refine l_frz2 ?_)
    | (with_reducible refine l_call ?_)
    | (with_reducible refine l_fn ?_)
    | (with_reducible refine l_bm ?_)
    | (with_reducible refine l_rng1 ?_)
    | (with_reducible refine l_rng2 ?_)
    | (with_reducible refine l_seqI ?_)
    | (with_reducible refine l_enum ?_)
    | (with_reducible refine l_zip ?_)
    | (with_reducible refine l_lc ?_)
    | (with_reducible refine l_lcM ?_)
    | (with_reducible refine l_sl2 ?_)
    | (with_reducible refine l_noP ?_)
    | (with_reducible refine l_part ?_)
    | (with_reducible refine l_int ?_)
    | (with_reducible refine l_rev ?_)
    | (with_reducible refine l_ss ?_)
    | (with_reducible refine l_fld ?_)
    | (with_reducible refine l_prop ?_)
    | (with_reducible refine l_mk ?_)
    | (with_reducible refine l_fmt2 ?_)
    | (with_reducible refine l_joined ?_)
    | (with_reducible refine l_js0 ?_)
    | (with_reducible refine l_jsc ?_)
    | (with_reducible refine l_add ?_)
    | (with_reducible refine l_sub ?_)
    | (with_reducible refine l_lt ?_)
    | (with_reducible refine l_gt ?_)
    | (with_reducible refine l_le ?_)
    | (with_reducible refine l_ge ?_)
    | (with_reducible refine l_eq ?_)
    | (with_reducible refine l_ne ?_)
    | (with_reducible refine l_intI ?_)
    | (with_reducible refine l_intB ?_)
    | (with_reducible refine l_abs ?_)
    | (with_reducible refine l_max ?_)
    | (with_reducible refine l_min ?_)
    | (with_reducible refine l_isN ?_)
    | (with_reducible refine l_it rfl ?_)
    | (with_reducible refine l_if0 rfl ?_)
    | dsimp only)))
section
variable {a : Addr} {g : Tgt} {tt : DTT} {te : DTE} {chk : Sto → Prop} {ρ : DSt} {RR : List D → Sto → Prop}
/-- [f(x) for x in xs if c(x)] -/
theorem comp_filter {α : Type} (f : α → D) (c : α → Bool) (xs : List α) (src : α → D) {S0 : Sto} (hchk : ∀ acc, chk (S0.put a (.lst acc))) (len : xs.length ≤ 10000)
    (one : ∀ x ∈ xs, ∀ (S : Sto), (∃ acc, S = S0.put a (.lst acc)) → ∃ ρ1, bindD S g (src x) ρ = some ρ1 ∧ (∀ RT : Bool → Sto → Prop, RT (c x) S → tt ρ1 S RT) ∧ ∀ RD : DK, RD (f x) S → te ρ1 S RD)
    (fin : RR ((xs.filter c).map f) (S0.put a (.lst ((xs.filter c).map f)))) :
    compD a g tt te chk (xs.map src) [] ρ (S0.put a (.lst [])) RR := by
  have go : ∀ (done rest : List α), done ++ rest = xs → compD a g tt te chk (rest.map src) ((done.filter c).map f) ρ (S0.put a (.lst ((done.filter c).map f))) RR := by
    intro done rest
    induction rest generalizing done with
    | nil =>
      intro e
      rw [List.append_nil] at e
      subst e
      exact ⟨⟨put_same, hchk _⟩, fin⟩
    | cons x rest ih =>
      intro e
      refine ⟨⟨put_same, hchk _⟩, ?_⟩
      have hx : x ∈ xs := by rw [← e]; exact List.mem_append_right _ List.mem_cons_self
      have l0 : (done.filter c).length ≤ done.length := List.length_filter_le c done
      have l1 : ((done.filter c).map f).length < sizeLine := by
        have z : done.length ≤ xs.length := by rw [← e, List.length_append]; omega
        rw [List.length_map, sizeLine_eq]
        omega
      have l2 := ih (done ++ [x]) (by rw [List.append_assoc]; exact e)
      obtain ⟨ρ1, hb, ht, he⟩ := one x hx (S0.put a (.lst ((done.filter c).map f))) ⟨_, rfl⟩
      refine ⟨ρ1, hb, ht _ ?_⟩
      cases hc : c x with
      | true =>
        have ex : (done ++ [x]).filter c = done.filter c ++ [x] := by rw [List.filter_append, List.filter_cons, hc]; rfl
        rw [ex, List.map_append, List.map_cons, List.map_nil] at l2
        refine l_it rfl (he _ ⟨⟨put_same, l1⟩, ?_⟩)
        rw [put_put]; exact l2
      | false =>
        have ex : (done ++ [x]).filter c = done.filter c := by rw [List.filter_append, List.filter_cons, hc]; simp
        rw [ex] at l2
        exact l_if0 rfl l2
  exact go [] xs rfl
end
theorem perm_map_inv {α β : Type} {f : α → β} {ys ws : List β} (h : ys.Perm ws) : ∀ ls : List α, ws = ls.map f → ∃ zs : List α, zs.Perm ls ∧ ys = zs.map f := by
  induction h with
  | nil =>
    intro ls e
    exact ⟨ls, .refl _, e⟩
  | cons x _ ih =>
    intro ls e
    cases ls with
    | nil => cases e
    | cons l ls =>
      injection e with e1 e2
      obtain ⟨zs, h1, h2⟩ := ih ls e2
      exact ⟨l :: zs, h1.cons l, by rw [e1, h2]; rfl⟩
  | swap x y l =>
    intro ls e
    match ls, e with
    | p :: q :: ls, e =>
      injection e with e1 e2
      injection e2 with e2 e3
      exact ⟨q :: p :: ls, .swap _ _ _, by rw [e1, e2, e3]; rfl⟩
  | trans _ _ ih1 ih2 =>
    intro ls e
    obtain ⟨zs, h1, h2⟩ := ih2 ls e
    obtain ⟨us, h3, h4⟩ := ih1 zs h2
    exact ⟨us, h3.trans h1, h4⟩
theorem not_take {α : Type} {xs : List α} {i : Nat} {x : α} (h : xs.Nodup) (hx : xs[i]? = some x) : x ∉ xs.take i := fun z => by
  obtain ⟨j, hj⟩ := List.mem_iff_getElem?.mp z
  rw [List.getElem?_take] at hj
  split at hj
  · rename_i c
    have l := (List.getElem?_eq_some_iff.mp hx).1
    have := (List.getElem?_inj (i := j) (j := i) (by omega) h).mp (hj.trans hx.symm)
    omega
  · cases hj
theorem mem_take_of {α : Type} {xs : List α} {i k : Nat} {x : α} (hx : xs[i]? = some x) (h : i < k) : x ∈ xs.take k := by
  refine List.mem_iff_getElem?.mpr ⟨i, ?_⟩
  rw [List.getElem?_take, if_pos h, hx]
theorem take_mono {α : Type} {xs : List α} {i k : Nat} {x : α} (hx : x ∈ xs.take i) (h : i ≤ k) : x ∈ xs.take k := by
  have e : xs.take i = (xs.take k).take i := by rw [List.take_take, Nat.min_eq_left h]
  rw [e] at hx
  exact List.mem_of_mem_take hx
theorem Names.nodup {ls : List Nm} (h : Names ls) : ls.Nodup := h.2.1.imp fun {a b} q e => by rw [e] at q; exact List.lt_irrefl b q
theorem pr_eqv {p q : Nm × Nm} : PyData.eqv (toPy (prD p)) (toPy (prD q)) = decide (p = q) := by
  show (PyData.eqv (toPy (nmD p.1)) (toPy (nmD q.1)) && (PyData.eqv (toPy (nmD p.2)) (toPy (nmD q.2)) && true)) = _
  rw [nm_eqv, nm_eqv, Bool.and_true, ← Bool.decide_and]
  exact decide_eq_decide.mpr ⟨fun ⟨h1, h2⟩ => Prod.ext h1 h2, fun h => by rw [h]; exact ⟨rfl, rfl⟩⟩
theorem isDat_prs {ps : List (Nm × Nm)} : isDat (.lst (ps.map prD)) = true := by
  show (ps.map prD).all (datk 7) = true
  rw [List.all_eq_true]
  intro y hy
  obtain ⟨x, hx, rfl⟩ := List.mem_map.mp hy
  rfl
theorem in_prs {S : Sto} {c : D} {ps : List (Nm × Nm)} {p : Nm × Nm} (h : vw S c = .lst (ps.map prD)) : inD S (prD p) c = some (decide (p ∈ ps)) := by
  unfold inD
  rw [h]
  have e1 : isDat (vw S (prD p)) = true := rfl
  show (if isDat (vw S (prD p)) && isDat (.lst (ps.map prD)) then some ((toPyL (ps.map prD)).any fun y => PyData.eqv y (toPy (prD p))) else none) = _
  rw [e1, isDat_prs, Bool.and_self, if_pos rfl, toPyL_map, List.map_map, List.any_map]
  congr 1
  rw [Bool.eq_iff_iff, List.any_eq_true, decide_eq_true_iff]
  constructor
  · rintro ⟨x, hx, h⟩
    have h : PyData.eqv (toPy (prD x)) (toPy (prD p)) = true := h
    rw [pr_eqv] at h
    rw [← of_decide_eq_true h]; exact hx
  · intro h
    exact ⟨p, h, by show PyData.eqv (toPy (prD p)) (toPy (prD p)) = true; rw [pr_eqv]; exact decide_eq_true rfl⟩
section
variable {S : Sto} {R : DK}
theorem sem__law_far {a : Addr} {n : Nat} (hp : PotAt S a (n + 3)) (q : ∀ v d, 1 ≤ v → v ≤ 90 → Pot n d → R (.int v) (S.put a d)) : t__law_far (dEnds R) [some (.ref a)] S := by
  unfold t__law_far
  trivial
  refine ⟨a, _, n + 2, rfl, hp, by decide, by decide, fun v1 d1 v10 v11 hd1 => ?_⟩
  trivial
  refine ⟨a, _, n + 1, rfl, ⟨d1, put_same, hd1⟩, by decide, by decide, fun v2 d2 v20 v21 hd2 => ?_⟩
  rw [put_put]
  trivial
  refine l_short (by show 12 ≤ 1000; decide) ?_
  trivial
  refine ⟨a, _, _, n, rfl, ⟨d2, put_same, hd2⟩, (fun z => nomatch z), rfl, (fun z => nomatch z), (by show 12 ≤ 1000; decide), fun x d hx hd => ?_⟩
  rw [put_put]
  obtain ⟨v, rfl, h0, h1⟩ : ∃ v : Int, x = .int v ∧ 1 ≤ v ∧ v ≤ 90 := by
    simp only [List.mem_cons, List.not_mem_nil, or_false] at hx
    rcases hx with e | e | e | e | e | e | e | e | e | e | e | e <;> exact ⟨_, e, by omega, by omega⟩
  exact l_end0 (q v d h0 h1 hd)
end
end DL
end
section
set_option maxHeartbeats 4000000
/-! Pairs: promises kept. -/
namespace DL
open PySem PySem.Spec L2 TL
local macro_rules
  | `(tactic| trivial) => `(tactic| (repeat (first
    | (with_reducible refine l_seq ?_)
    | (with_reducible refine l_next ?_)
    | (with_reducible refine l_set ?_)
    | (with_reducible refine l_expr ?_)
    | (with_reducible refine l_ret ?_)
    | (with_reducible refine l_if ?_)
    | (with_reducible refine l_par ?_)
    | (with_reducible refine l_par2 ?_)
    | (with_reducible refine l_asg ?_)
    | (with_reducible refine l_for ?_)
    | (with_reducible refine l_putIx ?_)
    | (with_reducible refine l_putF ?_)
    | ((with_reducible apply l_var); focus rfl)
    | (with_reducible refine l_c ?_)
    | (with_reducible refine l_bin ?_)
    | (with_reducible refine l_test ?_)
    | (with_reducible refine l_bl ?_)
    | (with_reducible refine l_and ?_)
    | (with_reducible refine l_or ?_)
    | (with_reducible refine l_not ?_)
    | (with_reducible refine l_andV ?_)
    | (with_reducible refine l_orV ?_)
    | (with_reducible refine l_notV ?_)
    | (with_reducible refine l_ifE ?_)
    | (with_reducible refine l_truB ?_)
    | (with_reducible refine l_tru ?_)
    | (with_reducible refine l_yes ?_)
    | (with_reducible refine l_chain ?_)
    | (with_reducible refine l_nil ?_)
    | (with_reducible refine l_cons ?_)
    | (with_reducible refine l_star ?_)
    | (with_reducible refine l_tup ?_)
    | (with_reducible refine l_lst ?_)
    | (with_reducible refine l_lstM ?_)
    | (with_reducible refine l_frz2 ?_)
    | (with_reducible refine l_call ?_)
    | (with_reducible refine l_fn ?_)
    | (with_reducible refine l_bm ?_)
    | (with_reducible refine l_rng1 ?_)
    | (with_reducible refine l_rng2 ?_)
    | (with_reducible refine l_seqI ?_)
    | (with_reducible refine l_enum ?_)
    | (with_reducible refine l_zip ?_)
    | (with_reducible refine l_lc ?_)
    | (with_reducible refine l_lcM ?_)
    | (with_reducible refine l_sl2 ?_)
    | (with_reducible refine l_noP ?_)
    | (with_reducible refine l_part ?_)
    | (with_reducible refine l_int ?_)
    | (with_reducible refine l_rev ?_)
    | (with_reducible refine l_ss ?_)
    | (with_reducible refine l_fld ?_)
    | (with_reducible refine l_prop ?_)
    | (with_reducible refine l_mk ?_)
    | (with_reducible refine l_fmt2 ?_)
    | (with_reducible refine l_joined ?_)
    | (with_reducible refine l_js0 ?_)
    | (with_reducible refine l_jsc ?_)
    | (with_reducible refine l_add ?_)
    | (with_reducible refine l_sub ?_)
    | (with_reducible refine l_lt ?_)
    | (with_reducible refine l_gt ?_)
    | (with_reducible refine l_le ?_)
    | (with_reducible refine l_ge ?_)
    | (with_reducible refine l_eq ?_)
    | (with_reducible refine l_ne ?_)
    | (with_reducible refine l_intI ?_)
    | (with_reducible refine l_intB ?_)
    | (with_reducible refine l_abs ?_)
    | (with_reducible refine l_max ?_)
    | (with_reducible refine l_min ?_)
    | (with_reducible refine l_isN ?_)
    | (with_reducible refine l_it rfl ?_)
    | (with_reducible refine l_if0 rfl ?_)
    | dsimp only)))
/-- a pair put in order, added -/
abbrev bdP : DTS := (dSeq (dSet 7 (dBin dIx (dVar 3) (dBin dSub (dBin dSub (dVar 6) (dC (.int 1))) (dFn sp__law_take (dCons (dVar 0) (dCons (dCall dMin2 (dCons (dVar 6) (dCons (dC (.int 2)) dNil))) dNil)))))) (dExpr (dBM "list" dAppend (dVar 4) (dCons (dIfE (dTest (dBin dLt (dBin dIx (dVar 3) (dVar 6)) (dVar 7))) (dTup (dCons (dBin dIx (dVar 3) (dVar 6)) (dCons (dVar 7) dNil))) (dTup (dCons (dVar 7) (dCons (dBin dIx (dVar 3) (dVar 6)) dNil)))) dNil))))
section
variable {S : Sto}
theorem bdP_ok {E : DEnds} {ρ : DSt} {a c : Addr} {zs : List Nm} {ps : List (Nm × Nm)} {j n : Nat} (hj : j + 1 < zs.length) (hn : zs.length ≤ 8) (nd : zs.Nodup) (r0 : ρ[0]? = some (some (.ref a))) (r3 : ρ[3]? = some (some (.lst (zs.map nmD)))) (r4 : ρ[4]? = some (some (.ref c))) (r6 : ρ[6]? = some (some (.int ((1 : Int) + (j : Int))))) (hl : 7 < ρ.length)
    (hS : S c = some (.lst (ps.map prD))) (hlen : ps.length ≤ 100) (hp : PotAt S a (n + 1)) (nac : a ≠ c)
    (q : ∀ (p : Nm × Nm) d d7, p.1 ∈ zs.take (j + 2) → p.2 ∈ zs.take (j + 2) → p.1 < p.2 → (p.1 ∉ zs.take (j + 1) ∨ p.2 ∉ zs.take (j + 1)) → Pot n d → E.nx (ρ.set 7 (some d7)) ((S.put a d).put c (.lst ((ps ++ [p]).map prD)))) : bdP E ρ S := by
  obtain ⟨x, hx⟩ : ∃ x, zs[j + 1]? = some x := ⟨_, List.getElem?_eq_getElem hj⟩
  have hxi : atI (zs.map nmD) ((1 : Int) + (j : Int)) = some (nmD x) := by
    have e : (1 : Int) + (j : Int) = ((j + 1 : Nat) : Int) := by omega
    rw [e]
    exact atI_nat (by rw [List.getElem?_map, hx]; rfl)
  unfold bdP
  trivial
  refine l_var r3 ?_
  trivial
  refine l_var r6 ?_
  trivial
  refine l_var r0 ?_
  trivial
  refine l_var r6 ?_
  trivial
  refine ⟨a, _, n, rfl, hp, by split <;> omega, by split <;> omega, fun v d v0 v1 hd => ?_⟩
  have hv : v ≤ 1 ∧ v ≤ j := by split at v1 <;> omega
  obtain ⟨i, ei, hij⟩ : ∃ i : Nat, (1 : Int) + (j : Int) - 1 - v = (i : Nat) ∧ i ≤ j := ⟨(j - v).toNat, by omega, by omega⟩
  obtain ⟨y, hy⟩ : ∃ y, zs[i]? = some y := ⟨_, List.getElem?_eq_getElem (by omega)⟩
  trivial
  rw [ei]
  refine l_ixL (z := nmD y) rfl (atI_nat (by rw [List.getElem?_map, hy]; rfl)) ?_
  have s0 : ∀ k, k ≠ 7 → (ρ.set 7 (some (nmD y)))[k]? = ρ[k]? := fun k hk => List.getElem?_set_ne (Ne.symm hk)
  have s7 : (ρ.set 7 (some (nmD y)))[7]? = some (some (nmD y)) := List.getElem?_set_self hl
  have nca : c ≠ a := Ne.symm nac
  have hS2 : (S.put a d) c = some (.lst (ps.map prD)) := by rw [put_ne nca]; exact hS
  trivial
  refine l_var ((s0 4 (by decide)).trans r4) ?_
  refine ⟨by rw [vw_ref hS2]; rfl, ?_⟩
  trivial
  refine l_var ((s0 3 (by decide)).trans r3) ?_
  trivial
  refine l_var ((s0 6 (by decide)).trans r6) ?_
  refine l_ixL (z := nmD x) rfl hxi ?_
  trivial
  refine l_var s7 ?_
  refine ⟨rfl, ?_⟩
  refine ⟨decide (x < y), by show D.bl (PySem.W.dataLt (toPy (nmD x)) (toPy (nmD y))) = _; rw [lt_nm], ?_⟩
  have xin : x ∈ zs.take (j + 2) := mem_take_of hx (by omega)
  have yin : y ∈ zs.take (j + 2) := mem_take_of hy (by omega)
  have xno : x ∉ zs.take (j + 1) := not_take nd hx
  have yin1 : y ∈ zs.take (j + 1) := mem_take_of hy (by omega)
  have add : ∀ p : Nm × Nm, prD p = prD p → ps.map prD ++ [prD p] = (ps ++ [p]).map prD := fun p _ => by rw [List.map_append]; rfl
  refine l_ite (fun b => ?_) fun b => ?_
  · trivial
    refine l_var ((s0 3 (by decide)).trans r3) ?_
    trivial
    refine l_var ((s0 6 (by decide)).trans r6) ?_
    refine l_ixL (z := nmD x) rfl hxi ?_
    trivial
    refine l_var s7 ?_
    trivial
    refine l_short (by show 2 ≤ 1000; decide) ?_
    trivial
    refine l_app hS2 (by rw [List.length_map, sizeLine_eq]; omega) ?_
    have z := q (x, y) d (nmD y) xin yin (of_decide_eq_true b) (.inl xno) hd
    rw [← add _ rfl] at z
    exact z
  · trivial
    refine l_var s7 ?_
    trivial
    refine l_var ((s0 3 (by decide)).trans r3) ?_
    trivial
    refine l_var ((s0 6 (by decide)).trans r6) ?_
    refine l_ixL (z := nmD x) rfl hxi ?_
    trivial
    refine l_short (by show 2 ≤ 1000; decide) ?_
    trivial
    refine l_app hS2 (by rw [List.length_map, sizeLine_eq]; omega) ?_
    have lt : y < x := by
      rcases lt_tri x y with h | h | h
      · exact absurd h (of_decide_eq_false b)
      · rw [h] at xno; exact absurd yin1 xno
      · exact h
    have z := q (y, x) d (nmD y) yin xin lt (.inr xno) hd
    rw [← add _ rfl] at z
    exact z
end
end DL
end
section
set_option maxHeartbeats 4000000
/-! Pairs: promises kept, the whole. -/
namespace DL
open PySem PySem.Spec L2 TL
local macro_rules
  | `(tactic| trivial) => `(tactic| (repeat (first
    | (with_reducible refine l_seq ?_)
    | (with_reducible refine l_next ?_)
    | (with_reducible refine l_set ?_)
    | (with_reducible refine l_expr ?_)
    | (with_reducible refine l_ret ?_)
    | (with_reducible refine l_if ?_)
    | (with_reducible refine l_par ?_)
    | (with_reducible refine l_par2 ?_)
    | (with_reducible refine l_asg ?_)
    | (with_reducible refine l_for ?_)
    | (with_reducible refine l_putIx ?_)
    | (with_reducible refine l_putF ?_)
    | ((with_reducible apply l_var); focus rfl)
    | (with_reducible refine l_c ?_)
    | (with_reducible refine l_bin ?_)
    | (with_reducible refine l_test ?_)
    | (with_reducible refine l_bl ?_)
    | (with_reducible refine l_and ?_)
    | (with_reducible refine l_or ?_)
    | (with_reducible refine l_not ?_)
    | (with_reducible refine l_andV ?_)
    | (with_reducible refine l_orV ?_)
    | (with_reducible refine l_notV ?_)
    | (with_reducible refine l_ifE ?_)
    | (with_reducible refine l_truB ?_)
    | (with_reducible refine l_tru ?_)
    | (with_reducible refine l_yes ?_)
    | (with_reducible refine l_chain ?_)
    | (with_reducible refine l_nil ?_)
    | (with_reducible refine l_cons ?_)
    | (with_reducible refine l_star ?_)
    | (with_reducible refine l_tup ?_)
    | (with_reducible refine l_lst ?_)
    | (with_reducible refine l_lstM ?_)
    | (with_reducible refine l_frz2 ?_)
    | (with_reducible refine l_call ?_)
    | (with_reducible refine l_fn ?_)
    | (with_reducible refine l_bm ?_)
    | (with_reducible refine l_rng1 ?_)
    | (with_reducible refine l_rng2 ?_)
    | (with_reducible refine l_seqI ?_)
    | (with_reducible refine l_enum ?_)
    | (with_reducible refine l_zip ?_)
    | (with_reducible refine l_lc ?_)
    | (with_reducible refine l_lcM ?_)
    | (with_reducible refine l_sl2 ?_)
    | (with_reducible refine l_noP ?_)
    | (with_reducible refine l_part ?_)
    | (with_reducible refine l_int ?_)
    | (with_reducible refine l_rev ?_)
    | (with_reducible refine l_ss ?_)
    | (with_reducible refine l_fld ?_)
    | (with_reducible refine l_prop ?_)
    | (with_reducible refine l_mk ?_)
    | (with_reducible refine l_fmt2 ?_)
    | (with_reducible refine l_joined ?_)
    | (with_reducible refine l_js0 ?_)
    | (with_reducible refine l_jsc ?_)
    | (with_reducible refine l_add ?_)
    | (with_reducible refine l_sub ?_)
    | (with_reducible refine l_lt ?_)
    | (with_reducible refine l_gt ?_)
    | (with_reducible refine l_le ?_)
    | (with_reducible refine l_ge ?_)
    | (with_reducible refine l_eq ?_)
    | (with_reducible refine l_ne ?_)
    | (with_reducible refine l_intI ?_)
    | (with_reducible refine l_intB ?_)
    | (with_reducible refine l_abs ?_)
    | (with_reducible refine l_max ?_)
    | (with_reducible refine l_min ?_)
    | (with_reducible refine l_isN ?_)
    | (with_reducible refine l_it rfl ?_)
    | (with_reducible refine l_if0 rfl ?_)
    | dsimp only)))
theorem numD_rt : ∀ (ls : List Nm) (k : Nat), ((List.range' k (ls.map nmD).length).zip (ls.map nmD)).map (fun p => D.tup [.int (p.1 : Nat), p.2]) = ((List.range' k ls.length).zip ls).map fun p => D.tup [.int (p.1 : Nat), nmD p.2]
  | [], _ => rfl
  | l :: ls, k => by
    rw [List.map_cons, List.length_cons, List.length_cons, List.range'_succ, List.range'_succ, List.zip_cons_cons, List.zip_cons_cons, List.map_cons, List.map_cons, numD_rt ls (k + 1)]
section
variable {S : Sto} {R : DK}
theorem sem__law_pairs {a : Addr} {ls : List Nm} {m : Int} {n : Nat} (hp : PotAt S a (n + 20)) (h : Names ls) (hm : m ≤ 16) (q : ∀ ps d, Pairs ls ps → Pot n d → R (.lst (ps.map prD)) (S.put a d)) :
    t__law_pairs (dEnds R) [some (.ref a), some (rtD ls), some (.int m), none, none, none, none, none, none, none, none] S := by
  have ndl := h.nodup
  have l4 := h.2.2.2
  have l3 := h.2.2.1
  have hSa : S a ≠ none := by
    obtain ⟨z, h1, _⟩ := hp
    rw [h1]; exact fun z => nomatch z
  unfold t__law_pairs
  trivial
  refine l_list (xs := ls.map nmD) rfl ?_
  trivial
  refine ⟨a, _, ls.map nmD, n + 18, rfl, hp, (fun z => nomatch z), rfl, (fun z => by rw [List.map_eq_nil_iff.mp z] at l3; simp at l3), by rw [List.length_map]; omega, fun ys d0 hys hd0 => ?_⟩
  obtain ⟨zs, hzp, rfl⟩ := perm_map_inv hys ls rfl
  have zlen : zs.length = ls.length := hzp.length_eq
  have ndz : zs.Nodup := hzp.nodup_iff.mpr ndl
  trivial
  refine l_short (by show 0 ≤ 1000; decide) ?_
  intro c hc
  have nac : a ≠ c := fun z => by rw [← z, put_same] at hc; cases hc
  have hSc : S c = none := by rwa [put_ne (Ne.symm nac)] at hc
  trivial
  refine l_short (by show 2 ≤ 1000; decide) ?_
  refine ⟨_, rfl, ?_⟩
  trivial
  refine ⟨a, _, n + 17, rfl, ⟨d0, by rw [put_ne nac, put_same], hd0⟩, by decide, by decide, fun v d1 _ _ hd1 => ?_⟩
  trivial
  refine l_len (n := zs.length) (by show some (zs.map nmD).length = _; rw [List.length_map]) ?_
  generalize decide ((0 : Int) < v) = joined
  refine ⟨_, _, rfl, ⟨by decide, by decide, by omega, by omega⟩, ?_⟩
  refine for_ind (fun ds ρ S' => ∃ (ps : List (Nm × Nm)) (j r : Nat) (o6 o7 : Option D), j + r + 1 = zs.length ∧ ds = (List.range' j r).map (fun (i : Nat) => D.int ((1 : Int) + (i : Int))) ∧ ρ = [some (.ref a), some (rtD ls), some (.int m), some (.lst (zs.map nmD)), some (.ref c), some (.bl joined), o6, o7, none, none, none] ∧ S' c = some (.lst (ps.map prD)) ∧ PotAt S' a (n + 2 + 2 * r) ∧ (∀ b, b ≠ a → b ≠ c → S' b = S b) ∧ (∀ p ∈ ps, p.1 ∈ zs.take (j + 1) ∧ p.2 ∈ zs.take (j + 1) ∧ p.1 < p.2) ∧ ps.Nodup ∧ ps.length ≤ j)
    (fun _ _ _ _ => True.intro) ?fin ?turn _ _ _ ⟨[], 0, zs.length - 1, none, none, by omega, ?rng, rfl, ?cell, ⟨d1, put_same, hd1.mono (by omega)⟩, ?off, fun p hp => (by cases hp), List.nodup_nil, Nat.le_refl 0⟩
  case rng =>
    rw [List.range_eq_range']
    congr 2
    omega
  case cell => rw [put_ne (Ne.symm nac), put_same]; rfl
  case off =>
    intro b h1 h2
    rw [put_ne h1, put_ne h2, put_ne h1]
  case turn =>
    rintro d ds ρ S' ⟨ps, j, r, o6, o7, e1, e2, rfl, e3, e4, e5, e6, e7, e8⟩ k
    cases r with
    | zero => cases e2
    | succ r =>
      rw [List.range'_succ, List.map_cons] at e2
      injection e2 with e2 e2'
      subst e2 e2'
      refine ⟨_, rfl, ?_⟩
      have go : ∀ (E : DEnds) (S1 : Sto), S1 c = some (.lst (ps.map prD)) → PotAt S1 a (n + 2 + 2 * r + 1) → (∀ b, b ≠ a → b ≠ c → S1 b = S b) → (∀ (ps' : List (Nm × Nm)) (o7' : Option D) (S2 : Sto), S2 c = some (.lst (ps'.map prD)) → PotAt S2 a (n + 2 + 2 * r) → (∀ b, b ≠ a → b ≠ c → S2 b = S b) → (∀ p ∈ ps', p.1 ∈ zs.take (j + 1 + 1) ∧ p.2 ∈ zs.take (j + 1 + 1) ∧ p.1 < p.2) → ps'.Nodup → ps'.length ≤ j + 1 → E.nx [some (.ref a), some (rtD ls), some (.int m), some (.lst (zs.map nmD)), some (.ref c), some (.bl joined), some (.int ((1 : Int) + (j : Int))), o7', none, none, none] S2) →
          bdP E [some (.ref a), some (rtD ls), some (.int m), some (.lst (zs.map nmD)), some (.ref c), some (.bl joined), some (.int ((1 : Int) + (j : Int))), o7, none, none, none] S1 := by
        intro E S1 f1 f2 f3 f4
        refine bdP_ok (a := a) (c := c) (zs := zs) (ps := ps) (j := j) (n := n + 2 + 2 * r) (by omega) (by omega) ndz rfl rfl rfl rfl (by show 7 < 11; decide) f1 (by omega) f2 nac fun p d d7 p1 p2 p3 p4 hd => ?_
        refine f4 (ps ++ [p]) (some d7) _ put_same ⟨d, by rw [put_ne nac, put_same], hd⟩ (fun b b1 b2 => by rw [put_ne b2, put_ne b1]; exact f3 b b1 b2) (fun x hx => ?_) ?_ ?_
        · rcases List.mem_append.mp hx with hx | hx
          · obtain ⟨y1, y2, y3⟩ := e6 x hx
            exact ⟨take_mono y1 (by omega), take_mono y2 (by omega), y3⟩
          · rw [List.mem_singleton.mp hx]; exact ⟨p1, p2, p3⟩
        · refine List.pairwise_append.mpr ⟨e7, List.pairwise_singleton _ _, fun x hx y hy e => ?_⟩
          rw [List.mem_singleton.mp hy] at e
          obtain ⟨y1, y2, _⟩ := e6 x hx
          rw [e] at y1 y2
          rcases p4 with p4 | p4
          · exact p4 y1
          · exact p4 y2
        · rw [List.length_append, List.length_singleton]; omega
      have skip : ∀ (S2 : Sto), S2 c = some (.lst (ps.map prD)) → PotAt S2 a (n + 2 + 2 * r) → (∀ b, b ≠ a → b ≠ c → S2 b = S b) → _ := fun S2 f1 f2 f3 => k [some (.ref a), some (rtD ls), some (.int m), some (.lst (zs.map nmD)), some (.ref c), some (.bl joined), some (.int ((1 : Int) + (j : Int))), o7, none, none, none] S2 ⟨ps, j + 1, r, some (.int ((1 : Int) + (j : Int))), o7, by omega, rfl, rfl, f1, f2, f3, fun x hx => (let ⟨y1, y2, y3⟩ := e6 x hx; ⟨take_mono y1 (by omega), take_mono y2 (by omega), y3⟩), e7, by omega⟩
      obtain ⟨d2, hd2, hp2⟩ := e4
      have fin : ∀ (ps' : List (Nm × Nm)) (o7' : Option D) (S2 : Sto), S2 c = some (.lst (ps'.map prD)) → PotAt S2 a (n + 2 + 2 * r) → (∀ b, b ≠ a → b ≠ c → S2 b = S b) → (∀ p ∈ ps', p.1 ∈ zs.take (j + 1 + 1) ∧ p.2 ∈ zs.take (j + 1 + 1) ∧ p.1 < p.2) → ps'.Nodup → ps'.length ≤ j + 1 → _ := fun ps' o7' S2 f1 f2 f3 f4 f5 f6 => k [some (.ref a), some (rtD ls), some (.int m), some (.lst (zs.map nmD)), some (.ref c), some (.bl joined), some (.int ((1 : Int) + (j : Int))), o7', none, none, none] S2 ⟨ps', j + 1, r, some (.int ((1 : Int) + (j : Int))), o7', by omega, rfl, rfl, f1, f2, f3, f4, f5, f6⟩
      trivial
      cases joined with
      | true =>
        refine l_it rfl ?_
        refine l_it rfl ?_
        exact go _ S' e3 ⟨d2, hd2, hp2.mono (by omega)⟩ e5 fin
      | false =>
        trivial
        refine ⟨a, _, n + 2 + 2 * r + 1, rfl, ⟨d2, hd2, hp2.mono (by omega)⟩, by decide, by decide, fun w d3 _ _ hd3 => ?_⟩
        trivial
        have c3 : (S'.put a d3) c = some (.lst (ps.map prD)) := by rw [put_ne (Ne.symm nac)]; exact e3
        have o3 : ∀ b, b ≠ a → b ≠ c → (S'.put a d3) b = S b := fun b b1 b2 => by rw [put_ne b1]; exact e5 b b1 b2
        refine l_ite (fun b => ?_) fun b => ?_
        · exact go _ _ c3 ⟨d3, put_same, hd3⟩ o3 fin
        · trivial
          exact skip _ c3 ⟨d3, put_same, hd3.mono (by omega)⟩ o3
  case fin =>
    rintro ρ S' ⟨ps, j, r, o6, o7, e1, e2, rfl, e3, e4, e5, e6, e7, e8⟩
    have r0 : r = 0 := by
      cases r with
      | zero => rfl
      | succ r => cases e2
    subst r0
    have inl : ∀ x, x ∈ zs.take (j + 1) → x ∈ ls := fun x hx => hzp.mem_iff.mp (List.mem_of_mem_take hx)
    have okp : ∀ p ∈ ps, PairOf ls p := fun p hp => let ⟨y1, y2, y3⟩ := e6 p hp; ⟨inl _ y1, inl _ y2, y3⟩
    trivial
    refine l_short (by show 0 ≤ 1000; decide) ?_
    intro e he
    have nae : a ≠ e := fun z => by
      obtain ⟨d2, hd2, _⟩ := e4
      rw [← z, hd2] at he; cases he
    have nce : c ≠ e := fun z => by rw [← z, e3] at he; cases he
    have hSe : S e = none := by rw [← e5 e (Ne.symm nae) (Ne.symm nce)]; exact he
    trivial
    refine ⟨_, ls.map nmD, rfl, rfl, ?_⟩
    refine for_ind (fun ds ρ S2 => ∃ (rs : List (Nm × Nm)) (dn tl : List Nm) (o6 o9 : Option D), dn ++ tl = ls ∧ ds = ((List.range' dn.length tl.length).zip tl).map (fun p => D.tup [.int (p.1 : Nat), nmD p.2]) ∧ ρ = [some (.ref a), some (rtD ls), some (.int m), some (.lst (zs.map nmD)), some (.ref c), some (.bl joined), o6, o7, some (.ref e), o9, none] ∧ S2 c = some (.lst (ps.map prD)) ∧ S2 e = some (.lst (rs.map prD)) ∧ PotAt S2 a (n + 2) ∧ (∀ b, b ≠ a → b ≠ c → b ≠ e → S2 b = S b) ∧ (∀ p ∈ rs, p.1 ∈ dn ∧ p.2 ∈ ls ∧ p.1 < p.2 ∧ p ∉ ps) ∧ rs.Nodup ∧ rs.length ≤ dn.length * 8)
      (fun _ _ _ _ => rfl) ?fin2 ?turn2 _ _ _ ⟨[], [], ls, o6, none, rfl, ?num, rfl, ?c2, put_same, ?p2, ?off2, fun p hp => (by cases hp), List.nodup_nil, Nat.le_refl 0⟩
    case num =>
      unfold numD
      rw [List.range_eq_range', numD_rt]; rfl
    case c2 => rw [put_ne nce]; exact e3
    case p2 =>
      obtain ⟨d2, hd2, hp2⟩ := e4
      exact ⟨d2, by rw [put_ne nae]; exact hd2, hp2⟩
    case off2 =>
      intro b b1 b2 b3
      rw [put_ne b3]; exact e5 b b1 b2
    case turn2 =>
      rintro d ds ρ S2 ⟨rs, dn, tl, o6, o9, g1, g2, rfl, g3, g4, g5, g6, g7, g8, g9⟩ k
      cases tl with
      | nil => cases g2
      | cons x tl =>
        rw [List.length_cons, List.range'_succ, List.zip_cons_cons, List.map_cons] at g2
        injection g2 with g2 g2'
        subst g2 g2'
        refine ⟨_, rfl, ?_⟩
        trivial
        refine ⟨by rw [vw_ref g4]; rfl, ?_⟩
        trivial
        refine l_slT ?_
        have ll : dn.length + (tl.length + 1) = ls.length := by rw [← g1, List.length_append, List.length_cons]
        have ec : cutD (ls.map nmD) (some ((dn.length : Int) + 1)) none = tl.map nmD := by
          rw [cut_from (by omega) (by rw [List.length_map]; omega), ← List.map_drop]
          congr 1
          have e1 : ((dn.length : Int) + 1).toNat = (dn ++ [x]).length := by rw [List.length_append, List.length_singleton]; omega
          have e2 : ls = (dn ++ [x]) ++ tl := by rw [← g1]; simp
          rw [e1, e2, List.drop_left]
        rw [ec]
        refine ⟨tl.map nmD, rfl, ?_⟩
        intro b hb
        have nbc : b ≠ c := fun z => by rw [z, g3] at hb; cases hb
        have pw := h.2.1
        rw [← g1] at pw
        obtain ⟨pw1, pw2, pw3⟩ := List.pairwise_append.mp pw
        obtain ⟨pw4, pw5⟩ := List.pairwise_cons.mp pw2
        refine comp_filter (fun y => prD (x, y)) (fun y => !decide ((x, y) ∈ ps)) tl nmD ?chk (by omega) ?one ?fin
        case chk => exact fun _ => rfl
        case one =>
          rintro y hy S3 ⟨acc, rfl⟩
          refine ⟨_, rfl, fun RT hRT => ?_, fun RD hRD => ?_⟩
          · trivial
            refine l_short (by show 2 ≤ 1000; decide) ?_
            trivial
            refine ⟨_, in_prs (p := (x, y)) (ps := ps) (vw_ref (by rw [put_ne (Ne.symm nbc)]; exact g3)), ?_⟩
            trivial
            exact hRT
          · trivial
            exact l_short (by show 2 ≤ 1000; decide) hRD
        case fin =>
          rw [del_put hb]
          trivial
          have fl : (tl.filter fun y => !decide ((x, y) ∈ ps)).length ≤ tl.length := List.length_filter_le _ _
          refine l_ext g4 rfl (by rw [List.length_map, List.length_map, sizeLine_eq]; omega) ?_
          refine k _ _ ⟨rs ++ (tl.filter fun y => !decide ((x, y) ∈ ps)).map (fun y => (x, y)), dn ++ [x], tl, _, _, by rw [← g1]; simp, by rw [List.length_append, List.length_singleton], rfl, by rw [put_ne nce]; exact g3, by rw [put_same, List.map_append, List.map_map]; rfl, ?_, fun b' b1 b2 b3 => by rw [put_ne b3]; exact g6 b' b1 b2 b3, fun p hp => ?_, ?_, ?_⟩
          · obtain ⟨d2, hd2, hp2⟩ := g5
            exact ⟨d2, by rw [put_ne nae]; exact hd2, hp2⟩
          · rcases List.mem_append.mp hp with hp | hp
            · obtain ⟨y1, y2, y3, y4⟩ := g7 p hp
              exact ⟨List.mem_append_left _ y1, y2, y3, y4⟩
            · obtain ⟨y, hy, rfl⟩ := List.mem_map.mp hp
              obtain ⟨hy1, hy2⟩ := List.mem_filter.mp hy
              refine ⟨List.mem_append_right _ List.mem_cons_self, by rw [← g1]; exact List.mem_append_right _ (List.mem_cons_of_mem _ hy1), pw4 y hy1, ?_⟩
              simpa using hy2
          · refine List.pairwise_append.mpr ⟨g8, List.pairwise_map.mpr ?_, fun p hp r hr e => ?_⟩
            · have nt : tl.Nodup := pw5.imp fun {a b} q e => by rw [e] at q; exact List.lt_irrefl b q
              exact (nt.sublist List.filter_sublist).imp fun {u v} ne e => ne (congrArg Prod.snd e)
            · obtain ⟨y, hy, rfl⟩ := List.mem_map.mp hr
              have y1 := (g7 p hp).1
              rw [e] at y1
              exact List.lt_irrefl x (pw3 x y1 x List.mem_cons_self)
          · rw [List.length_append, List.length_map, List.length_append, List.length_singleton]
            omega
    case fin2 =>
      rintro ρ S2 ⟨rs, dn, tl, o6, o9, g1, g2, rfl, g3, g4, g5, g6, g7, g8, g9⟩
      have dl : dn.length ≤ 8 := by
        have : dn.length ≤ ls.length := by rw [← g1, List.length_append]; omega
        omega
      obtain ⟨d2, hd2, hp2⟩ := g5
      have vr : vw S2 (.ref e) = .lst (rs.map prD) := vw_ref g4
      have vc : vw S2 (.ref c) = .lst (ps.map prD) := vw_ref g3
      trivial
      refine l_short (by show 0 ≤ 1000; decide) ?_
      refine ⟨⟨by rw [vr]; exact isDat_prs, rfl⟩, ?_⟩
      refine ⟨!decide (rs = []), ?_, ?_⟩
      · rw [vr]
        show D.bl (!PyData.eqv (.list (toPyL (rs.map prD))) (.list [])) = _
        cases rs with
        | nil => rfl
        | cons p rs => rfl
      refine l_ite (fun b => ?_) fun b => ?_
      · have rn : rs ≠ [] := by simpa using b
        trivial
        refine ⟨a, .ref e, rs.map prD, n, rfl, ⟨d2, hd2, hp2⟩, (fun z => by injection z with z; exact nae z.symm), vr, (fun z => rn (List.map_eq_nil_iff.mp z)), by rw [List.length_map]; omega, fun ys d3 hys hd3 => ?_⟩
        obtain ⟨us, hup, rfl⟩ := perm_map_inv hys rs rfl
        have vc3 : vw (S2.put a d3) (.ref c) = .lst (ps.map prD) := vw_ref (by rw [put_ne (Ne.symm nac)]; exact g3)
        trivial
        refine l_len (n := ps.length) (by rw [vc3]; show some (ps.map prD).length = _; rw [List.length_map]) ?_
        trivial
        generalize ek : (if m - (ps.length : Int) > 0 then m - (ps.length : Int) else 0) = kk
        have k0 : 0 ≤ kk := by rw [← ek]; split <;> omega
        have k1 : (ps.length : Int) + kk ≤ 16 := by rw [← ek]; split <;> omega
        refine l_slL rfl ?_
        rw [cut_to k0, ← List.map_take]
        refine l_addL vc3 rfl (by rw [List.length_map, List.length_map, List.length_take, sizeLine_eq]; omega) ?_
        rw [← List.map_append]
        refine l_frzL (l_end (S' := S.put a d3) ?_ (q _ d3 ⟨fun p hp => ?_, ?_, ?_⟩ hd3))
        · refine sub_put_of (fun x hx y hy => ?_) put_same
          have n1 : x ≠ c := fun z => by rw [z, hSc] at hy; cases hy
          have n2 : x ≠ e := fun z => by rw [z, hSe] at hy; cases hy
          rw [put_ne hx, g6 x hx n1 n2]; exact hy
        · rcases List.mem_append.mp hp with hp | hp
          · exact okp p hp
          · obtain ⟨y1, y2, y3, _⟩ := g7 p (hup.mem_iff.mp (List.mem_of_mem_take hp))
            exact ⟨by rw [← g1]; exact List.mem_append_left _ y1, y2, y3⟩
        · refine List.pairwise_append.mpr ⟨e7, (hup.nodup_iff.mpr g8).sublist (List.take_sublist _ _), fun x hx y hy ee => ?_⟩
          obtain ⟨_, _, _, y4⟩ := g7 y (hup.mem_iff.mp (List.mem_of_mem_take hy))
          rw [ee] at hx
          exact y4 hx
        · rw [List.length_append, List.length_take]; omega
      · trivial
        refine l_frzR g3 (l_end (S' := S.put a d2) ?_ (q ps d2 ⟨okp, e7, by omega⟩ (hp2.mono (by omega))))
        refine sub_put_of (fun x hx y hy => ?_) (by rw [del_ne nac]; exact hd2)
        have n1 : x ≠ c := fun z => by rw [z, hSc] at hy; cases hy
        have n2 : x ≠ e := fun z => by rw [z, hSe] at hy; cases hy
        rw [del_ne n1, g6 x hx n1 n2]; exact hy
end
end DL
end
section
set_option maxHeartbeats 4000000
/-! Worlds: promises kept. -/
namespace DL
open PySem PySem.Spec L2 TL
local macro_rules
  | `(tactic| trivial) => `(tactic| (repeat (first
    | (with_reducible refine l_seq ?_)
    | (with_reducible refine l_next ?_)
    | (with_reducible refine l_set ?_)
    | (with_reducible refine l_expr ?_)
    | (with_reducible refine l_ret ?_)
    | (with_reducible refine l_if ?_)
    | (with_reducible refine l_par ?_)
    | (with_reducible refine l_par2 ?_)
    | (with_reducible refine l_asg ?_)
    | (with_reducible refine l_for ?_)
    | (with_reducible refine l_putIx ?_)
    | (with_reducible refine l_putF ?_)
    | ((with_reducible apply l_var); focus rfl)
    | (with_reducible refine l_c ?_)
    | (with_reducible refine l_bin ?_)
    | (with_reducible refine l_test ?_)
    | (with_reducible refine l_bl ?_)
    | (with_reducible refine l_and ?_)
    | (with_reducible refine l_or ?_)
    | (with_reducible refine l_not ?_)
    | (with_reducible refine l_andV ?_)
    | (with_reducible refine l_orV ?_)
    | (with_reducible refine l_notV ?_)
    | (with_reducible refine l_ifE ?_)
    | (with_reducible refine l_truB ?_)
    | (with_reducible refine l_tru ?_)
    | (with_reducible refine l_yes ?_)
    | (with_reducible refine l_chain ?_)
    | (with_reducible refine l_nil ?_)
    | (with_reducible refine l_cons ?_)
    | (with_reducible refine l_star ?_)
    | (with_reducible refine l_tup ?_)
    | (with_reducible refine l_lst ?_)
    | (with_reducible refine l_lstM ?_)
    | (with_reducible refine l_frz2 ?_)
    | (with_reducible refine l_call ?_)
    | (with_reducible refine l_fn ?_)
    | (with_reducible refine l_bm ?_)
    | (with_reducible refine l_rng1 ?_)
    | (with_reducible refine l_rng2 ?_)
    | (with_reducible refine l_seqI ?_)
    | (with_reducible refine l_enum ?_)
    | (with_reducible refine l_zip ?_)
    | (with_reducible refine l_lc ?_)
    | (with_reducible refine l_lcM ?_)
    | (with_reducible refine l_sl2 ?_)
    | (with_reducible refine l_noP ?_)
    | (with_reducible refine l_part ?_)
    | (with_reducible refine l_int ?_)
    | (with_reducible refine l_rev ?_)
    | (with_reducible refine l_ss ?_)
    | (with_reducible refine l_fld ?_)
    | (with_reducible refine l_prop ?_)
    | (with_reducible refine l_mk ?_)
    | (with_reducible refine l_fmt2 ?_)
    | (with_reducible refine l_joined ?_)
    | (with_reducible refine l_js0 ?_)
    | (with_reducible refine l_jsc ?_)
    | (with_reducible refine l_add ?_)
    | (with_reducible refine l_sub ?_)
    | (with_reducible refine l_lt ?_)
    | (with_reducible refine l_gt ?_)
    | (with_reducible refine l_le ?_)
    | (with_reducible refine l_ge ?_)
    | (with_reducible refine l_eq ?_)
    | (with_reducible refine l_ne ?_)
    | (with_reducible refine l_intI ?_)
    | (with_reducible refine l_intB ?_)
    | (with_reducible refine l_abs ?_)
    | (with_reducible refine l_max ?_)
    | (with_reducible refine l_min ?_)
    | (with_reducible refine l_isN ?_)
    | (with_reducible refine l_it rfl ?_)
    | (with_reducible refine l_if0 rfl ?_)
    | dsimp only)))
theorem lt_lk {x y : Lk} (h : PLt (x.a, x.b) (y.a, y.b)) : PySem.W.dataLt (toPy (lkD x)) (toPy (lkD y)) = true := by
  show PySem.W.dataLt (.tuple [toPy (nmD x.a), toPy (nmD x.b), .int x.t, .int x.k]) (.tuple [toPy (nmD y.a), toPy (nmD y.b), .int y.t, .int y.k]) = true
  rw [PySem.W.dataLt_tuple, PySem.W.dataLt_cons rfl, nm_eqv, PySem.W.dataLt_cons rfl, nm_eqv, lt_nm, lt_nm]
  rcases h with h | ⟨h1, h2⟩
  · have n : x.a ≠ y.a := fun e => by simp only at h; rw [e] at h; exact List.lt_irrefl _ h
    rw [decide_eq_false n, if_neg (by decide)]
    exact decide_eq_true h
  · have n : x.b ≠ y.b := fun e => by simp only at h2; rw [e] at h2; exact List.lt_irrefl _ h2
    have h1 : x.a = y.a := h1
    rw [decide_eq_true h1, if_pos rfl, decide_eq_false n, if_neg (by decide)]
    exact decide_eq_true h2
theorem plt_tri (p q : Nm × Nm) (h : p ≠ q) : PLt p q ∨ PLt q p := by
  rcases lt_tri p.1 q.1 with c | c | c
  · exact .inl (.inl c)
  · rcases lt_tri p.2 q.2 with d | d | d
    · exact .inl (.inr ⟨c, d⟩)
    · exact absurd (Prod.ext c d) h
    · exact .inr (.inr ⟨c.symm, d⟩)
  · exact .inr (.inl c)
theorem map_inj {α β : Type} {f : α → β} : ∀ {xs : List α}, (xs.map f).Nodup → ∀ x ∈ xs, ∀ y ∈ xs, f x = f y → x = y
  | [], _, x, hx, _, _, _ => by cases hx
  | z :: xs, h, x, hx, y, hy, e => by
    rw [List.map_cons] at h
    obtain ⟨h1, h2⟩ := List.nodup_cons.mp h
    rcases List.mem_cons.mp hx with a | a
    · rcases List.mem_cons.mp hy with b | b
      · rw [a, b]
      · exact absurd (List.mem_map.mpr ⟨y, b, by rw [← e, a]⟩) h1
    · rcases List.mem_cons.mp hy with b | b
      · exact absurd (List.mem_map.mpr ⟨x, a, by rw [e, b]⟩) h1
      · exact map_inj h2 x a y b e
theorem links_sorted {ls : List Nm} {ks : List Lk} {ys : List D} (ok : ∀ l ∈ ks, LinkOf ls l) (nd : (ks.map fun l => (l.a, l.b)).Nodup) (len : ks.length ≤ 16) (h : Sorted (ks.map lkD) ys) : ∃ zs, ys = zs.map lkD ∧ Links ls zs := by
  obtain ⟨zs, rfl, hz⟩ := pick_sub lkD (Z := ks) (M := ys) fun y hy => List.mem_map.mp (h.sub y hy)
  have h1 := h.nd
  rw [List.map_map] at h1
  have h2 := List.pairwise_map.mp h1
  have h3 := List.pairwise_map.mp h.asc
  have pw : zs.Pairwise fun x y => PLt (x.a, x.b) (y.a, y.b) := by
    refine (List.Pairwise.and_mem.mp (h2.and h3)).imp fun {x y} ⟨mx, my, k1, k2⟩ => ?_
    have ne : (x.a, x.b) ≠ (y.a, y.b) := fun e => k1 (by rw [map_inj nd x (hz x mx) y (hz y my) e])
    rcases plt_tri _ _ ne with c | c
    · exact c
    · rw [lt_lk c] at k2; cases k2
  refine ⟨zs, rfl, fun l hl => ok l (hz l hl), pw, ?_⟩
  have np : (zs.map fun l => (l.a, l.b)).Nodup := by
    refine List.pairwise_map.mpr (pw.imp fun {x y} q e => ?_)
    rcases q with q | ⟨_, q⟩
    · rw [congrArg Prod.fst e] at q; exact List.lt_irrefl _ q
    · rw [congrArg Prod.snd e] at q; exact List.lt_irrefl _ q
  have z := nodup_le (zs.map fun l => (l.a, l.b)) (ks.map fun l => (l.a, l.b)) np fun p hp => by
    obtain ⟨x, hx, rfl⟩ := List.mem_map.mp hp
    exact List.mem_map.mpr ⟨x, hz x hx, rfl⟩
  rw [List.length_map, List.length_map] at z
  omega
section
variable {S : Sto} {R : DK}
theorem sem__law_world {a : Addr} {i j k : Int} {n : Nat} (hp : PotAt S a (n + 130)) (hij : 2 ≤ i ∧ i ≤ j ∧ j ≤ 8) (hk : 0 ≤ k ∧ k ≤ 100) (q : ∀ ls ks d, Names ls → Links ls ks → Pot n d → R (wD ls ks) (S.put a d)) :
    t__law_world (dEnds R) [some (.ref a), some (.int i), some (.int j), some (.int k), none, none, none, none, none, none, none, none] S := by
  unfold t__law_world
  trivial
  refine ⟨a, _, n + 129, rfl, hp, by omega, by omega, fun v d1 v0 v1 hd1 => ?_⟩
  trivial
  refine ⟨a, _, n + 119, rfl, ⟨d1, put_same, hd1⟩, by omega, by omega, fun ls d2 hls hd2 => ?_⟩
  rw [put_put]
  trivial
  refine l_tuple (.inl rfl) ?_
  trivial
  refine ⟨a, _, n + 118, rfl, ⟨d2, put_same, hd2⟩, by omega, by omega, fun w d3 w0 w1 hd3 => ?_⟩
  rw [put_put]
  trivial
  refine ⟨a, ls, _, n + 98, rfl, ⟨d3, put_same, hd3⟩, hls, by split <;> omega, fun ps d4 hps hd4 => ?_⟩
  rw [put_put]
  trivial
  refine l_short (by show 0 ≤ 1000; decide) ?_
  intro c hc
  have hSa : S a ≠ none := by
    obtain ⟨z, h1, _⟩ := hp
    rw [h1]; exact fun z => nomatch z
  have nac : a ≠ c := fun z => by rw [← z, put_same] at hc; cases hc
  have hSc : S c = none := by rwa [put_ne (Ne.symm nac)] at hc
  trivial
  refine ⟨a, _, n + 97, rfl, ⟨d4, by rw [put_ne nac, put_same], hd4⟩, by decide, by decide, fun u d5 _ _ hd5 => ?_⟩
  trivial
  generalize decide (u = (0 : Int)) = even
  refine ⟨ps.map prD, rfl, ?_⟩
  obtain ⟨hp1, hp2, hp3⟩ := hps
  refine for_ind (fun ds ρ S' => ∃ (dn tl : List (Nm × Nm)) (ks : List Lk) (o9 o10 o11 : Option D), dn ++ tl = ps ∧ ds = tl.map prD ∧ ρ = [some (.ref a), some (.int i), some (.int j), some (.int k), some (.int (i + v)), some (rtD ls), some (.lst (ps.map prD)), some (.ref c), some (.bl even), o9, o10, o11] ∧ (ks.map fun l => (l.a, l.b)) = dn ∧ (∀ l ∈ ks, LinkOf ls l) ∧ S' c = some (.lst (ks.map lkD)) ∧ PotAt S' a (n + 1 + 6 * tl.length) ∧ ∀ b, b ≠ a → b ≠ c → S' b = S b)
    (fun _ _ _ _ => rfl) ?fin ?turn _ _ _ ⟨[], ps, [], none, none, none, rfl, rfl, rfl, rfl, fun l hl => (by cases hl), ?cell, ⟨d5, put_same, hd5.mono (by omega)⟩, ?off⟩
  case cell => rw [put_ne (Ne.symm nac), put_same]; rfl
  case off =>
    intro b h1 h2
    rw [put_ne h1, put_ne h2, put_ne h1]
  case turn =>
    rintro d ds ρ S' ⟨dn, tl, ks, o9, o10, o11, e1, e2, rfl, e3, e4, e5, ⟨d6, e6, e7⟩, e8⟩ kk
    cases tl with
    | nil => cases e2
    | cons p tl =>
      cases e2
      rw [List.length_cons] at e7
      have hpp : PairOf ls p := hp1 p (by rw [← e1]; exact List.mem_append_right _ List.mem_cons_self)
      have kl : ks.length ≤ 16 := by
        have z : (ks.map fun l => (l.a, l.b)).length ≤ ps.length := by rw [e3, ← e1, List.length_append]; omega
        rw [List.length_map] at z; omega
      have last : ∀ (t b : Int) (d : D) (S2 : Sto), (1 ≤ t ∧ t ≤ 90) → (1 ≤ b ∧ b ≤ 90) → S2 c = some (.lst (ks.map lkD)) → PotAt S2 a (n + 1 + 6 * tl.length) → (∀ b, b ≠ a → b ≠ c → S2 b = S b) →
          forD (.tp [.nm 9, .nm 10]) (dSeq (dSet 11 (dFn sp__law_far (dCons (dVar 0) dNil))) (dExpr (dBM "list" dAppend (dVar 7) (dCons (dTup (dCons (dVar 9) (dCons (dVar 10) (dCons (dVar 11) (dCons (dIfE (dTru (dVar 8)) (dVar 11) (dFn sp__law_far (dCons (dVar 0) dNil))) dNil))))) dNil)))) (fun S2 => vw S2 (.lst (ps.map prD)) = .lst (ps.map prD)) (tl.map prD) { (dEnds R) with nx := dRet (dTup (dCons (dVar 5) (dCons (dCall dTupOf (dCons (dSS (dVar 7)) dNil)) dNil))) (dEnds R) } [some (.ref a), some (.int i), some (.int j), some (.int k), some (.int (i + v)), some (rtD ls), some (.lst (ps.map prD)), some (.ref c), some (.bl even), some (nmD p.1), some (nmD p.2), some (.int t)] (S2.put c (.lst (ks.map lkD ++ [.tup [nmD p.1, nmD p.2, .int t, .int b]]))) := by
        intro t b d S2 ht hb f1 f2 f3
        refine kk _ _ ⟨dn ++ [p], tl, ks ++ [⟨p.1, p.2, t, b⟩], _, _, _, by rw [← e1]; simp, rfl, rfl, by rw [List.map_append, e3]; rfl, fun l hl => ?_, by rw [put_same, List.map_append]; rfl, ?_, fun b' b1 b2 => by rw [put_ne b2]; exact f3 b' b1 b2⟩
        · rcases List.mem_append.mp hl with hl | hl
          · exact e4 l hl
          · rw [List.mem_singleton.mp hl]
            exact ⟨hpp, ⟨ht.1, Int.le_trans ht.2 (by decide)⟩, ⟨hb.1, Int.le_trans hb.2 (by decide)⟩⟩
        · obtain ⟨d7, g1, g2⟩ := f2
          exact ⟨d7, by rw [put_ne nac]; exact g1, g2⟩
      refine ⟨_, rfl, ?_⟩
      trivial
      refine ⟨a, n + 1 + 6 * tl.length + 3, rfl, ⟨d6, e6, e7.mono (by omega)⟩, fun t d7 t0 t1 hd7 => ?_⟩
      have c7 : (S'.put a d7) c = some (.lst (ks.map lkD)) := by rw [put_ne (Ne.symm nac)]; exact e5
      have o7 : ∀ b, b ≠ a → b ≠ c → (S'.put a d7) b = S b := fun b b1 b2 => by rw [put_ne b1]; exact e8 b b1 b2
      trivial
      refine ⟨by rw [vw_ref c7]; rfl, ?_⟩
      cases even with
      | true =>
        trivial
        refine l_short (by show 4 ≤ 1000; decide) ?_
        trivial
        refine l_app c7 (by rw [List.length_map, sizeLine_eq]; omega) ?_
        exact last t t d7 _ ⟨t0, t1⟩ ⟨t0, t1⟩ c7 ⟨d7, put_same, hd7.mono (by omega)⟩ o7
      | false =>
        trivial
        refine ⟨a, n + 1 + 6 * tl.length, rfl, ⟨d7, put_same, hd7⟩, fun b d8 b0 b1 hd8 => ?_⟩
        rw [put_put]
        trivial
        refine l_short (by show 4 ≤ 1000; decide) ?_
        trivial
        have c8 : (S'.put a d8) c = some (.lst (ks.map lkD)) := by rw [put_ne (Ne.symm nac)]; exact e5
        have o8 : ∀ b, b ≠ a → b ≠ c → (S'.put a d8) b = S b := fun b b1 b2 => by rw [put_ne b1]; exact e8 b b1 b2
        refine l_app c8 (by rw [List.length_map, sizeLine_eq]; omega) ?_
        exact last t b d8 _ ⟨t0, t1⟩ ⟨b0, b1⟩ c8 ⟨d8, put_same, hd8⟩ o8
  case fin =>
    rintro ρ S' ⟨dn, tl, ks, o9, o10, o11, e1, e2, rfl, e3, e4, e5, ⟨d6, e6, e7⟩, e8⟩
    have t0 : tl = [] := List.map_eq_nil_iff.mp e2.symm
    subst t0
    rw [List.append_nil] at e1
    subst e1
    have kl : ks.length ≤ 16 := by
      rw [← e3, List.length_map] at hp3; exact hp3
    trivial
    refine ⟨ks.map lkD, false, by rw [vw_ref e5]; rfl, ⟨by rw [List.length_map]; omega, fun d hd => ?_, fun d hd e he => ?_⟩, fun ys hys => ?_⟩
    · obtain ⟨x, _, rfl⟩ := List.mem_map.mp hd
      exact ⟨rfl, rfl⟩
    · obtain ⟨x, _, rfl⟩ := List.mem_map.mp hd
      obtain ⟨y, _, rfl⟩ := List.mem_map.mp he
      rfl
    · obtain ⟨zs, rfl, hz⟩ := links_sorted e4 (by rw [e3]; exact hp2) kl hys
      trivial
      refine l_tuple (.inl rfl) ?_
      trivial
      refine l_short (by show 2 ≤ 1000; decide) ?_
      refine l_end (S' := S.put a d6) ?_ (q ls zs d6 hls hz (e7.mono (by omega)))
      refine sub_put_of (fun x hx y hy => ?_) e6
      have n1 : x ≠ c := fun z => by rw [z, hSc] at hy; cases hy
      rw [e8 x hx n1]; exact hy
end
end DL
end
section
set_option maxHeartbeats 4000000
/-! The law: promises kept. -/
namespace DL
open PySem PySem.Spec L2 TL
local macro_rules
  | `(tactic| trivial) => `(tactic| (repeat (first
    | (with_reducible refine l_seq ?_)
    | (with_reducible refine l_next ?_)
    | (with_reducible refine l_set ?_)
    | (with_reducible refine l_expr ?_)
    | (with_reducible refine l_ret ?_)
    | (with_reducible refine l_if ?_)
    | (with_reducible refine l_par ?_)
    | (with_reducible refine l_par2 ?_)
    | (with_reducible refine l_asg ?_)
    | (with_reducible refine l_for ?_)
    | (with_reducible refine l_putIx ?_)
    | (with_reducible refine l_putF ?_)
    | ((with_reducible apply l_var); focus rfl)
    | (with_reducible refine l_c ?_)
    | (with_reducible refine l_bin ?_)
    | (with_reducible refine l_test ?_)
    | (with_reducible refine l_bl ?_)
    | (with_reducible refine l_and ?_)
    | (with_reducible refine l_or ?_)
    | (with_reducible refine l_not ?_)
    | (with_reducible refine l_andV ?_)
    | (with_reducible refine l_orV ?_)
    | (with_reducible refine l_notV ?_)
    | (with_reducible refine l_ifE ?_)
    | (with_reducible refine l_truB ?_)
    | (with_reducible refine l_tru ?_)
    | (with_reducible refine l_yes ?_)
    | (with_reducible refine l_chain ?_)
    | (with_reducible refine l_nil ?_)
    | (with_reducible refine l_cons ?_)
    | (with_reducible refine l_star ?_)
    | (with_reducible refine l_tup ?_)
    | (with_reducible refine l_lst ?_)
    | (with_reducible refine l_lstM ?_)
    | (with_reducible refine l_frz2 ?_)
    | (with_reducible refine l_call ?_)
    | (with_reducible refine l_fn ?_)
    | (with_reducible refine l_bm ?_)
    | (with_reducible refine l_rng1 ?_)
    | (with_reducible refine l_rng2 ?_)
    | (with_reducible refine l_seqI ?_)
    | (with_reducible refine l_enum ?_)
    | (with_reducible refine l_zip ?_)
    | (with_reducible refine l_lc ?_)
    | (with_reducible refine l_lcM ?_)
    | (with_reducible refine l_sl2 ?_)
    | (with_reducible refine l_noP ?_)
    | (with_reducible refine l_part ?_)
    | (with_reducible refine l_int ?_)
    | (with_reducible refine l_rev ?_)
    | (with_reducible refine l_ss ?_)
    | (with_reducible refine l_fld ?_)
    | (with_reducible refine l_prop ?_)
    | (with_reducible refine l_mk ?_)
    | (with_reducible refine l_fmt2 ?_)
    | (with_reducible refine l_joined ?_)
    | (with_reducible refine l_js0 ?_)
    | (with_reducible refine l_jsc ?_)
    | (with_reducible refine l_add ?_)
    | (with_reducible refine l_sub ?_)
    | (with_reducible refine l_lt ?_)
    | (with_reducible refine l_gt ?_)
    | (with_reducible refine l_le ?_)
    | (with_reducible refine l_ge ?_)
    | (with_reducible refine l_eq ?_)
    | (with_reducible refine l_ne ?_)
    | (with_reducible refine l_intI ?_)
    | (with_reducible refine l_intB ?_)
    | (with_reducible refine l_abs ?_)
    | (with_reducible refine l_max ?_)
    | (with_reducible refine l_min ?_)
    | (with_reducible refine l_isN ?_)
    | (with_reducible refine l_it rfl ?_)
    | (with_reducible refine l_if0 rfl ?_)
    | dsimp only)))
/-! ### repr of a world -/
structure Sh (M : Nat) (p : PyData) : Prop where
  a : p.showable = true
  b : p.hasDict = false
  c : p.leavesShort 13 = true
  d : p.bulk ≤ M
theorem Sh.mono {M N : Nat} {p : PyData} (h : Sh M p) (k : M ≤ N) : Sh N p := ⟨h.a, h.b, h.c, Nat.le_trans h.d k⟩
theorem sh_all {M : Nat} : ∀ {xs : List PyData}, (∀ x ∈ xs, Sh M x) → PyData.showableAll xs = true ∧ PyData.hasDictAll xs = false ∧ PyData.leavesShortAll 13 xs = true ∧ PyData.bulkAll xs ≤ xs.length * (M + 1)
  | [], _ => ⟨rfl, rfl, rfl, Nat.zero_le _⟩
  | x :: xs, h => by
    have h1 := h x List.mem_cons_self
    obtain ⟨k1, k2, k3, k4⟩ := sh_all fun y hy => h y (List.mem_cons_of_mem _ hy)
    refine ⟨?_, ?_, ?_, ?_⟩
    · simp only [PyData.showableAll, h1.a, k1, Bool.and_self]
    · simp only [PyData.hasDictAll, h1.b, k2, Bool.or_self]
    · simp only [PyData.leavesShortAll, h1.c, k3, Bool.and_self]
    · have := h1.d
      rw [PyData.bulkAll, List.length_cons, Nat.add_mul]
      omega
theorem sh_tup {M : Nat} {xs : List D} (h : ∀ x ∈ xs, Sh M (toPy x)) : Sh (xs.length * (M + 1)) (toPy (.tup xs)) := by
  obtain ⟨k1, k2, k3, k4⟩ := sh_all (xs := xs.map toPy) (M := M) fun p hp => by
    obtain ⟨x, hx, rfl⟩ := List.mem_map.mp hp
    exact h x hx
  rw [List.length_map] at k4
  rw [toPy, toPyL_map]
  exact ⟨by simp only [PyData.showable]; exact k1, by simp only [PyData.hasDict]; exact k2, by simp only [PyData.leavesShort]; exact k3, by simp only [PyData.bulk]; exact k4⟩
theorem sh_nm {l : Nm} (h : NameL l) : Sh 8 (toPy (nmD l)) := by
  show Sh 8 (.str (tx l))
  refine ⟨by simp only [PyData.showable], by simp only [PyData.hasDict], ?_, ?_⟩
  · simp only [PyData.leavesShort, List.all_eq_true, decide_eq_true_eq]
    intro c hc
    have hc : c ∈ tl (tx l) := hc
    rw [tl_tx] at hc
    have := (h.2.2 c hc).2
    exact Nat.lt_of_le_of_lt this (by decide)
  · simp only [PyData.bulk]
    have := h.2.1
    show (tx l).length ≤ 8
    rw [tx_len]; exact this
theorem sh_far {i : Int} (h : FarI i) : Sh 8 (toPy (.int i)) := by
  show Sh 8 (.int i)
  refine ⟨by simp only [PyData.showable, decide_eq_true_eq]; exact far_log h, by simp only [PyData.hasDict], ?_, by simp only [PyData.bulk]; omega⟩
  simp only [PyData.leavesShort, PyData.shown]
  refine decide_eq_true ?_
  have e := num_tx (i := i) (by have := h.1; omega)
  show (Str.ofString (toString i)).length ≤ 13
  rw [e, tx_len]
  have := far_len h
  omega
theorem sh_wD {ls : List Nm} {ks : List Lk} (h : Names ls) (k : Links ls ks) : Sh 5000 (toPy (wD ls ks)) := by
  have h1 : Sh 1000 (toPy (rtD ls)) := by
    refine (sh_tup (M := 8) fun x hx => ?_).mono ?_
    · obtain ⟨l, hl, rfl⟩ := List.mem_map.mp hx
      exact sh_nm (h.1 l hl)
    · have := h.2.2.2
      rw [List.length_map]; omega
  have h2 : Sh 1000 (toPy (lnD ks)) := by
    refine (sh_tup (M := 36) fun x hx => ?_).mono ?_
    · obtain ⟨l, hl, rfl⟩ := List.mem_map.mp hx
      obtain ⟨⟨p1, p2, _⟩, t1, k1⟩ := k.1 l hl
      refine (sh_tup (M := 8) (xs := [nmD l.a, nmD l.b, .int l.t, .int l.k]) fun y hy => ?_).mono (by show 4 * 9 ≤ 36; decide)
      simp only [List.mem_cons, List.not_mem_nil, or_false] at hy
      rcases hy with e | e | e | e
      · rw [e]; exact sh_nm (h.1 _ p1)
      · rw [e]; exact sh_nm (h.1 _ p2)
      · rw [e]; exact sh_far t1
      · rw [e]; exact sh_far k1
    · have := k.2.2
      rw [List.length_map]; omega
  refine (sh_tup (M := 1000) (xs := [rtD ls, lnD ks]) fun y hy => ?_).mono (by show 2 * 1001 ≤ 5000; decide)
  rcases List.mem_cons.mp hy with e | hy
  · rw [e]; exact h1
  · rw [List.mem_singleton.mp hy]; exact h2
theorem isDat_w {ls : List Nm} {ks : List Lk} : isDat (wD ls ks) = true := by
  have h1 : datk 7 (rtD ls) = true := by
    show (ls.map nmD).all (datk 6) = true
    rw [List.all_eq_true]
    intro y hy
    obtain ⟨x, hx, rfl⟩ := List.mem_map.mp hy
    rfl
  have h2 : datk 7 (lnD ks) = true := by
    show (ks.map lkD).all (datk 6) = true
    rw [List.all_eq_true]
    intro y hy
    obtain ⟨x, hx, rfl⟩ := List.mem_map.mp hy
    rfl
  show ([rtD ls, lnD ks]).all (datk 7) = true
  rw [List.all_cons, List.all_cons, h1, h2]; rfl
section
variable {S : Sto} {R : DK} {ls : List Nm} {ks : List Lk}
theorem l_reprW (h : Names ls) (k : Links ls ks) (q : R (.str (toPy (wD ls ks)).shown) S) : dRepr [wD ls ks] S R :=
  have z := sh_wD h k
  ⟨wD ls ks, [rtD ls, lnD ks], rfl, .inr (.inl rfl), isDat_w, z.a, z.b, PyData.shown_fits_bulk (B := 13) (by decide) (by decide) z.c (Nat.le_trans z.d (by decide)), q⟩
abbrev fineRest (C_Net : Addr) : DTS := (dSeq (dPar 3 4 (dCons (dFn (sp__law_made C_Net) (dCons (dVar 1) dNil)) (dCons (dFn sp__law_net_page (dCons (dVar 1) dNil)) dNil))) (dSeq (dIf (dOr (dTest (dBin dNe (dFn (sp_show_net C_Net) (dCons (dVar 3) dNil)) (dVar 4))) (dNot (dTru (dCall dIsi (dCons (dFn (sp_show_net C_Net) (dCons (dVar 3) dNil)) (dCons (dC (.ty "str")) dNil)))))) (dRet (dC (.bl false))) dNext) (dSeq (dSet 5 (dFn (sp_read_net C_Net) (dCons (dVar 4) dNil))) (dRet (dAndV (dBin (dEqC C_Net (sp_Net___eq__ C_Net)) (dVar 5) (dVar 3)) (dAndV (dCall (dIsiC C_Net) (dCons (dVar 5) (dCons (dC (.ref C_Net)) dNil))) (dBin dEq (dCall dRepr (dCons (dTup (dCons (dProp C_Net (sp_Net_routers C_Net) (dVar 5)) (dCons (dProp C_Net (sp_Net_links C_Net) (dVar 5)) dNil))) dNil)) (dCall dRepr (dCons (dVar 1) dNil)))))))))
theorem eqS_same {x : Str} : PyData.eqv (toPy (.str x)) (toPy (.str x)) = true := by
  show PyData.eqv (.str x) (.str x) = true
  rw [str_eqv]; exact decide_eq_true rfl
theorem fineRest_ok {C : Addr} {d0 : Option D} {o2 : Option D} (h : Names ls) (k : Links ls ks) (q : (dEnds R).rt (.bl true) S) : fineRest C (dEnds R) [d0, some (wD ls ks), o2, none, none, none, none, none, none, none] S := by
  unfold fineRest
  trivial
  refine ⟨ls, ks, rfl, h, k, ?_⟩
  trivial
  refine ⟨ls, ks, rfl, h, k, ?_⟩
  trivial
  refine ⟨ls, ks, rfl, h, k, ?_⟩
  trivial
  refine ⟨⟨rfl, rfl⟩, ?_⟩
  refine ⟨false, by show D.bl (!PyData.eqv (toPy (.str (tx (pageL ls ks)))) (toPy (.str (tx (pageL ls ks))))) = _; rw [eqS_same]; rfl, ?_⟩
  refine l_if0 rfl ?_
  trivial
  refine ⟨ls, ks, rfl, h, k, ?_⟩
  trivial
  refine l_isi (ty := "str") rfl (by decide) ?_
  refine ⟨true, rfl, ?_⟩
  refine l_if0 rfl ?_
  trivial
  refine ⟨ls, ks, rfl, h, k, ?_⟩
  trivial
  refine ⟨_, _, if_pos rfl, if_pos rfl, ?_⟩
  refine ⟨ls, ks, rfl, ?_⟩
  refine ⟨true, rfl, ?_⟩
  refine ⟨true, rfl, ?_⟩
  trivial
  refine ⟨_, _, rfl, if_pos rfl, ?_⟩
  refine ⟨true, rfl, ?_⟩
  trivial
  refine ⟨_, if_pos rfl, ?_⟩
  refine ⟨_, ls, ks, rfl, rfl, ?_⟩
  trivial
  refine ⟨_, if_pos rfl, ?_⟩
  refine ⟨_, ls, ks, rfl, rfl, ?_⟩
  trivial
  refine l_short (by show 2 ≤ 1000; decide) ?_
  trivial
  refine l_reprW h k ?_
  trivial
  refine l_reprW h k ?_
  refine ⟨⟨rfl, rfl⟩, ?_⟩
  show (dEnds R).rt (D.bl (PyData.eqv (toPy (.str (toPy (wD ls ks)).shown)) (toPy (.str (toPy (wD ls ks)).shown)))) S
  rw [eqS_same]; exact q
end
end DL
end
section
set_option maxHeartbeats 4000000
/-! The law: promises kept, the end. -/
namespace DL
open PySem PySem.Spec L2 TL
local macro_rules
  | `(tactic| trivial) => `(tactic| (repeat (first
    | (with_reducible refine l_seq ?_)
    | (with_reducible refine l_next ?_)
    | (with_reducible refine l_set ?_)
    | (with_reducible refine l_expr ?_)
    | (with_reducible refine l_ret ?_)
    | (with_reducible refine l_if ?_)
    | (with_reducible refine l_par ?_)
    | (with_reducible refine l_par2 ?_)
    | (with_reducible refine l_asg ?_)
    | (with_reducible refine l_for ?_)
    | (with_reducible refine l_putIx ?_)
    | (with_reducible refine l_putF ?_)
    | ((with_reducible apply l_var); focus rfl)
    | (with_reducible refine l_c ?_)
    | (with_reducible refine l_bin ?_)
    | (with_reducible refine l_test ?_)
    | (with_reducible refine l_bl ?_)
    | (with_reducible refine l_and ?_)
    | (with_reducible refine l_or ?_)
    | (with_reducible refine l_not ?_)
    | (with_reducible refine l_andV ?_)
    | (with_reducible refine l_orV ?_)
    | (with_reducible refine l_notV ?_)
    | (with_reducible refine l_ifE ?_)
    | (with_reducible refine l_truB ?_)
    | (with_reducible refine l_tru ?_)
    | (with_reducible refine l_yes ?_)
    | (with_reducible refine l_chain ?_)
    | (with_reducible refine l_nil ?_)
    | (with_reducible refine l_cons ?_)
    | (with_reducible refine l_star ?_)
    | (with_reducible refine l_tup ?_)
    | (with_reducible refine l_lst ?_)
    | (with_reducible refine l_lstM ?_)
    | (with_reducible refine l_frz2 ?_)
    | (with_reducible refine l_call ?_)
    | (with_reducible refine l_fn ?_)
    | (with_reducible refine l_bm ?_)
    | (with_reducible refine l_rng1 ?_)
    | (with_reducible refine l_rng2 ?_)
    | (with_reducible refine l_seqI ?_)
    | (with_reducible refine l_enum ?_)
    | (with_reducible refine l_zip ?_)
    | (with_reducible refine l_lc ?_)
    | (with_reducible refine l_lcM ?_)
    | (with_reducible refine l_sl2 ?_)
    | (with_reducible refine l_noP ?_)
    | (with_reducible refine l_part ?_)
    | (with_reducible refine l_int ?_)
    | (with_reducible refine l_rev ?_)
    | (with_reducible refine l_ss ?_)
    | (with_reducible refine l_fld ?_)
    | (with_reducible refine l_prop ?_)
    | (with_reducible refine l_mk ?_)
    | (with_reducible refine l_fmt2 ?_)
    | (with_reducible refine l_joined ?_)
    | (with_reducible refine l_js0 ?_)
    | (with_reducible refine l_jsc ?_)
    | (with_reducible refine l_add ?_)
    | (with_reducible refine l_sub ?_)
    | (with_reducible refine l_lt ?_)
    | (with_reducible refine l_gt ?_)
    | (with_reducible refine l_le ?_)
    | (with_reducible refine l_ge ?_)
    | (with_reducible refine l_eq ?_)
    | (with_reducible refine l_ne ?_)
    | (with_reducible refine l_intI ?_)
    | (with_reducible refine l_intB ?_)
    | (with_reducible refine l_abs ?_)
    | (with_reducible refine l_max ?_)
    | (with_reducible refine l_min ?_)
    | (with_reducible refine l_isN ?_)
    | (with_reducible refine l_it rfl ?_)
    | (with_reducible refine l_if0 rfl ?_)
    | dsimp only)))
section
variable {S : Sto} {R : DK}
theorem far_of {x : D} {u : Int} (u0 : 0 ≤ u) (u1 : u < 999999999) (hx : x ∈ [D.int 1, .int 9, .int 10, .int 999999999, .int ((10 : Int) ^ (8 : Int).toNat), .int (1 + u)]) : ∃ v : Int, x = .int v ∧ FarI v := by
  simp only [List.mem_cons, List.not_mem_nil, or_false] at hx
  rcases hx with e | e | e | e | e | e
  · exact ⟨_, e, by decide, by decide⟩
  · exact ⟨_, e, by decide, by decide⟩
  · exact ⟨_, e, by decide, by decide⟩
  · exact ⟨_, e, by decide, by decide⟩
  · exact ⟨_, e, by decide, by decide⟩
  · exact ⟨_, e, by omega, by omega⟩
theorem sem__law_fine {C a : Addr} {n : Nat} (hp : PotAt S a (n + 170)) (q : ∀ d, Pot n d → R (.bl true) (S.put a d)) : t__law_fine C (dEnds R) [some (.ref a), none, none, none, none, none, none, none, none, none] S := by
  have hSa : S a ≠ none := by
    obtain ⟨z, h1, _⟩ := hp
    rw [h1]; exact fun z => nomatch z
  have rest : ∀ (ls : List Nm) (ks : List Lk) (o2 : Option D) (S1 : Sto), Names ls → Links ls ks → (∀ b, b ≠ a → S1 b = S b) → PotAt S1 a n → fineRest C (dEnds R) [some (.ref a), some (wD ls ks), o2, none, none, none, none, none, none, none] S1 := by
    intro ls ks o2 S1 h k off ⟨d, hd, hpd⟩
    refine fineRest_ok h k (l_end (S' := S.put a d) ?_ (q d hpd))
    exact sub_put_of (fun x hx y hy => by rw [off x hx]; exact hy) hd
  unfold t__law_fine
  trivial
  refine ⟨a, _, _, _, n + 40, rfl, hp, by decide, by decide, fun ls ks d1 hls hks hd1 => ?_⟩
  trivial
  refine ⟨a, _, n + 39, rfl, ⟨d1, put_same, hd1⟩, by decide, by decide, fun v d2 v0 v1 hd2 => ?_⟩
  rw [put_put]
  trivial
  refine l_ite (fun b => ?_) fun b => ?_
  · trivial
    refine l_pow (by decide) (by decide) ?_
    trivial
    refine l_pow (by decide) (by decide) ?_
    trivial
    refine ⟨a, _, n + 38, rfl, ⟨d2, put_same, hd2⟩, by decide, by decide, fun u d3 u0 u1 hd3 => ?_⟩
    rw [put_put]
    trivial
    refine l_short (by show 6 ≤ 1000; decide) ?_
    trivial
    refine l_ixT (z := rtD ls) rfl ?_
    trivial
    refine l_ixT (z := lnD ks) rfl ?_
    refine ⟨ks.map lkD, rfl, ?_⟩
    intro c hc
    have nac : a ≠ c := fun z => by rw [← z, put_same] at hc; cases hc
    have hSc : S c = none := by rwa [put_ne (Ne.symm nac)] at hc
    have hk := hks.2.2
    refine comp_ind (fun ds acc S' => ∃ (dn tl ks' : List Lk), dn ++ tl = ks ∧ ds = tl.map lkD ∧ acc = ks'.map lkD ∧ (ks'.map fun l => (l.a, l.b)) = (dn.map fun l => (l.a, l.b)) ∧ (∀ l ∈ ks', FarI l.t ∧ FarI l.k) ∧ S' c = some (.lst acc) ∧ PotAt S' a (n + 2 * tl.length) ∧ ∀ b, b ≠ a → b ≠ c → S' b = S b)
      ?cell ?fin ?turn _ _ _ ⟨[], ks, [], rfl, rfl, rfl, rfl, fun l hl => (by cases hl), put_same, ⟨d3, by rw [put_ne nac, put_same], hd3.mono (by omega)⟩, fun b h1 h2 => by rw [put_ne h2, put_ne h1]⟩
    case cell =>
      rintro ds acc S' ⟨_, _, _, _, _, _, _, _, h, _⟩
      exact ⟨h, rfl⟩
    case turn =>
      rintro d ds acc S' ⟨dn, tl, ks', e1, e2, e3, e4, e5, e6, ⟨d4, e7, e8⟩, e9⟩ kk
      cases tl with
      | nil => cases e2
      | cons l tl =>
        cases e2
        rw [List.length_cons] at e8
        refine ⟨_, rfl, ?_⟩
        trivial
        refine ⟨a, _, _, n + 2 * tl.length + 1, rfl, ⟨d4, e7, e8.mono (by omega)⟩, (fun z => nomatch z), rfl, (fun z => nomatch z), (by show 6 ≤ 1000; decide), fun x d5 hx hd5 => ?_⟩
        obtain ⟨t, rfl, ht⟩ := far_of u0 u1 hx
        trivial
        refine ⟨a, _, _, n + 2 * tl.length, rfl, ⟨d5, put_same, hd5⟩, (fun z => nomatch z), rfl, (fun z => nomatch z), (by show 6 ≤ 1000; decide), fun x d6 hx hd6 => ?_⟩
        obtain ⟨s, rfl, hs⟩ := far_of u0 u1 hx
        rw [put_put]
        trivial
        refine l_short (by show 4 ≤ 1000; decide) ?_
        have kl : ks'.length ≤ 16 := by
          have z : (ks'.map fun l => (l.a, l.b)).length ≤ ks.length := by rw [e4, List.length_map, ← e1, List.length_append]; omega
          rw [List.length_map] at z; omega
        subst e3
        refine ⟨⟨by rw [put_ne (Ne.symm nac)]; exact e6, by rw [List.length_map, sizeLine_eq]; omega⟩, kk _ _ ⟨dn ++ [l], tl, ks' ++ [⟨l.a, l.b, t, s⟩], by rw [← e1]; simp, rfl, by rw [List.map_append]; rfl, by rw [List.map_append, List.map_append, e4]; rfl, fun y hy => ?_, put_same, ⟨d6, by rw [put_ne nac, put_same], hd6⟩, fun b b1 b2 => by rw [put_ne b2, put_ne b1]; exact e9 b b1 b2⟩⟩
        rcases List.mem_append.mp hy with hy | hy
        · exact e5 y hy
        · rw [List.mem_singleton.mp hy]; exact ⟨ht, hs⟩
    case fin =>
      rintro acc S' ⟨dn, tl, ks', e1, e2, rfl, e4, e5, e6, ⟨d4, e7, e8⟩, e9⟩
      have t0 : tl = [] := List.map_eq_nil_iff.mp e2.symm
      subst t0
      rw [List.append_nil] at e1
      subst e1
      trivial
      refine l_tuple (.inl rfl) ?_
      trivial
      refine l_short (by show 2 ≤ 1000; decide) ?_
      have hl : Links ls ks' := by
        refine ⟨fun l hl => ?_, ?_, ?_⟩
        · obtain ⟨f1, f2⟩ := e5 l hl
          have m : (l.a, l.b) ∈ dn.map fun l => (l.a, l.b) := by rw [← e4]; exact List.mem_map.mpr ⟨l, hl, rfl⟩
          obtain ⟨y, hy, ey⟩ := List.mem_map.mp m
          refine ⟨?_, f1, f2⟩
          rw [← ey]; exact (hks.1 y hy).1
        · have p1 : (dn.map fun l => (l.a, l.b)).Pairwise PLt := List.pairwise_map.mpr hks.2.1
          rw [← e4] at p1
          exact List.pairwise_map.mp p1
        · have z := congrArg List.length e4
          rw [List.length_map, List.length_map] at z
          omega
      refine rest ls ks' _ _ hls hl (fun b hb => ?_) ⟨d4, by rw [del_ne nac]; exact e7, e8.mono (by omega)⟩
      by_cases z : b = c
      · rw [z, del_same, hSc]
      · rw [del_ne z]; exact e9 b hb z
  · exact rest ls ks _ _ hls hks (fun b hb => put_ne hb) ⟨d2, put_same, hd2.mono (by omega)⟩
theorem sem_law {ns : List Int} (h63 : ns.length ≤ 63) (q : R (.bl true) S) : t_law (dEnds R) [some (.scr ns), none, none] S := by
  unfold t_law
  trivial
  refine ⟨ns, 3, rfl, h63, fun as S1 hp nd hn sub => ?_⟩
  refine ⟨as.map D.ref, rfl, ?_⟩
  refine for_ind (fun ds ρ S' => ∃ (tl : List Addr) (o1 : Option D), (∀ a ∈ tl, a ∈ as) ∧ ds = tl.map D.ref ∧ ρ = [some (.scr ns), o1, none] ∧ tl.Nodup ∧ (∀ a ∈ tl, PotAt S' a (2 ^ 39)) ∧ Sub S S')
    (fun _ _ _ _ => rfl) ?fin ?turn _ _ _ ⟨as, none, fun _ h => h, rfl, rfl, nd, hp, sub⟩
  case fin =>
    rintro ρ S' ⟨tl, o1, e1, e2, rfl, e3, e4, e5⟩
    trivial
    exact l_end e5 q
  case turn =>
    rintro d ds ρ S' ⟨tl, o1, e1, e2, rfl, e3, e4, e5⟩ kk
    cases tl with
    | nil => cases e2
    | cons a tl =>
      cases e2
      obtain ⟨nd1, nd2⟩ := List.nodup_cons.mp e3
      have hSa : S a = none := hn a (e1 a List.mem_cons_self)
      refine ⟨_, rfl, ?_⟩
      trivial
      refine ⟨3, rfl, ⟨by decide, by decide⟩, ?_⟩
      intro c hc
      have pa := e4 a List.mem_cons_self
      have nac : a ≠ c := fun z => by
        obtain ⟨y, hy, _⟩ := pa
        rw [← z, hy] at hc; cases hc
      refine comp_ind (fun ds acc S2 => ∃ (l : List Nat) (m : List Nat), ds = l.map (fun (i : Nat) => D.int ((0 : Int) + (i : Int))) ∧ acc = m.map (fun _ => D.bl true) ∧ m.length + l.length ≤ 3 ∧ S2 c = some (.lst acc) ∧ PotAt S2 a (170 * l.length) ∧ ∀ b, b ≠ a → b ≠ c → S2 b = S' b)
        ?cell ?fin ?turn _ _ _ ⟨List.range 3, [], rfl, rfl, by decide, put_same, ?pot, fun b h1 h2 => put_ne h2⟩
      case pot =>
        obtain ⟨y, hy, hpy⟩ := pa
        exact ⟨y, by rw [put_ne nac]; exact hy, hpy.mono (by decide)⟩
      case cell =>
        rintro ds acc S2 ⟨_, _, _, _, _, h, _⟩
        exact ⟨h, True.intro⟩
      case turn =>
        rintro d ds acc S2 ⟨l, m, f1, rfl, f3, f4, f5, f6⟩ k2
        cases l with
        | nil => cases f1
        | cons i l =>
          cases f1
          rw [List.length_cons] at f3 f5
          refine ⟨_, rfl, ?_⟩
          trivial
          refine ⟨a, 170 * l.length, rfl, f5, fun d7 hd7 => ?_⟩
          refine ⟨⟨by rw [put_ne (Ne.symm nac)]; exact f4, by rw [List.length_map, sizeLine_eq]; omega⟩, k2 _ _ ⟨l, m ++ [0], rfl, by rw [List.map_append]; rfl, by rw [List.length_append, List.length_singleton]; omega, put_same, ⟨d7, by rw [put_ne nac, put_same], hd7⟩, fun b b1 b2 => by rw [put_ne b2, put_ne b1]; exact f6 b b1 b2⟩⟩
      case fin =>
        rintro acc S2 ⟨l, m, f1, rfl, f3, f4, f5, f6⟩
        trivial
        refine l_allT (xs := m) rfl ?_
        refine ⟨true, rfl, ?_⟩
        trivial
        refine kk _ _ ⟨tl, _, fun x hx => e1 x (List.mem_cons_of_mem _ hx), rfl, rfl, nd2, fun x hx => ?_, fun b y hy => ?_⟩
        · obtain ⟨y, hy, hpy⟩ := e4 x (List.mem_cons_of_mem _ hx)
          have n1 : x ≠ a := fun z => nd1 (by rw [← z]; exact hx)
          have n2 : x ≠ c := fun z => by rw [z, hc] at hy; cases hy
          exact ⟨y, by rw [del_ne n2, f6 x n1 n2]; exact hy, hpy⟩
        · have n1 : b ≠ a := fun z => by rw [z, hSa] at hy; cases hy
          have y1 := e5 b y hy
          have n2 : b ≠ c := fun z => by rw [z, hc] at y1; cases y1
          rw [del_ne n2, f6 b n1 n2]; exact y1
end
end DL
end
section
set_option maxHeartbeats 4000000
/-! The data layer, part m: from what the top has written to defs, the law's start. -/
namespace DL
open PySem PySem.Spec L2 PyProof.Rows
theorem fnG_src {P : Program} {w : World} {K : PySem.W.Frag} {mg : Str → Option Value} {base : Heap} {x : Str} {k : Nat} {ps N : List Str} {sp : DSp} {st : Stmt} {t : DTS} {f : Addr} {fd : FuncData} (F : Fun K x x st f fd) (Sc : FnScope N ps (defScope st)) (len : ∀ ds S R RE, sp ds S R RE → ds.length = ps.length)
    (der : ∀ (cd : Value) (A : Around) (out : List Env) (s : Shared) (H : Hp) (E : XK), A.guards = some [] → Room k (A.deeper (envOfC x (defScope st) s.heap.objs.size f cd)) → DSs (bX P w K mg base N x st f cd A out s H E) (defBody st) t)
    (sem : ∀ ds S R RE, sp ds S R RE → t (dEnds R) (startD N ds) S) : FnG P w K mg base CX0 (k + 1) f fd ps (lP K sp) := by
  refine fnG_of F Sc (fun vs H Q E h => ?_) (fun cd A out s H vs Q E hg hr h => ?_)
  · obtain ⟨ds, S, R, RE, l, _, h, _⟩ := h
    rw [l.len]
    exact len ds S R RE h
  · refine ⟨_, (der cd A out s H E hg hr).nox, ?_⟩
    obtain ⟨ds, S, R, RE, l, rs, h, n, _⟩ := h
    exact ⟨startD N ds, S, dEnds R, sl_start N l, rs, sem ds S R RE h, ends_ok n⟩
section
variable {K : PySem.W.Frag} {h : Heap} {mg : Str → Option Value} {x qual : Str} {ps : List Str} {st : Stmt} {f : Addr} {oc : Value} {od an : Option Addr} {osl : Array (Option Value)} {kV doc pm cdv ct : Value}
theorem src_of (X : K.In h) (G : h.Ns mainGlobals mg) (a : PySem.W.nsIn K mainGlobals x = some (some (.ref f))) (l : K.lookup f = some ⟨oc, od, .func (PySem.W.fnOf x x (defArgs st) (defBody st) (defScope st) .none kV doc pm an cdv ct), osl⟩)
    (c : PySem.W.codeIn K cdv x = true) (k : PySem.W.keepIn K (.ref f) = true) (b : ∀ (kV doc pm : Value) (an : Option Addr) (cdv ct : Value) (us : List Value), us.length = ps.length → bindArgs (PySem.W.fnOf x x (defArgs st) (defBody st) (defScope st) .none kV doc pm an cdv ct) ⟨us, []⟩ = pure (ps.zip us)) : Src K mg x ps st :=
  ⟨f, _, fun_mk l c k, PySem.W.mg_of X G a, (fun_mk l c k).binds b⟩
theorem srcM_of (l : K.lookup f = some ⟨oc, od, .func (PySem.W.fnOf x qual (defArgs st) (defBody st) (defScope st) .none kV doc pm an cdv ct), osl⟩)
    (c : PySem.W.codeIn K cdv qual = true) (k : PySem.W.keepIn K (.ref f) = true) (b : ∀ (kV doc pm : Value) (an : Option Addr) (cdv ct : Value) (us : List Value), us.length = ps.length → bindArgs (PySem.W.fnOf x qual (defArgs st) (defBody st) (defScope st) .none kV doc pm an cdv ct) ⟨us, []⟩ = pure (ps.zip us)) : SrcM K x qual ps st f :=
  ⟨_, fun_mk l c k, (fun_mk l c k).binds b⟩
theorem con_str (X : K.In h) (G : h.Ns mainGlobals mg) {y : Str} {t : Tok} (a : PySem.W.nsIn K mainGlobals x = some (some (.str y t))) : GCon mg x (.str y) := ⟨_, PySem.W.mg_of X G a, ⟨t, rfl⟩⟩
theorem con_int (X : K.In h) (G : h.Ns mainGlobals mg) {y : Int} {t : Tok} (a : PySem.W.nsIn K mainGlobals x = some (some (.int y t))) : GCon mg x (.int y) := ⟨_, PySem.W.mg_of X G a, ⟨t, rfl⟩⟩
end
theorem law_start {K : PySem.W.Frag} {sp : DSp} (hsp : ∀ (ns : List Int) (S : Sto) (R : DK) RE, ns.length ≤ 63 → R (.bl true) S → sp [.scr ns] S R RE) (H : Hp) (a : Addr) (ns : List Int) (hl : ns.length ≤ 63) (hS : SqL K H a (ns.map V.int)) :
    lP K sp [.ref a] H (fun v _ => v = .bl true) fun _ _ _ => False := by
  have rs : RS K H (fun _ => none) := fun b d e => by cases e
  have rp : Rp K H (fun _ => none) (.ref a) (.scr ns) := .scr (hS.imp (fun h => ⟨rfl, h⟩) id)
  have h1 : sp [.scr ns] (fun _ => none) (fun d _ => d = .bl true) DX0 := hsp ns _ _ _ hl rfl
  refine ⟨[.scr ns], fun _ => none, fun d _ => d = .bl true, DX0, .cons rp .nil, rs, h1, fun d S' e v H' r _ _ => ?_, .none⟩
  subst e
  cases r
  rfl
theorem law_walk {l : PySem.W.OpenLaw} {k : Nat} {q : Program} {loose : List Str} {XP : (Str → Option Value) → Heap → Prop} {YP : World → Heap → Prop} {d : DefRec} {K : Params → PySem.W.Frag} {x : Str} {sp : DSp}
    (hn : l.most = some 63) (hdf : d.params.defaults = []) (hr : Room k callerA) (hY : ∀ (w : World) (h : Heap), YP w h → (K w.params).In h)
    (hsp : ∀ (ns : List Int) (S : Sto) (R : DK) RE, ns.length ≤ 63 → R (.bl true) S → sp [.scr ns] S R RE)
    (F : ∀ (w : World) (mg : Str → Option Value) (fa : Addr) (h : Heap), (K w.params).In h → h.Ns mainGlobals mg → mg d.name = some (.ref fa) →
      ∃ fd : FuncData, (∀ (s : Shared) (u : Value), BindsTo s fd ⟨[u], []⟩ [(x, u)]) ∧ ∀ base : Heap, (K w.params).In base → base.Ns mainGlobals mg → FnG l.prog w (K w.params) mg base CX0 k fa fd [x] (lP (K w.params) sp)) : PySem.W.WalkO q loose XP YP l.row.toRowW d [] (fun f vs => PySem.call f vs) :=
  walk_ofG (n := 63) (k := k) (x := x) (cx := fun _ => CX0) (sp := fun w => lP (K w.params) sp) hn (by decide) hdf hr hY F (fun w H a ns hl _ _ hS => law_start hsp H a ns hl hS) fun _ _ _ _ _ z => z
end DL
end
section
set_option maxHeartbeats 4000000
/-! The parts joined. Printed by fin.py. -/
namespace DL
open PySem PySem.Spec L2 PyProof.Rows
section
variable {P : Program} {w : World} {K : PySem.W.Frag} {mg : Str → Option Value} {base : Heap}
theorem law_ok {C_Net f_Net___init__ f_Net_links f_Net_routers q_Net_links q_Net_routers f_Net___eq__ : Addr} (B : Blt mg) 
    (c_LONGEST_NAME : GCon mg "LONGEST_NAME" (.int (8)))
    (c_LETTERS : GCon mg "LETTERS" (.str "abcdefghijklmnopqrstuvwxyz"))
    (c_MOST_ROUTERS : GCon mg "MOST_ROUTERS" (.int (8)))
    (c_FEWEST_ROUTERS : GCon mg "FEWEST_ROUTERS" (.int (2)))
    (c_LINK_nets : GCon mg "LINK_nets" (.int (4)))
    (c_MOST_LINKS : GCon mg "MOST_LINKS" (.int (16)))
    (cl_Net : Cls K C_Net)
    (no_Net_own_routers : NoAttr K C_Net "own_routers")
    (no_Net_own_links : NoAttr K C_Net "own_links")
    (m_Net : mg "Net" = some (.ref C_Net))
    (mk_Net : Mk K C_Net f_Net___init__)
    (c_BLANK : GCon mg "BLANK" (.str " "))
    (pr_Net_routers : PropOf K C_Net "routers" q_Net_routers f_Net_routers)
    (c_ROUTERS : GCon mg "ROUTERS" (.str "routers"))
    (pr_Net_links : PropOf K C_Net "links" q_Net_links f_Net_links)
    (c_LINK_texts : GCon mg "LINK_texts" (.str "link"))
    (c_NEW_ROW : GCon mg "NEW_ROW" (.str "\n"))
    (c_MOST_DIGITS : GCon mg "MOST_DIGITS" (.int (9)))
    (c_DIGITS : GCon mg "DIGITS" (.str "0123456789"))
    (c_LINK_WORDS : GCon mg "LINK_WORDS" (.int (5)))
    (is_Net : IsiC K C_Net)
    (eq_Net : PySem.W.findIn K (.ref C_Net) "__eq__" = some (some (.ref f_Net___eq__)))
    (fn_Net___eq__ : PySem.W.isFn K (.ref f_Net___eq__) = true)
    (src__law_pot : Src K mg "_law_pot" ps__law_pot s__law_pot)
    (src__law_pots : Src K mg "_law_pots" ps__law_pots s__law_pots)
    (src__law_take : Src K mg "_law_take" ps__law_take s__law_take)
    (src__law_of : Src K mg "_law_of" ps__law_of s__law_of)
    (src__law_names : Src K mg "_law_names" ps__law_names s__law_names)
    (src__law_turned : Src K mg "_law_turned" ps__law_turned s__law_turned)
    (src__law_pairs : Src K mg "_law_pairs" ps__law_pairs s__law_pairs)
    (src__law_far : Src K mg "_law_far" ps__law_far s__law_far)
    (src__law_world : Src K mg "_law_world" ps__law_world s__law_world)
    (src_is_tuple_to : Src K mg "is_tuple_to" ps_is_tuple_to s_is_tuple_to)
    (src_is_name : Src K mg "is_name" ps_is_name s_is_name)
    (src_are_ascending : Src K mg "are_ascending" ps_are_ascending s_are_ascending)
    (src_are_routers : Src K mg "are_routers" ps_are_routers s_are_routers)
    (src_is_tuple_of : Src K mg "is_tuple_of" ps_is_tuple_of s_is_tuple_of)
    (src_is_one_of : Src K mg "is_one_of" ps_is_one_of s_is_one_of)
    (src_is_ascending_of : Src K mg "is_ascending_of" ps_is_ascending_of s_is_ascending_of)
    (src_is_integer : Src K mg "is_integer" ps_is_integer s_is_integer)
    (src_is_from : Src K mg "is_from" ps_is_from s_is_from)
    (src_is_link : Src K mg "is_link" ps_is_link s_is_link)
    (src_are_links : Src K mg "are_links" ps_are_links s_are_links)
    (src_Net___init__ : SrcM K "__init__" "Net.__init__" ps_Net___init__ s_Net___init__ f_Net___init__)
    (src__law_made : Src K mg "_law_made" ps__law_made s__law_made)
    (src__law_net_page : Src K mg "_law_net_page" ps__law_net_page s__law_net_page)
    (src_Net_routers : SrcM K "routers" "Net.routers" ps_Net_routers s_Net_routers f_Net_routers)
    (src_Net_links : SrcM K "links" "Net.links" ps_Net_links s_Net_links f_Net_links)
    (src_show_net : Src K mg "show_net" ps_show_net s_show_net)
    (src_rows_of : Src K mg "rows_of" ps_rows_of s_rows_of)
    (src_integer_in : Src K mg "integer_in" ps_integer_in s_integer_in)
    (src_link_of_row : Src K mg "link_of_row" ps_link_of_row s_link_of_row)
    (src_net_rows : Src K mg "net_rows" ps_net_rows s_net_rows)
    (src_read_net : Src K mg "read_net" ps_read_net s_read_net)
    (src_Net___eq__ : SrcM K "__eq__" "Net.__eq__" ps_Net___eq__ s_Net___eq__ f_Net___eq__)
    (src__law_fine : Src K mg "_law_fine" ps__law_fine s__law_fine)
    {f : Addr} {fd : FuncData} (src_law : Fun K "law" "law" s_law f fd) :
    FnG P w K mg base CX0 9 f fd ps_law (lP K sp_law) := by
  have F__law_pot : Fn P w K mg base "_law_pot" 1 ps__law_pot (sp__law_pot) := fn_src src__law_pot sc__law_pot (by rintro ds S R RE ⟨v0, v1, rfl, _⟩; rfl) (fun f cd A out s H E hr => d__law_pot B hr) (by rintro ds S R RE ⟨v0, v1, rfl, h0, h1, q⟩; exact sem__law_pot h0 h1 q)
  have F__law_pots : Fn P w K mg base "_law_pots" 2 ps__law_pots (sp__law_pots) := fn_src src__law_pots sc__law_pots (by rintro ds S R RE ⟨v0, v1, rfl, _⟩; rfl) (fun f cd A out s H E hr => d__law_pots B F__law_pot hr) (by rintro ds S R RE ⟨v0, v1, rfl, h0, q⟩; exact sem__law_pots h0 q)
  have F__law_take : Fn P w K mg base "_law_take" 1 ps__law_take (sp__law_take) := fn_src src__law_take sc__law_take (by rintro ds S R RE ⟨v0, v1, v2, rfl, _⟩; rfl) (fun f cd A out s H E hr => d__law_take B hr) (by rintro ds S R RE ⟨v0, v1, v2, rfl, h0, h1, h2, q⟩; exact sem__law_take h0 h1 h2 q)
  have F__law_of : Fn P w K mg base "_law_of" 2 ps__law_of (sp__law_of) := fn_src src__law_of sc__law_of (by rintro ds S R RE ⟨v0, v1, v2, v3, rfl, _⟩; rfl) (fun f cd A out s H E hr => d__law_of B F__law_take hr) (by rintro ds S R RE ⟨v0, v1, v2, v3, rfl, h0, h1, h2, h3, h4, q⟩; exact sem__law_of h0 h1 h2 h3 h4 q)
  have F__law_names : Fn P w K mg base "_law_names" 3 ps__law_names (sp__law_names) := fn_src src__law_names sc__law_names (by rintro ds S R RE ⟨v0, v1, v2, rfl, _⟩; rfl) (fun f cd A out s H E hr => d__law_names B F__law_of F__law_take hr) (by rintro ds S R RE ⟨v0, v1, v2, rfl, h0, h1, h2, q⟩; exact sem__law_names h0 h1 h2 q)
  have F__law_turned : Fn P w K mg base "_law_turned" 2 ps__law_turned (sp__law_turned) := fn_src src__law_turned sc__law_turned (by rintro ds S R RE ⟨v0, v1, v2, v3, rfl, _⟩; rfl) (fun f cd A out s H E hr => d__law_turned B F__law_take hr) (by rintro ds S R RE ⟨v0, v1, v2, v3, rfl, h0, h1, h2, h3, h4, q⟩; exact sem__law_turned h0 h1 h2 h3 h4 q)
  have F__law_pairs : Fn P w K mg base "_law_pairs" 3 ps__law_pairs (sp__law_pairs) := fn_src src__law_pairs sc__law_pairs (by rintro ds S R RE ⟨v0, v1, v2, v3, rfl, _⟩; rfl) (fun f cd A out s H E hr => d__law_pairs B F__law_turned F__law_take hr) (by rintro ds S R RE ⟨v0, v1, v2, v3, rfl, h0, h1, h2, q⟩; exact sem__law_pairs h0 h1 h2 q)
  have F__law_far : Fn P w K mg base "_law_far" 3 ps__law_far (sp__law_far) := fn_src src__law_far sc__law_far (by rintro ds S R RE ⟨v0, v1, rfl, _⟩; rfl) (fun f cd A out s H E hr => d__law_far B F__law_take F__law_of hr) (by rintro ds S R RE ⟨v0, v1, rfl, h0, q⟩; exact sem__law_far h0 q)
  have F__law_world : Fn P w K mg base "_law_world" 4 ps__law_world (sp__law_world) := fn_src src__law_world sc__law_world (by rintro ds S R RE ⟨v0, v1, v2, v3, v4, rfl, _⟩; rfl) (fun f cd A out s H E hr => d__law_world B F__law_take F__law_names F__law_pairs F__law_far hr) (by rintro ds S R RE ⟨v0, v1, v2, v3, v4, rfl, h0, h1, h2, q⟩; exact sem__law_world h0 h1 h2 q)
  have F_is_tuple_to : Fn P w K mg base "is_tuple_to" 1 ps_is_tuple_to (sp_is_tuple_to) := fn_src src_is_tuple_to sc_is_tuple_to (by rintro ds S R RE ⟨v0, v1, rfl, _⟩; rfl) (fun f cd A out s H E hr => d_is_tuple_to B hr) (by rintro ds S R RE ⟨v0, v1, rfl, q⟩; exact sem_is_tuple_to q)
  have F_is_name : Fn P w K mg base "is_name" 1 ps_is_name (sp_is_name) := fn_src src_is_name sc_is_name (by rintro ds S R RE ⟨v0, rfl, _⟩; rfl) (fun f cd A out s H E hr => d_is_name B c_LONGEST_NAME c_LETTERS hr) (by rintro ds S R RE ⟨v0, rfl, h0, q⟩; exact sem_is_name h0 q)
  have F_are_ascending : Fn P w K mg base "are_ascending" 1 ps_are_ascending (sp_are_ascending) := fn_src src_are_ascending sc_are_ascending (by rintro ds S R RE ⟨v0, v1, rfl, _⟩; rfl) (fun f cd A out s H E hr => d_are_ascending B hr) (by rintro ds S R RE ⟨v0, v1, rfl, h0, h1, h2, q⟩; exact sem_are_ascending h0 h1 h2 q)
  have F_are_routers : Fn P w K mg base "are_routers" 2 ps_are_routers (sp_are_routers) := fn_src src_are_routers sc_are_routers (by rintro ds S R RE ⟨v0, rfl, _⟩; rfl) (fun f cd A out s H E hr => d_are_routers B c_MOST_ROUTERS F_is_tuple_to c_FEWEST_ROUTERS F_is_name F_are_ascending hr) (by rintro ds S R RE ⟨v0, rfl, h0, q⟩; exact sem_are_routers h0 q)
  have F_is_tuple_of : Fn P w K mg base "is_tuple_of" 1 ps_is_tuple_of (sp_is_tuple_of) := fn_src src_is_tuple_of sc_is_tuple_of (by rintro ds S R RE ⟨v0, v1, rfl, _⟩; rfl) (fun f cd A out s H E hr => d_is_tuple_of B hr) (by rintro ds S R RE ⟨v0, v1, rfl, q⟩; exact sem_is_tuple_of q)
  have F_is_one_of : Fn P w K mg base "is_one_of" 1 ps_is_one_of (sp_is_one_of) := fn_src src_is_one_of sc_is_one_of (by rintro ds S R RE ⟨v0, v1, rfl, _⟩; rfl) (fun f cd A out s H E hr => d_is_one_of B hr) (by rintro ds S R RE ⟨v0, v1, rfl, q⟩; exact sem_is_one_of q)
  have F_is_ascending_of : Fn P w K mg base "is_ascending_of" 2 ps_is_ascending_of (sp_is_ascending_of) := fn_src src_is_ascending_of sc_is_ascending_of (by rintro ds S R RE ⟨v0, v1, rfl, _⟩; rfl) (fun f cd A out s H E hr => d_is_ascending_of B F_is_one_of F_are_ascending hr) (by rintro ds S R RE ⟨v0, v1, rfl, h0, h1, h2, q⟩; exact sem_is_ascending_of h0 h1 h2 q)
  have F_is_integer : Fn P w K mg base "is_integer" 1 ps_is_integer (sp_is_integer) := fn_src src_is_integer sc_is_integer (by rintro ds S R RE ⟨v0, rfl, _⟩; rfl) (fun f cd A out s H E hr => d_is_integer B hr) (by rintro ds S R RE ⟨v0, rfl, q⟩; exact sem_is_integer q)
  have F_is_from : Fn P w K mg base "is_from" 2 ps_is_from (sp_is_from) := fn_src src_is_from sc_is_from (by rintro ds S R RE ⟨v0, v1, rfl, _⟩; rfl) (fun f cd A out s H E hr => d_is_from B F_is_integer hr) (by rintro ds S R RE ⟨v0, v1, rfl, q⟩; exact sem_is_from q)
  have F_is_link : Fn P w K mg base "is_link" 3 ps_is_link (sp_is_link) := fn_src src_is_link sc_is_link (by rintro ds S R RE ⟨v0, v1, rfl, _⟩; rfl) (fun f cd A out s H E hr => d_is_link B c_LINK_nets F_is_tuple_of F_is_ascending_of F_is_from hr) (by rintro ds S R RE ⟨v0, v1, rfl, h0, q⟩; exact sem_is_link h0 q)
  have F_are_links : Fn P w K mg base "are_links" 4 ps_are_links (sp_are_links) := fn_src src_are_links sc_are_links (by rintro ds S R RE ⟨v0, v1, rfl, _⟩; rfl) (fun f cd A out s H E hr => d_are_links B c_MOST_LINKS F_is_tuple_to F_is_link F_are_ascending hr) (by rintro ds S R RE ⟨v0, v1, rfl, h0, q⟩; exact sem_are_links h0 q)
  have F_Net___init__ : FnM P w K mg base f_Net___init__ 5 ps_Net___init__ (sp_Net___init__ C_Net) := fn_srcM src_Net___init__ sc_Net___init__ (by rintro ds S R RE ⟨v0, v1, v2, rfl, _⟩; rfl) (fun cd A out s H E hr => d_Net___init__ B F_are_routers F_are_links cl_Net no_Net_own_routers no_Net_own_links hr) (by rintro ds S R RE ⟨v0, v1, v2, rfl, h0, h1, h2, q⟩; exact sem_Net___init__ h0 h1 h2 q)
  have F__law_made : Fn P w K mg base "_law_made" 7 ps__law_made (sp__law_made C_Net) := fn_src src__law_made sc__law_made (by rintro ds S R RE ⟨v0, v1, rfl, _⟩; rfl) (fun f cd A out s H E hr => d__law_made B m_Net mk_Net F_Net___init__ hr) (by rintro ds S R RE ⟨v0, v1, rfl, h0, h1, q⟩; exact sem__law_made h0 h1 q)
  have F__law_net_page : Fn P w K mg base "_law_net_page" 1 ps__law_net_page (sp__law_net_page) := fn_src src__law_net_page sc__law_net_page (by rintro ds S R RE ⟨v0, v1, rfl, _⟩; rfl) (fun f cd A out s H E hr => d__law_net_page B hr) (by rintro ds S R RE ⟨v0, v1, rfl, h0, h1, q⟩; exact sem__law_net_page h0 h1 q)
  have F_Net_routers : FnM P w K mg base f_Net_routers 1 ps_Net_routers (sp_Net_routers C_Net) := fn_srcM src_Net_routers sc_Net_routers (by rintro ds S R RE ⟨v0, v1, v2, rfl, _⟩; rfl) (fun cd A out s H E hr => d_Net_routers B cl_Net no_Net_own_routers hr) (by rintro ds S R RE ⟨v0, v1, v2, rfl, h0, q⟩; exact sem_Net_routers h0 q)
  have F_Net_links : FnM P w K mg base f_Net_links 1 ps_Net_links (sp_Net_links C_Net) := fn_srcM src_Net_links sc_Net_links (by rintro ds S R RE ⟨v0, v1, v2, rfl, _⟩; rfl) (fun cd A out s H E hr => d_Net_links B cl_Net no_Net_own_links hr) (by rintro ds S R RE ⟨v0, v1, v2, rfl, h0, q⟩; exact sem_Net_links h0 q)
  have F_show_net : Fn P w K mg base "show_net" 3 ps_show_net (sp_show_net C_Net) := fn_src src_show_net sc_show_net (by rintro ds S R RE ⟨v0, v1, rfl, _⟩; rfl) (fun f cd A out s H E hr => d_show_net B c_BLANK cl_Net pr_Net_routers F_Net_routers c_ROUTERS pr_Net_links F_Net_links c_LINK_texts c_NEW_ROW hr) (by rintro ds S R RE ⟨v0, v1, rfl, h0, h1, q⟩; exact sem_show_net h0 h1 q)
  have F_rows_of : Fn P w K mg base "rows_of" 1 ps_rows_of (sp_rows_of) := fn_src src_rows_of sc_rows_of (by rintro ds S R RE ⟨v0, rfl, _⟩; rfl) (fun f cd A out s H E hr => d_rows_of B c_NEW_ROW hr) (by rintro ds S R RE ⟨v0, rfl, h0, q⟩; exact sem_rows_of h0 q)
  have F_integer_in : Fn P w K mg base "integer_in" 1 ps_integer_in (sp_integer_in) := fn_src src_integer_in sc_integer_in (by rintro ds S R RE ⟨v0, rfl, _⟩; rfl) (fun f cd A out s H E hr => d_integer_in B c_MOST_DIGITS c_DIGITS hr) (by rintro ds S R RE ⟨v0, rfl, h0, q⟩; exact sem_integer_in h0 q)
  have F_link_of_row : Fn P w K mg base "link_of_row" 2 ps_link_of_row (sp_link_of_row) := fn_src src_link_of_row sc_link_of_row (by rintro ds S R RE ⟨v0, v1, rfl, _⟩; rfl) (fun f cd A out s H E hr => d_link_of_row B c_BLANK c_LINK_WORDS c_LINK_texts F_is_name F_integer_in hr) (by rintro ds S R RE ⟨v0, v1, rfl, h0, h1, q⟩; exact sem_link_of_row h0 h1 q)
  have F_net_rows : Fn P w K mg base "net_rows" 3 ps_net_rows (sp_net_rows) := fn_src src_net_rows sc_net_rows (by rintro ds S R RE ⟨v0, v1, rfl, _⟩; rfl) (fun f cd A out s H E hr => d_net_rows B c_BLANK c_ROUTERS F_is_name F_link_of_row hr) (by rintro ds S R RE ⟨v0, v1, rfl, h0, h1, q⟩; exact sem_net_rows h0 h1 q)
  have F_read_net : Fn P w K mg base "read_net" 7 ps_read_net (sp_read_net C_Net) := fn_src src_read_net sc_read_net (by rintro ds S R RE ⟨v0, v1, rfl, _⟩; rfl) (fun f cd A out s H E hr => d_read_net B F_rows_of F_net_rows m_Net mk_Net F_Net___init__ hr) (by rintro ds S R RE ⟨v0, v1, rfl, h0, h1, q⟩; exact sem_read_net h0 h1 q)
  have F_Net___eq__ : FnM P w K mg base f_Net___eq__ 1 ps_Net___eq__ (sp_Net___eq__ C_Net) := fn_srcM src_Net___eq__ sc_Net___eq__ (by rintro ds S R RE ⟨v0, v1, rfl, _⟩; rfl) (fun cd A out s H E hr => d_Net___eq__ B m_Net is_Net cl_Net no_Net_own_routers no_Net_own_links hr) (by rintro ds S R RE ⟨v0, v1, rfl, q⟩; exact sem_Net___eq__ q)
  have F__law_fine : FnR P w K mg base "_law_fine" 8 ps__law_fine (sp__law_fine) := fnR_src src__law_fine sc__law_fine (by rintro ds S R RE ⟨v0, v1, rfl, _⟩; rfl) (fun f cd A out s H E hgd hr => d__law_fine B F__law_world F__law_take F__law_of F__law_made F__law_net_page F_show_net F_read_net F_Net___eq__ eq_Net fn_Net___eq__ m_Net is_Net cl_Net pr_Net_links F_Net_links pr_Net_routers F_Net_routers hgd hr) (by rintro ds S R RE ⟨v0, v1, rfl, h0, q⟩; exact sem__law_fine h0 q)
  exact fnG_src (sp := (sp_law)) src_law sc_law (by rintro ds S R RE ⟨v0, rfl, _⟩; rfl) (fun cd A out s H E hgd hr => d_law B F__law_pots F__law_fine hgd hr) (by rintro ds S R RE ⟨v0, rfl, h0, q⟩; exact sem_law h0 q)
end
theorem all_mk {l : PySem.W.OpenLaw} {w : World} {K : PySem.W.Frag} {h : Heap} {mg : Str → Option Value} {fa : Addr} {C_Net f_Net___init__ f_Net_links f_Net_routers q_Net_links q_Net_routers f_Net___eq__ g__law_pot g__law_pots g__law_take g__law_of g__law_names g__law_turned g__law_pairs g__law_far g__law_world g_is_tuple_to g_is_name g_are_ascending g_are_routers g_is_tuple_of g_is_one_of g_is_ascending_of g_is_integer g_is_from g_is_link g_are_links g__law_made g__law_net_page g_show_net g_rows_of g_integer_in g_link_of_row g_net_rows g_read_net g__law_fine g_law : Addr} (X : K.In h) (G : h.Ns mainGlobals mg) (hfa : mg "law" = some (.ref fa))
    {t_c_LONGEST_NAME : Tok} {t_c_LETTERS : Tok} {t_c_MOST_ROUTERS : Tok} {t_c_FEWEST_ROUTERS : Tok} {t_c_LINK_nets : Tok} {t_c_MOST_LINKS : Tok} {t_c_BLANK : Tok} {t_c_ROUTERS : Tok} {t_c_LINK_texts : Tok}
    {t_c_NEW_ROW : Tok} {t_c_MOST_DIGITS : Tok} {t_c_DIGITS : Tok} {t_c_LINK_WORDS : Tok} {r_pr_Net_routers : List Value} {r_pr_Net_links : List Value} {od__law_pot : Option Addr} {an__law_pot : Option Addr} {sl__law_pot : Array (Option Value)}
    {oc__law_pot : Value} {kV__law_pot : Value} {dc__law_pot : Value} {pm__law_pot : Value} {cd__law_pot : Value} {ct__law_pot : Value} {od__law_pots : Option Addr} {an__law_pots : Option Addr} {sl__law_pots : Array (Option Value)}
    {oc__law_pots : Value} {kV__law_pots : Value} {dc__law_pots : Value} {pm__law_pots : Value} {cd__law_pots : Value} {ct__law_pots : Value} {od__law_take : Option Addr} {an__law_take : Option Addr} {sl__law_take : Array (Option Value)}
    {oc__law_take : Value} {kV__law_take : Value} {dc__law_take : Value} {pm__law_take : Value} {cd__law_take : Value} {ct__law_take : Value} {od__law_of : Option Addr} {an__law_of : Option Addr} {sl__law_of : Array (Option Value)}
    {oc__law_of : Value} {kV__law_of : Value} {dc__law_of : Value} {pm__law_of : Value} {cd__law_of : Value} {ct__law_of : Value} {od__law_names : Option Addr} {an__law_names : Option Addr} {sl__law_names : Array (Option Value)}
    {oc__law_names : Value} {kV__law_names : Value} {dc__law_names : Value} {pm__law_names : Value} {cd__law_names : Value} {ct__law_names : Value} {od__law_turned : Option Addr} {an__law_turned : Option Addr} {sl__law_turned : Array (Option Value)}
    {oc__law_turned : Value} {kV__law_turned : Value} {dc__law_turned : Value} {pm__law_turned : Value} {cd__law_turned : Value} {ct__law_turned : Value} {od__law_pairs : Option Addr} {an__law_pairs : Option Addr} {sl__law_pairs : Array (Option Value)}
    {oc__law_pairs : Value} {kV__law_pairs : Value} {dc__law_pairs : Value} {pm__law_pairs : Value} {cd__law_pairs : Value} {ct__law_pairs : Value} {od__law_far : Option Addr} {an__law_far : Option Addr} {sl__law_far : Array (Option Value)}
    {oc__law_far : Value} {kV__law_far : Value} {dc__law_far : Value} {pm__law_far : Value} {cd__law_far : Value} {ct__law_far : Value} {od__law_world : Option Addr} {an__law_world : Option Addr} {sl__law_world : Array (Option Value)}
    {oc__law_world : Value} {kV__law_world : Value} {dc__law_world : Value} {pm__law_world : Value} {cd__law_world : Value} {ct__law_world : Value} {od_is_tuple_to : Option Addr} {an_is_tuple_to : Option Addr} {sl_is_tuple_to : Array (Option Value)}
    {oc_is_tuple_to : Value} {kV_is_tuple_to : Value} {dc_is_tuple_to : Value} {pm_is_tuple_to : Value} {cd_is_tuple_to : Value} {ct_is_tuple_to : Value} {od_is_name : Option Addr} {an_is_name : Option Addr} {sl_is_name : Array (Option Value)}
    {oc_is_name : Value} {kV_is_name : Value} {dc_is_name : Value} {pm_is_name : Value} {cd_is_name : Value} {ct_is_name : Value} {od_are_ascending : Option Addr} {an_are_ascending : Option Addr} {sl_are_ascending : Array (Option Value)}
    {oc_are_ascending : Value} {kV_are_ascending : Value} {dc_are_ascending : Value} {pm_are_ascending : Value} {cd_are_ascending : Value} {ct_are_ascending : Value} {od_are_routers : Option Addr} {an_are_routers : Option Addr} {sl_are_routers : Array (Option Value)}
    {oc_are_routers : Value} {kV_are_routers : Value} {dc_are_routers : Value} {pm_are_routers : Value} {cd_are_routers : Value} {ct_are_routers : Value} {od_is_tuple_of : Option Addr} {an_is_tuple_of : Option Addr} {sl_is_tuple_of : Array (Option Value)}
    {oc_is_tuple_of : Value} {kV_is_tuple_of : Value} {dc_is_tuple_of : Value} {pm_is_tuple_of : Value} {cd_is_tuple_of : Value} {ct_is_tuple_of : Value} {od_is_one_of : Option Addr} {an_is_one_of : Option Addr} {sl_is_one_of : Array (Option Value)}
    {oc_is_one_of : Value} {kV_is_one_of : Value} {dc_is_one_of : Value} {pm_is_one_of : Value} {cd_is_one_of : Value} {ct_is_one_of : Value} {od_is_ascending_of : Option Addr} {an_is_ascending_of : Option Addr} {sl_is_ascending_of : Array (Option Value)}
    {oc_is_ascending_of : Value} {kV_is_ascending_of : Value} {dc_is_ascending_of : Value} {pm_is_ascending_of : Value} {cd_is_ascending_of : Value} {ct_is_ascending_of : Value} {od_is_integer : Option Addr} {an_is_integer : Option Addr} {sl_is_integer : Array (Option Value)}
    {oc_is_integer : Value} {kV_is_integer : Value} {dc_is_integer : Value} {pm_is_integer : Value} {cd_is_integer : Value} {ct_is_integer : Value} {od_is_from : Option Addr} {an_is_from : Option Addr} {sl_is_from : Array (Option Value)}
    {oc_is_from : Value} {kV_is_from : Value} {dc_is_from : Value} {pm_is_from : Value} {cd_is_from : Value} {ct_is_from : Value} {od_is_link : Option Addr} {an_is_link : Option Addr} {sl_is_link : Array (Option Value)}
    {oc_is_link : Value} {kV_is_link : Value} {dc_is_link : Value} {pm_is_link : Value} {cd_is_link : Value} {ct_is_link : Value} {od_are_links : Option Addr} {an_are_links : Option Addr} {sl_are_links : Array (Option Value)}
    {oc_are_links : Value} {kV_are_links : Value} {dc_are_links : Value} {pm_are_links : Value} {cd_are_links : Value} {ct_are_links : Value} {od_Net___init__ : Option Addr} {an_Net___init__ : Option Addr} {sl_Net___init__ : Array (Option Value)}
    {oc_Net___init__ : Value} {kV_Net___init__ : Value} {dc_Net___init__ : Value} {pm_Net___init__ : Value} {cd_Net___init__ : Value} {ct_Net___init__ : Value} {od__law_made : Option Addr} {an__law_made : Option Addr} {sl__law_made : Array (Option Value)}
    {oc__law_made : Value} {kV__law_made : Value} {dc__law_made : Value} {pm__law_made : Value} {cd__law_made : Value} {ct__law_made : Value} {od__law_net_page : Option Addr} {an__law_net_page : Option Addr} {sl__law_net_page : Array (Option Value)}
    {oc__law_net_page : Value} {kV__law_net_page : Value} {dc__law_net_page : Value} {pm__law_net_page : Value} {cd__law_net_page : Value} {ct__law_net_page : Value} {od_Net_routers : Option Addr} {an_Net_routers : Option Addr} {sl_Net_routers : Array (Option Value)}
    {oc_Net_routers : Value} {kV_Net_routers : Value} {dc_Net_routers : Value} {pm_Net_routers : Value} {cd_Net_routers : Value} {ct_Net_routers : Value} {od_Net_links : Option Addr} {an_Net_links : Option Addr} {sl_Net_links : Array (Option Value)}
    {oc_Net_links : Value} {kV_Net_links : Value} {dc_Net_links : Value} {pm_Net_links : Value} {cd_Net_links : Value} {ct_Net_links : Value} {od_show_net : Option Addr} {an_show_net : Option Addr} {sl_show_net : Array (Option Value)}
    {oc_show_net : Value} {kV_show_net : Value} {dc_show_net : Value} {pm_show_net : Value} {cd_show_net : Value} {ct_show_net : Value} {od_rows_of : Option Addr} {an_rows_of : Option Addr} {sl_rows_of : Array (Option Value)}
    {oc_rows_of : Value} {kV_rows_of : Value} {dc_rows_of : Value} {pm_rows_of : Value} {cd_rows_of : Value} {ct_rows_of : Value} {od_integer_in : Option Addr} {an_integer_in : Option Addr} {sl_integer_in : Array (Option Value)}
    {oc_integer_in : Value} {kV_integer_in : Value} {dc_integer_in : Value} {pm_integer_in : Value} {cd_integer_in : Value} {ct_integer_in : Value} {od_link_of_row : Option Addr} {an_link_of_row : Option Addr} {sl_link_of_row : Array (Option Value)}
    {oc_link_of_row : Value} {kV_link_of_row : Value} {dc_link_of_row : Value} {pm_link_of_row : Value} {cd_link_of_row : Value} {ct_link_of_row : Value} {od_net_rows : Option Addr} {an_net_rows : Option Addr} {sl_net_rows : Array (Option Value)}
    {oc_net_rows : Value} {kV_net_rows : Value} {dc_net_rows : Value} {pm_net_rows : Value} {cd_net_rows : Value} {ct_net_rows : Value} {od_read_net : Option Addr} {an_read_net : Option Addr} {sl_read_net : Array (Option Value)}
    {oc_read_net : Value} {kV_read_net : Value} {dc_read_net : Value} {pm_read_net : Value} {cd_read_net : Value} {ct_read_net : Value} {od_Net___eq__ : Option Addr} {an_Net___eq__ : Option Addr} {sl_Net___eq__ : Array (Option Value)}
    {oc_Net___eq__ : Value} {kV_Net___eq__ : Value} {dc_Net___eq__ : Value} {pm_Net___eq__ : Value} {cd_Net___eq__ : Value} {ct_Net___eq__ : Value} {od__law_fine : Option Addr} {an__law_fine : Option Addr} {sl__law_fine : Array (Option Value)}
    {oc__law_fine : Value} {kV__law_fine : Value} {dc__law_fine : Value} {pm__law_fine : Value} {cd__law_fine : Value} {ct__law_fine : Value} {od_law : Option Addr} {an_law : Option Addr} {sl_law : Array (Option Value)}
    {oc_law : Value} {kV_law : Value} {dc_law : Value} {pm_law : Value} {cd_law : Value} {ct_law : Value}
    (z_abs : PySem.W.nsIn K mainGlobals "abs" = some none)
    (z_all : PySem.W.nsIn K mainGlobals "all" = some none)
    (z_any : PySem.W.nsIn K mainGlobals "any" = some none)
    (z_isinstance : PySem.W.nsIn K mainGlobals "isinstance" = some none)
    (z_len : PySem.W.nsIn K mainGlobals "len" = some none)
    (z_max : PySem.W.nsIn K mainGlobals "max" = some none)
    (z_min : PySem.W.nsIn K mainGlobals "min" = some none)
    (z_repr : PySem.W.nsIn K mainGlobals "repr" = some none)
    (z_sorted : PySem.W.nsIn K mainGlobals "sorted" = some none)
    (z_sum : PySem.W.nsIn K mainGlobals "sum" = some none)
    (z_int : PySem.W.nsIn K mainGlobals "int" = some none)
    (z_str : PySem.W.nsIn K mainGlobals "str" = some none)
    (z_tuple : PySem.W.nsIn K mainGlobals "tuple" = some none)
    (z_list : PySem.W.nsIn K mainGlobals "list" = some none)
    (z_bool : PySem.W.nsIn K mainGlobals "bool" = some none)
    (z_dict : PySem.W.nsIn K mainGlobals "dict" = some none)
    (z_set : PySem.W.nsIn K mainGlobals "set" = some none)
    (z_enumerate : PySem.W.nsIn K mainGlobals "enumerate" = some none)
    (z_range : PySem.W.nsIn K mainGlobals "range" = some none)
    (z_zip : PySem.W.nsIn K mainGlobals "zip" = some none)
    (v_c_LONGEST_NAME : PySem.W.nsIn K mainGlobals "LONGEST_NAME" = some (some (.int (8) t_c_LONGEST_NAME)))
    (v_c_LETTERS : PySem.W.nsIn K mainGlobals "LETTERS" = some (some (.str "abcdefghijklmnopqrstuvwxyz" t_c_LETTERS)))
    (v_c_MOST_ROUTERS : PySem.W.nsIn K mainGlobals "MOST_ROUTERS" = some (some (.int (8) t_c_MOST_ROUTERS)))
    (v_c_FEWEST_ROUTERS : PySem.W.nsIn K mainGlobals "FEWEST_ROUTERS" = some (some (.int (2) t_c_FEWEST_ROUTERS)))
    (v_c_LINK_nets : PySem.W.nsIn K mainGlobals "LINK_nets" = some (some (.int (4) t_c_LINK_nets)))
    (v_c_MOST_LINKS : PySem.W.nsIn K mainGlobals "MOST_LINKS" = some (some (.int (16) t_c_MOST_LINKS)))
    (v_c_BLANK : PySem.W.nsIn K mainGlobals "BLANK" = some (some (.str " " t_c_BLANK)))
    (v_c_ROUTERS : PySem.W.nsIn K mainGlobals "ROUTERS" = some (some (.str "routers" t_c_ROUTERS)))
    (v_c_LINK_texts : PySem.W.nsIn K mainGlobals "LINK_texts" = some (some (.str "link" t_c_LINK_texts)))
    (v_c_NEW_ROW : PySem.W.nsIn K mainGlobals "NEW_ROW" = some (some (.str "\n" t_c_NEW_ROW)))
    (v_c_MOST_DIGITS : PySem.W.nsIn K mainGlobals "MOST_DIGITS" = some (some (.int (9) t_c_MOST_DIGITS)))
    (v_c_DIGITS : PySem.W.nsIn K mainGlobals "DIGITS" = some (some (.str "0123456789" t_c_DIGITS)))
    (v_c_LINK_WORDS : PySem.W.nsIn K mainGlobals "LINK_WORDS" = some (some (.int (5) t_c_LINK_WORDS)))
    (a_Net : PySem.W.nsIn K mainGlobals "Net" = some (some (.ref C_Net)))
    (cl1_Net : PySem.W.plainGet K C_Net Str.empty = true)
    (cl2_Net : PySem.W.hasDictIn K C_Net = true)
    (cl3_Net : PySem.W.plainOver K C_Net = true)
    (cl4_Net : PySem.W.findIn K (.ref C_Net) "__setattr__" = some (some (.builtin "object.__setattr__")))
    (v_no_Net_own_routers : PySem.W.findIn K (.ref C_Net) "own_routers" = some none)
    (v_no_Net_own_links : PySem.W.findIn K (.ref C_Net) "own_links" = some none)
    (mk1_Net : PySem.W.makesIn K C_Net = true)
    (mk2_Net : PySem.W.findIn K (.ref C_Net) "__init__" = some (some (.ref f_Net___init__)))
    (mk3_Net : PySem.W.isFn K (.ref f_Net___init__) = true)
    (mk4_Net : PySem.W.keepIn K (.ref C_Net) = true)
    (v1_pr_Net_routers : PySem.W.findIn K (.ref C_Net) "routers" = some (some (.ref q_Net_routers)))
    (v2_pr_Net_routers : PySem.W.specialIn K (.ref q_Net_routers) "__get__" = some (some (.builtin "property.__get__")))
    (v3_pr_Net_routers : PySem.W.takesIn K (.ref q_Net_routers) = some true)
    (v4_pr_Net_routers : PySem.W.recIn K q_Net_routers "property" = some (.ref f_Net_routers :: r_pr_Net_routers))
    (v1_pr_Net_links : PySem.W.findIn K (.ref C_Net) "links" = some (some (.ref q_Net_links)))
    (v2_pr_Net_links : PySem.W.specialIn K (.ref q_Net_links) "__get__" = some (some (.builtin "property.__get__")))
    (v3_pr_Net_links : PySem.W.takesIn K (.ref q_Net_links) = some true)
    (v4_pr_Net_links : PySem.W.recIn K q_Net_links "property" = some (.ref f_Net_links :: r_pr_Net_links))
    (v_eq_Net : PySem.W.findIn K (.ref C_Net) "__eq__" = some (some (.ref f_Net___eq__)))
    (v_fn_Net___eq__ : PySem.W.isFn K (.ref f_Net___eq__) = true)
    (is1_Net : PySem.W.findIn K (.ref C_Net) "__class__" = some (some (.builtin "object.__class__")))
    (is2 : PySem.W.specialIn K (.builtin "object.__class__") "__get__" = some (some (.builtin "getset_descriptor.__get__")))
    (is3 : PySem.W.takesIn K (.builtin "object.__class__") = some true)
    (is4_Net : PySem.W.mroIn K C_Net (.type "object") = some true)
    (a__law_pot : PySem.W.nsIn K mainGlobals "_law_pot" = some (some (.ref g__law_pot)))
    (l__law_pot : K.lookup g__law_pot = some ⟨oc__law_pot, od__law_pot, .func (PySem.W.fnOf "_law_pot" "_law_pot" (defArgs s__law_pot) (defBody s__law_pot) (defScope s__law_pot) .none kV__law_pot dc__law_pot pm__law_pot an__law_pot cd__law_pot ct__law_pot), sl__law_pot⟩)
    (c__law_pot : PySem.W.codeIn K cd__law_pot "_law_pot" = true)
    (k__law_pot : PySem.W.keepIn K (.ref g__law_pot) = true)
    (a__law_pots : PySem.W.nsIn K mainGlobals "_law_pots" = some (some (.ref g__law_pots)))
    (l__law_pots : K.lookup g__law_pots = some ⟨oc__law_pots, od__law_pots, .func (PySem.W.fnOf "_law_pots" "_law_pots" (defArgs s__law_pots) (defBody s__law_pots) (defScope s__law_pots) .none kV__law_pots dc__law_pots pm__law_pots an__law_pots cd__law_pots ct__law_pots), sl__law_pots⟩)
    (c__law_pots : PySem.W.codeIn K cd__law_pots "_law_pots" = true)
    (k__law_pots : PySem.W.keepIn K (.ref g__law_pots) = true)
    (a__law_take : PySem.W.nsIn K mainGlobals "_law_take" = some (some (.ref g__law_take)))
    (l__law_take : K.lookup g__law_take = some ⟨oc__law_take, od__law_take, .func (PySem.W.fnOf "_law_take" "_law_take" (defArgs s__law_take) (defBody s__law_take) (defScope s__law_take) .none kV__law_take dc__law_take pm__law_take an__law_take cd__law_take ct__law_take), sl__law_take⟩)
    (c__law_take : PySem.W.codeIn K cd__law_take "_law_take" = true)
    (k__law_take : PySem.W.keepIn K (.ref g__law_take) = true)
    (a__law_of : PySem.W.nsIn K mainGlobals "_law_of" = some (some (.ref g__law_of)))
    (l__law_of : K.lookup g__law_of = some ⟨oc__law_of, od__law_of, .func (PySem.W.fnOf "_law_of" "_law_of" (defArgs s__law_of) (defBody s__law_of) (defScope s__law_of) .none kV__law_of dc__law_of pm__law_of an__law_of cd__law_of ct__law_of), sl__law_of⟩)
    (c__law_of : PySem.W.codeIn K cd__law_of "_law_of" = true)
    (k__law_of : PySem.W.keepIn K (.ref g__law_of) = true)
    (a__law_names : PySem.W.nsIn K mainGlobals "_law_names" = some (some (.ref g__law_names)))
    (l__law_names : K.lookup g__law_names = some ⟨oc__law_names, od__law_names, .func (PySem.W.fnOf "_law_names" "_law_names" (defArgs s__law_names) (defBody s__law_names) (defScope s__law_names) .none kV__law_names dc__law_names pm__law_names an__law_names cd__law_names ct__law_names), sl__law_names⟩)
    (c__law_names : PySem.W.codeIn K cd__law_names "_law_names" = true)
    (k__law_names : PySem.W.keepIn K (.ref g__law_names) = true)
    (a__law_turned : PySem.W.nsIn K mainGlobals "_law_turned" = some (some (.ref g__law_turned)))
    (l__law_turned : K.lookup g__law_turned = some ⟨oc__law_turned, od__law_turned, .func (PySem.W.fnOf "_law_turned" "_law_turned" (defArgs s__law_turned) (defBody s__law_turned) (defScope s__law_turned) .none kV__law_turned dc__law_turned pm__law_turned an__law_turned cd__law_turned ct__law_turned), sl__law_turned⟩)
    (c__law_turned : PySem.W.codeIn K cd__law_turned "_law_turned" = true)
    (k__law_turned : PySem.W.keepIn K (.ref g__law_turned) = true)
    (a__law_pairs : PySem.W.nsIn K mainGlobals "_law_pairs" = some (some (.ref g__law_pairs)))
    (l__law_pairs : K.lookup g__law_pairs = some ⟨oc__law_pairs, od__law_pairs, .func (PySem.W.fnOf "_law_pairs" "_law_pairs" (defArgs s__law_pairs) (defBody s__law_pairs) (defScope s__law_pairs) .none kV__law_pairs dc__law_pairs pm__law_pairs an__law_pairs cd__law_pairs ct__law_pairs), sl__law_pairs⟩)
    (c__law_pairs : PySem.W.codeIn K cd__law_pairs "_law_pairs" = true)
    (k__law_pairs : PySem.W.keepIn K (.ref g__law_pairs) = true)
    (a__law_far : PySem.W.nsIn K mainGlobals "_law_far" = some (some (.ref g__law_far)))
    (l__law_far : K.lookup g__law_far = some ⟨oc__law_far, od__law_far, .func (PySem.W.fnOf "_law_far" "_law_far" (defArgs s__law_far) (defBody s__law_far) (defScope s__law_far) .none kV__law_far dc__law_far pm__law_far an__law_far cd__law_far ct__law_far), sl__law_far⟩)
    (c__law_far : PySem.W.codeIn K cd__law_far "_law_far" = true)
    (k__law_far : PySem.W.keepIn K (.ref g__law_far) = true)
    (a__law_world : PySem.W.nsIn K mainGlobals "_law_world" = some (some (.ref g__law_world)))
    (l__law_world : K.lookup g__law_world = some ⟨oc__law_world, od__law_world, .func (PySem.W.fnOf "_law_world" "_law_world" (defArgs s__law_world) (defBody s__law_world) (defScope s__law_world) .none kV__law_world dc__law_world pm__law_world an__law_world cd__law_world ct__law_world), sl__law_world⟩)
    (c__law_world : PySem.W.codeIn K cd__law_world "_law_world" = true)
    (k__law_world : PySem.W.keepIn K (.ref g__law_world) = true)
    (a_is_tuple_to : PySem.W.nsIn K mainGlobals "is_tuple_to" = some (some (.ref g_is_tuple_to)))
    (l_is_tuple_to : K.lookup g_is_tuple_to = some ⟨oc_is_tuple_to, od_is_tuple_to, .func (PySem.W.fnOf "is_tuple_to" "is_tuple_to" (defArgs s_is_tuple_to) (defBody s_is_tuple_to) (defScope s_is_tuple_to) .none kV_is_tuple_to dc_is_tuple_to pm_is_tuple_to an_is_tuple_to cd_is_tuple_to ct_is_tuple_to), sl_is_tuple_to⟩)
    (c_is_tuple_to : PySem.W.codeIn K cd_is_tuple_to "is_tuple_to" = true)
    (k_is_tuple_to : PySem.W.keepIn K (.ref g_is_tuple_to) = true)
    (a_is_name : PySem.W.nsIn K mainGlobals "is_name" = some (some (.ref g_is_name)))
    (l_is_name : K.lookup g_is_name = some ⟨oc_is_name, od_is_name, .func (PySem.W.fnOf "is_name" "is_name" (defArgs s_is_name) (defBody s_is_name) (defScope s_is_name) .none kV_is_name dc_is_name pm_is_name an_is_name cd_is_name ct_is_name), sl_is_name⟩)
    (c_is_name : PySem.W.codeIn K cd_is_name "is_name" = true)
    (k_is_name : PySem.W.keepIn K (.ref g_is_name) = true)
    (a_are_ascending : PySem.W.nsIn K mainGlobals "are_ascending" = some (some (.ref g_are_ascending)))
    (l_are_ascending : K.lookup g_are_ascending = some ⟨oc_are_ascending, od_are_ascending, .func (PySem.W.fnOf "are_ascending" "are_ascending" (defArgs s_are_ascending) (defBody s_are_ascending) (defScope s_are_ascending) .none kV_are_ascending dc_are_ascending pm_are_ascending an_are_ascending cd_are_ascending ct_are_ascending), sl_are_ascending⟩)
    (c_are_ascending : PySem.W.codeIn K cd_are_ascending "are_ascending" = true)
    (k_are_ascending : PySem.W.keepIn K (.ref g_are_ascending) = true)
    (a_are_routers : PySem.W.nsIn K mainGlobals "are_routers" = some (some (.ref g_are_routers)))
    (l_are_routers : K.lookup g_are_routers = some ⟨oc_are_routers, od_are_routers, .func (PySem.W.fnOf "are_routers" "are_routers" (defArgs s_are_routers) (defBody s_are_routers) (defScope s_are_routers) .none kV_are_routers dc_are_routers pm_are_routers an_are_routers cd_are_routers ct_are_routers), sl_are_routers⟩)
    (c_are_routers : PySem.W.codeIn K cd_are_routers "are_routers" = true)
    (k_are_routers : PySem.W.keepIn K (.ref g_are_routers) = true)
    (a_is_tuple_of : PySem.W.nsIn K mainGlobals "is_tuple_of" = some (some (.ref g_is_tuple_of)))
    (l_is_tuple_of : K.lookup g_is_tuple_of = some ⟨oc_is_tuple_of, od_is_tuple_of, .func (PySem.W.fnOf "is_tuple_of" "is_tuple_of" (defArgs s_is_tuple_of) (defBody s_is_tuple_of) (defScope s_is_tuple_of) .none kV_is_tuple_of dc_is_tuple_of pm_is_tuple_of an_is_tuple_of cd_is_tuple_of ct_is_tuple_of), sl_is_tuple_of⟩)
    (c_is_tuple_of : PySem.W.codeIn K cd_is_tuple_of "is_tuple_of" = true)
    (k_is_tuple_of : PySem.W.keepIn K (.ref g_is_tuple_of) = true)
    (a_is_one_of : PySem.W.nsIn K mainGlobals "is_one_of" = some (some (.ref g_is_one_of)))
    (l_is_one_of : K.lookup g_is_one_of = some ⟨oc_is_one_of, od_is_one_of, .func (PySem.W.fnOf "is_one_of" "is_one_of" (defArgs s_is_one_of) (defBody s_is_one_of) (defScope s_is_one_of) .none kV_is_one_of dc_is_one_of pm_is_one_of an_is_one_of cd_is_one_of ct_is_one_of), sl_is_one_of⟩)
    (c_is_one_of : PySem.W.codeIn K cd_is_one_of "is_one_of" = true)
    (k_is_one_of : PySem.W.keepIn K (.ref g_is_one_of) = true)
    (a_is_ascending_of : PySem.W.nsIn K mainGlobals "is_ascending_of" = some (some (.ref g_is_ascending_of)))
    (l_is_ascending_of : K.lookup g_is_ascending_of = some ⟨oc_is_ascending_of, od_is_ascending_of, .func (PySem.W.fnOf "is_ascending_of" "is_ascending_of" (defArgs s_is_ascending_of) (defBody s_is_ascending_of) (defScope s_is_ascending_of) .none kV_is_ascending_of dc_is_ascending_of pm_is_ascending_of an_is_ascending_of cd_is_ascending_of ct_is_ascending_of), sl_is_ascending_of⟩)
    (c_is_ascending_of : PySem.W.codeIn K cd_is_ascending_of "is_ascending_of" = true)
    (k_is_ascending_of : PySem.W.keepIn K (.ref g_is_ascending_of) = true)
    (a_is_integer : PySem.W.nsIn K mainGlobals "is_integer" = some (some (.ref g_is_integer)))
    (l_is_integer : K.lookup g_is_integer = some ⟨oc_is_integer, od_is_integer, .func (PySem.W.fnOf "is_integer" "is_integer" (defArgs s_is_integer) (defBody s_is_integer) (defScope s_is_integer) .none kV_is_integer dc_is_integer pm_is_integer an_is_integer cd_is_integer ct_is_integer), sl_is_integer⟩)
    (c_is_integer : PySem.W.codeIn K cd_is_integer "is_integer" = true)
    (k_is_integer : PySem.W.keepIn K (.ref g_is_integer) = true)
    (a_is_from : PySem.W.nsIn K mainGlobals "is_from" = some (some (.ref g_is_from)))
    (l_is_from : K.lookup g_is_from = some ⟨oc_is_from, od_is_from, .func (PySem.W.fnOf "is_from" "is_from" (defArgs s_is_from) (defBody s_is_from) (defScope s_is_from) .none kV_is_from dc_is_from pm_is_from an_is_from cd_is_from ct_is_from), sl_is_from⟩)
    (c_is_from : PySem.W.codeIn K cd_is_from "is_from" = true)
    (k_is_from : PySem.W.keepIn K (.ref g_is_from) = true)
    (a_is_link : PySem.W.nsIn K mainGlobals "is_link" = some (some (.ref g_is_link)))
    (l_is_link : K.lookup g_is_link = some ⟨oc_is_link, od_is_link, .func (PySem.W.fnOf "is_link" "is_link" (defArgs s_is_link) (defBody s_is_link) (defScope s_is_link) .none kV_is_link dc_is_link pm_is_link an_is_link cd_is_link ct_is_link), sl_is_link⟩)
    (c_is_link : PySem.W.codeIn K cd_is_link "is_link" = true)
    (k_is_link : PySem.W.keepIn K (.ref g_is_link) = true)
    (a_are_links : PySem.W.nsIn K mainGlobals "are_links" = some (some (.ref g_are_links)))
    (l_are_links : K.lookup g_are_links = some ⟨oc_are_links, od_are_links, .func (PySem.W.fnOf "are_links" "are_links" (defArgs s_are_links) (defBody s_are_links) (defScope s_are_links) .none kV_are_links dc_are_links pm_are_links an_are_links cd_are_links ct_are_links), sl_are_links⟩)
    (c_are_links : PySem.W.codeIn K cd_are_links "are_links" = true)
    (k_are_links : PySem.W.keepIn K (.ref g_are_links) = true)
    (l_Net___init__ : K.lookup f_Net___init__ = some ⟨oc_Net___init__, od_Net___init__, .func (PySem.W.fnOf "__init__" "Net.__init__" (defArgs s_Net___init__) (defBody s_Net___init__) (defScope s_Net___init__) .none kV_Net___init__ dc_Net___init__ pm_Net___init__ an_Net___init__ cd_Net___init__ ct_Net___init__), sl_Net___init__⟩)
    (c_Net___init__ : PySem.W.codeIn K cd_Net___init__ "Net.__init__" = true)
    (k_Net___init__ : PySem.W.keepIn K (.ref f_Net___init__) = true)
    (a__law_made : PySem.W.nsIn K mainGlobals "_law_made" = some (some (.ref g__law_made)))
    (l__law_made : K.lookup g__law_made = some ⟨oc__law_made, od__law_made, .func (PySem.W.fnOf "_law_made" "_law_made" (defArgs s__law_made) (defBody s__law_made) (defScope s__law_made) .none kV__law_made dc__law_made pm__law_made an__law_made cd__law_made ct__law_made), sl__law_made⟩)
    (c__law_made : PySem.W.codeIn K cd__law_made "_law_made" = true)
    (k__law_made : PySem.W.keepIn K (.ref g__law_made) = true)
    (a__law_net_page : PySem.W.nsIn K mainGlobals "_law_net_page" = some (some (.ref g__law_net_page)))
    (l__law_net_page : K.lookup g__law_net_page = some ⟨oc__law_net_page, od__law_net_page, .func (PySem.W.fnOf "_law_net_page" "_law_net_page" (defArgs s__law_net_page) (defBody s__law_net_page) (defScope s__law_net_page) .none kV__law_net_page dc__law_net_page pm__law_net_page an__law_net_page cd__law_net_page ct__law_net_page), sl__law_net_page⟩)
    (c__law_net_page : PySem.W.codeIn K cd__law_net_page "_law_net_page" = true)
    (k__law_net_page : PySem.W.keepIn K (.ref g__law_net_page) = true)
    (l_Net_routers : K.lookup f_Net_routers = some ⟨oc_Net_routers, od_Net_routers, .func (PySem.W.fnOf "routers" "Net.routers" (defArgs s_Net_routers) (defBody s_Net_routers) (defScope s_Net_routers) .none kV_Net_routers dc_Net_routers pm_Net_routers an_Net_routers cd_Net_routers ct_Net_routers), sl_Net_routers⟩)
    (c_Net_routers : PySem.W.codeIn K cd_Net_routers "Net.routers" = true)
    (k_Net_routers : PySem.W.keepIn K (.ref f_Net_routers) = true)
    (l_Net_links : K.lookup f_Net_links = some ⟨oc_Net_links, od_Net_links, .func (PySem.W.fnOf "links" "Net.links" (defArgs s_Net_links) (defBody s_Net_links) (defScope s_Net_links) .none kV_Net_links dc_Net_links pm_Net_links an_Net_links cd_Net_links ct_Net_links), sl_Net_links⟩)
    (c_Net_links : PySem.W.codeIn K cd_Net_links "Net.links" = true)
    (k_Net_links : PySem.W.keepIn K (.ref f_Net_links) = true)
    (a_show_net : PySem.W.nsIn K mainGlobals "show_net" = some (some (.ref g_show_net)))
    (l_show_net : K.lookup g_show_net = some ⟨oc_show_net, od_show_net, .func (PySem.W.fnOf "show_net" "show_net" (defArgs s_show_net) (defBody s_show_net) (defScope s_show_net) .none kV_show_net dc_show_net pm_show_net an_show_net cd_show_net ct_show_net), sl_show_net⟩)
    (c_show_net : PySem.W.codeIn K cd_show_net "show_net" = true)
    (k_show_net : PySem.W.keepIn K (.ref g_show_net) = true)
    (a_rows_of : PySem.W.nsIn K mainGlobals "rows_of" = some (some (.ref g_rows_of)))
    (l_rows_of : K.lookup g_rows_of = some ⟨oc_rows_of, od_rows_of, .func (PySem.W.fnOf "rows_of" "rows_of" (defArgs s_rows_of) (defBody s_rows_of) (defScope s_rows_of) .none kV_rows_of dc_rows_of pm_rows_of an_rows_of cd_rows_of ct_rows_of), sl_rows_of⟩)
    (c_rows_of : PySem.W.codeIn K cd_rows_of "rows_of" = true)
    (k_rows_of : PySem.W.keepIn K (.ref g_rows_of) = true)
    (a_integer_in : PySem.W.nsIn K mainGlobals "integer_in" = some (some (.ref g_integer_in)))
    (l_integer_in : K.lookup g_integer_in = some ⟨oc_integer_in, od_integer_in, .func (PySem.W.fnOf "integer_in" "integer_in" (defArgs s_integer_in) (defBody s_integer_in) (defScope s_integer_in) .none kV_integer_in dc_integer_in pm_integer_in an_integer_in cd_integer_in ct_integer_in), sl_integer_in⟩)
    (c_integer_in : PySem.W.codeIn K cd_integer_in "integer_in" = true)
    (k_integer_in : PySem.W.keepIn K (.ref g_integer_in) = true)
    (a_link_of_row : PySem.W.nsIn K mainGlobals "link_of_row" = some (some (.ref g_link_of_row)))
    (l_link_of_row : K.lookup g_link_of_row = some ⟨oc_link_of_row, od_link_of_row, .func (PySem.W.fnOf "link_of_row" "link_of_row" (defArgs s_link_of_row) (defBody s_link_of_row) (defScope s_link_of_row) .none kV_link_of_row dc_link_of_row pm_link_of_row an_link_of_row cd_link_of_row ct_link_of_row), sl_link_of_row⟩)
    (c_link_of_row : PySem.W.codeIn K cd_link_of_row "link_of_row" = true)
    (k_link_of_row : PySem.W.keepIn K (.ref g_link_of_row) = true)
    (a_net_rows : PySem.W.nsIn K mainGlobals "net_rows" = some (some (.ref g_net_rows)))
    (l_net_rows : K.lookup g_net_rows = some ⟨oc_net_rows, od_net_rows, .func (PySem.W.fnOf "net_rows" "net_rows" (defArgs s_net_rows) (defBody s_net_rows) (defScope s_net_rows) .none kV_net_rows dc_net_rows pm_net_rows an_net_rows cd_net_rows ct_net_rows), sl_net_rows⟩)
    (c_net_rows : PySem.W.codeIn K cd_net_rows "net_rows" = true)
    (k_net_rows : PySem.W.keepIn K (.ref g_net_rows) = true)
    (a_read_net : PySem.W.nsIn K mainGlobals "read_net" = some (some (.ref g_read_net)))
    (l_read_net : K.lookup g_read_net = some ⟨oc_read_net, od_read_net, .func (PySem.W.fnOf "read_net" "read_net" (defArgs s_read_net) (defBody s_read_net) (defScope s_read_net) .none kV_read_net dc_read_net pm_read_net an_read_net cd_read_net ct_read_net), sl_read_net⟩)
    (c_read_net : PySem.W.codeIn K cd_read_net "read_net" = true)
    (k_read_net : PySem.W.keepIn K (.ref g_read_net) = true)
    (l_Net___eq__ : K.lookup f_Net___eq__ = some ⟨oc_Net___eq__, od_Net___eq__, .func (PySem.W.fnOf "__eq__" "Net.__eq__" (defArgs s_Net___eq__) (defBody s_Net___eq__) (defScope s_Net___eq__) .none kV_Net___eq__ dc_Net___eq__ pm_Net___eq__ an_Net___eq__ cd_Net___eq__ ct_Net___eq__), sl_Net___eq__⟩)
    (c_Net___eq__ : PySem.W.codeIn K cd_Net___eq__ "Net.__eq__" = true)
    (k_Net___eq__ : PySem.W.keepIn K (.ref f_Net___eq__) = true)
    (a__law_fine : PySem.W.nsIn K mainGlobals "_law_fine" = some (some (.ref g__law_fine)))
    (l__law_fine : K.lookup g__law_fine = some ⟨oc__law_fine, od__law_fine, .func (PySem.W.fnOf "_law_fine" "_law_fine" (defArgs s__law_fine) (defBody s__law_fine) (defScope s__law_fine) .none kV__law_fine dc__law_fine pm__law_fine an__law_fine cd__law_fine ct__law_fine), sl__law_fine⟩)
    (c__law_fine : PySem.W.codeIn K cd__law_fine "_law_fine" = true)
    (k__law_fine : PySem.W.keepIn K (.ref g__law_fine) = true)
    (a_law : PySem.W.nsIn K mainGlobals "law" = some (some (.ref g_law)))
    (l_law : K.lookup g_law = some ⟨oc_law, od_law, .func (PySem.W.fnOf "law" "law" (defArgs s_law) (defBody s_law) (defScope s_law) .none kV_law dc_law pm_law an_law cd_law ct_law), sl_law⟩)
    (c_law : PySem.W.codeIn K cd_law "law" = true)
    (k_law : PySem.W.keepIn K (.ref g_law) = true)
    : ∃ fd : FuncData, (∀ (s : Shared) (u : Value), BindsTo s fd ⟨[u], []⟩ [("_law_script", u)]) ∧ ∀ base : Heap, K.In base → base.Ns mainGlobals mg → FnG l.prog w K mg base CX0 9 fa fd ["_law_script"] (lP K sp_law) := by
  have e := hfa.symm.trans (PySem.W.mg_of X G a_law)
  cases e
  have B : Blt mg := ⟨PySem.W.mg_none_of X G z_abs, PySem.W.mg_none_of X G z_all, PySem.W.mg_none_of X G z_any, PySem.W.mg_none_of X G z_isinstance, PySem.W.mg_none_of X G z_len, PySem.W.mg_none_of X G z_max, PySem.W.mg_none_of X G z_min, PySem.W.mg_none_of X G z_repr, PySem.W.mg_none_of X G z_sorted, PySem.W.mg_none_of X G z_sum, PySem.W.mg_none_of X G z_int, PySem.W.mg_none_of X G z_str, PySem.W.mg_none_of X G z_tuple, PySem.W.mg_none_of X G z_list, PySem.W.mg_none_of X G z_bool, PySem.W.mg_none_of X G z_dict, PySem.W.mg_none_of X G z_set, PySem.W.mg_none_of X G z_enumerate, PySem.W.mg_none_of X G z_range, PySem.W.mg_none_of X G z_zip⟩
  have c_LONGEST_NAME : GCon mg "LONGEST_NAME" (.int (8)) := con_int X G v_c_LONGEST_NAME
  have c_LETTERS : GCon mg "LETTERS" (.str "abcdefghijklmnopqrstuvwxyz") := con_str X G v_c_LETTERS
  have c_MOST_ROUTERS : GCon mg "MOST_ROUTERS" (.int (8)) := con_int X G v_c_MOST_ROUTERS
  have c_FEWEST_ROUTERS : GCon mg "FEWEST_ROUTERS" (.int (2)) := con_int X G v_c_FEWEST_ROUTERS
  have c_LINK_nets : GCon mg "LINK_nets" (.int (4)) := con_int X G v_c_LINK_nets
  have c_MOST_LINKS : GCon mg "MOST_LINKS" (.int (16)) := con_int X G v_c_MOST_LINKS
  have c_BLANK : GCon mg "BLANK" (.str " ") := con_str X G v_c_BLANK
  have c_ROUTERS : GCon mg "ROUTERS" (.str "routers") := con_str X G v_c_ROUTERS
  have c_LINK_texts : GCon mg "LINK_texts" (.str "link") := con_str X G v_c_LINK_texts
  have c_NEW_ROW : GCon mg "NEW_ROW" (.str "\n") := con_str X G v_c_NEW_ROW
  have c_MOST_DIGITS : GCon mg "MOST_DIGITS" (.int (9)) := con_int X G v_c_MOST_DIGITS
  have c_DIGITS : GCon mg "DIGITS" (.str "0123456789") := con_str X G v_c_DIGITS
  have c_LINK_WORDS : GCon mg "LINK_WORDS" (.int (5)) := con_int X G v_c_LINK_WORDS
  have cl_Net : Cls K C_Net := ⟨cl1_Net, cl2_Net, cl3_Net, cl4_Net⟩
  have no_Net_own_routers : NoAttr K C_Net "own_routers" := v_no_Net_own_routers
  have no_Net_own_links : NoAttr K C_Net "own_links" := v_no_Net_own_links
  have m_Net : mg "Net" = some (.ref C_Net) := PySem.W.mg_of X G a_Net
  have mk_Net : Mk K C_Net f_Net___init__ := ⟨mk1_Net, mk2_Net, mk3_Net, mk4_Net⟩
  have pr_Net_routers : PropOf K C_Net "routers" q_Net_routers f_Net_routers := ⟨v1_pr_Net_routers, v2_pr_Net_routers, v3_pr_Net_routers, _, v4_pr_Net_routers⟩
  have pr_Net_links : PropOf K C_Net "links" q_Net_links f_Net_links := ⟨v1_pr_Net_links, v2_pr_Net_links, v3_pr_Net_links, _, v4_pr_Net_links⟩
  have eq_Net : PySem.W.findIn K (.ref C_Net) "__eq__" = some (some (.ref f_Net___eq__)) := v_eq_Net
  have fn_Net___eq__ : PySem.W.isFn K (.ref f_Net___eq__) = true := v_fn_Net___eq__
  have is_Net : IsiC K C_Net := ⟨cl_Net, is1_Net, is2, is3, is4_Net⟩
  have src__law_pot : Src K mg "_law_pot" ps__law_pot s__law_pot := src_of X G a__law_pot l__law_pot c__law_pot k__law_pot (fun _ _ _ _ _ _ us hl => match us, hl with | [_, _], _ => rfl)
  have src__law_pots : Src K mg "_law_pots" ps__law_pots s__law_pots := src_of X G a__law_pots l__law_pots c__law_pots k__law_pots (fun _ _ _ _ _ _ us hl => match us, hl with | [_, _], _ => rfl)
  have src__law_take : Src K mg "_law_take" ps__law_take s__law_take := src_of X G a__law_take l__law_take c__law_take k__law_take (fun _ _ _ _ _ _ us hl => match us, hl with | [_, _], _ => rfl)
  have src__law_of : Src K mg "_law_of" ps__law_of s__law_of := src_of X G a__law_of l__law_of c__law_of k__law_of (fun _ _ _ _ _ _ us hl => match us, hl with | [_, _], _ => rfl)
  have src__law_names : Src K mg "_law_names" ps__law_names s__law_names := src_of X G a__law_names l__law_names c__law_names k__law_names (fun _ _ _ _ _ _ us hl => match us, hl with | [_, _], _ => rfl)
  have src__law_turned : Src K mg "_law_turned" ps__law_turned s__law_turned := src_of X G a__law_turned l__law_turned c__law_turned k__law_turned (fun _ _ _ _ _ _ us hl => match us, hl with | [_, _], _ => rfl)
  have src__law_pairs : Src K mg "_law_pairs" ps__law_pairs s__law_pairs := src_of X G a__law_pairs l__law_pairs c__law_pairs k__law_pairs (fun _ _ _ _ _ _ us hl => match us, hl with | [_, _, _], _ => rfl)
  have src__law_far : Src K mg "_law_far" ps__law_far s__law_far := src_of X G a__law_far l__law_far c__law_far k__law_far (fun _ _ _ _ _ _ us hl => match us, hl with | [_], _ => rfl)
  have src__law_world : Src K mg "_law_world" ps__law_world s__law_world := src_of X G a__law_world l__law_world c__law_world k__law_world (fun _ _ _ _ _ _ us hl => match us, hl with | [_, _, _, _], _ => rfl)
  have src_is_tuple_to : Src K mg "is_tuple_to" ps_is_tuple_to s_is_tuple_to := src_of X G a_is_tuple_to l_is_tuple_to c_is_tuple_to k_is_tuple_to (fun _ _ _ _ _ _ us hl => match us, hl with | [_, _], _ => rfl)
  have src_is_name : Src K mg "is_name" ps_is_name s_is_name := src_of X G a_is_name l_is_name c_is_name k_is_name (fun _ _ _ _ _ _ us hl => match us, hl with | [_], _ => rfl)
  have src_are_ascending : Src K mg "are_ascending" ps_are_ascending s_are_ascending := src_of X G a_are_ascending l_are_ascending c_are_ascending k_are_ascending (fun _ _ _ _ _ _ us hl => match us, hl with | [_], _ => rfl)
  have src_are_routers : Src K mg "are_routers" ps_are_routers s_are_routers := src_of X G a_are_routers l_are_routers c_are_routers k_are_routers (fun _ _ _ _ _ _ us hl => match us, hl with | [_], _ => rfl)
  have src_is_tuple_of : Src K mg "is_tuple_of" ps_is_tuple_of s_is_tuple_of := src_of X G a_is_tuple_of l_is_tuple_of c_is_tuple_of k_is_tuple_of (fun _ _ _ _ _ _ us hl => match us, hl with | [_, _], _ => rfl)
  have src_is_one_of : Src K mg "is_one_of" ps_is_one_of s_is_one_of := src_of X G a_is_one_of l_is_one_of c_is_one_of k_is_one_of (fun _ _ _ _ _ _ us hl => match us, hl with | [_, _], _ => rfl)
  have src_is_ascending_of : Src K mg "is_ascending_of" ps_is_ascending_of s_is_ascending_of := src_of X G a_is_ascending_of l_is_ascending_of c_is_ascending_of k_is_ascending_of (fun _ _ _ _ _ _ us hl => match us, hl with | [_, _], _ => rfl)
  have src_is_integer : Src K mg "is_integer" ps_is_integer s_is_integer := src_of X G a_is_integer l_is_integer c_is_integer k_is_integer (fun _ _ _ _ _ _ us hl => match us, hl with | [_], _ => rfl)
  have src_is_from : Src K mg "is_from" ps_is_from s_is_from := src_of X G a_is_from l_is_from c_is_from k_is_from (fun _ _ _ _ _ _ us hl => match us, hl with | [_, _], _ => rfl)
  have src_is_link : Src K mg "is_link" ps_is_link s_is_link := src_of X G a_is_link l_is_link c_is_link k_is_link (fun _ _ _ _ _ _ us hl => match us, hl with | [_, _], _ => rfl)
  have src_are_links : Src K mg "are_links" ps_are_links s_are_links := src_of X G a_are_links l_are_links c_are_links k_are_links (fun _ _ _ _ _ _ us hl => match us, hl with | [_, _], _ => rfl)
  have src_Net___init__ : SrcM K "__init__" "Net.__init__" ps_Net___init__ s_Net___init__ f_Net___init__ := srcM_of l_Net___init__ c_Net___init__ k_Net___init__ (fun _ _ _ _ _ _ us hl => match us, hl with | [_, _, _], _ => rfl)
  have src__law_made : Src K mg "_law_made" ps__law_made s__law_made := src_of X G a__law_made l__law_made c__law_made k__law_made (fun _ _ _ _ _ _ us hl => match us, hl with | [_], _ => rfl)
  have src__law_net_page : Src K mg "_law_net_page" ps__law_net_page s__law_net_page := src_of X G a__law_net_page l__law_net_page c__law_net_page k__law_net_page (fun _ _ _ _ _ _ us hl => match us, hl with | [_], _ => rfl)
  have src_Net_routers : SrcM K "routers" "Net.routers" ps_Net_routers s_Net_routers f_Net_routers := srcM_of l_Net_routers c_Net_routers k_Net_routers (fun _ _ _ _ _ _ us hl => match us, hl with | [_], _ => rfl)
  have src_Net_links : SrcM K "links" "Net.links" ps_Net_links s_Net_links f_Net_links := srcM_of l_Net_links c_Net_links k_Net_links (fun _ _ _ _ _ _ us hl => match us, hl with | [_], _ => rfl)
  have src_show_net : Src K mg "show_net" ps_show_net s_show_net := src_of X G a_show_net l_show_net c_show_net k_show_net (fun _ _ _ _ _ _ us hl => match us, hl with | [_], _ => rfl)
  have src_rows_of : Src K mg "rows_of" ps_rows_of s_rows_of := src_of X G a_rows_of l_rows_of c_rows_of k_rows_of (fun _ _ _ _ _ _ us hl => match us, hl with | [_], _ => rfl)
  have src_integer_in : Src K mg "integer_in" ps_integer_in s_integer_in := src_of X G a_integer_in l_integer_in c_integer_in k_integer_in (fun _ _ _ _ _ _ us hl => match us, hl with | [_], _ => rfl)
  have src_link_of_row : Src K mg "link_of_row" ps_link_of_row s_link_of_row := src_of X G a_link_of_row l_link_of_row c_link_of_row k_link_of_row (fun _ _ _ _ _ _ us hl => match us, hl with | [_], _ => rfl)
  have src_net_rows : Src K mg "net_rows" ps_net_rows s_net_rows := src_of X G a_net_rows l_net_rows c_net_rows k_net_rows (fun _ _ _ _ _ _ us hl => match us, hl with | [_], _ => rfl)
  have src_read_net : Src K mg "read_net" ps_read_net s_read_net := src_of X G a_read_net l_read_net c_read_net k_read_net (fun _ _ _ _ _ _ us hl => match us, hl with | [_], _ => rfl)
  have src_Net___eq__ : SrcM K "__eq__" "Net.__eq__" ps_Net___eq__ s_Net___eq__ f_Net___eq__ := srcM_of l_Net___eq__ c_Net___eq__ k_Net___eq__ (fun _ _ _ _ _ _ us hl => match us, hl with | [_, _], _ => rfl)
  have src__law_fine : Src K mg "_law_fine" ps__law_fine s__law_fine := src_of X G a__law_fine l__law_fine c__law_fine k__law_fine (fun _ _ _ _ _ _ us hl => match us, hl with | [_], _ => rfl)
  refine ⟨PySem.W.fnOf "law" "law" (defArgs s_law) (defBody s_law) (defScope s_law) .none kV_law dc_law pm_law an_law cd_law ct_law, fun s v => .of_eq rfl, fun base _ _ => law_ok B c_LONGEST_NAME c_LETTERS c_MOST_ROUTERS c_FEWEST_ROUTERS c_LINK_nets c_MOST_LINKS cl_Net no_Net_own_routers no_Net_own_links m_Net mk_Net c_BLANK pr_Net_routers c_ROUTERS pr_Net_links c_LINK_texts c_NEW_ROW c_MOST_DIGITS c_DIGITS c_LINK_WORDS is_Net eq_Net fn_Net___eq__ src__law_pot src__law_pots src__law_take src__law_of src__law_names src__law_turned src__law_pairs src__law_far src__law_world src_is_tuple_to src_is_name src_are_ascending src_are_routers src_is_tuple_of src_is_one_of src_is_ascending_of src_is_integer src_is_from src_is_link src_are_links src_Net___init__ src__law_made src__law_net_page src_Net_routers src_Net_links src_show_net src_rows_of src_integer_in src_link_of_row src_net_rows src_read_net src_Net___eq__ src__law_fine (fun_mk (st := s_law) l_law c_law k_law)⟩
theorem law_sp (ns : List Int) (S : Sto) (R : DK) (RE : DXK) (h : ns.length ≤ 63) (q : R (.bl true) S) : sp_law [.scr ns] S R RE := ⟨ns, rfl, h, q⟩
end DL
end
section
set_option maxHeartbeats 4000000
open PySem PySem.W PyProof.Rows
set_option maxRecDepth 100000 in
set_option maxHeartbeats 0 in
theorem PySem.Challenge.cw_quietturns_k63_nets_as_texts_holds : PySem.Challenge.rw_quietturns_k63_nets_as_texts.Holds := by
  w_on; o_law; k_head; (case hw => w_witness2)
  k_fill
  refine DL.law_walk (l := PySem.Challenge.rw_quietturns_k63_nets_as_texts) (k := 9) (x := "_law_script") rfl rfl ⟨rfl, by decide, by decide⟩ (fun w h Y => PySem.W.kIn_of Y) DL.law_sp ?F
  case F =>
    intro w mg fa h KX G hmg
    refine' DL.all_mk KX G hmg ?z_abs ?z_all ?z_any ?z_isinstance ?z_len ?z_max ?z_min ?z_repr ?z_sorted ?z_sum ?z_int ?z_str ?z_tuple ?z_list ?z_bool ?z_dict ?z_set ?z_enumerate ?z_range ?z_zip ?v_c_LONGEST_NAME ?v_c_LETTERS ?v_c_MOST_ROUTERS ?v_c_FEWEST_ROUTERS ?v_c_LINK_nets ?v_c_MOST_LINKS ?v_c_BLANK ?v_c_ROUTERS ?v_c_LINK_texts ?v_c_NEW_ROW ?v_c_MOST_DIGITS ?v_c_DIGITS ?v_c_LINK_WORDS ?a_Net ?cl1_Net ?cl2_Net ?cl3_Net ?cl4_Net ?v_no_Net_own_routers ?v_no_Net_own_links ?mk1_Net ?mk2_Net ?mk3_Net ?mk4_Net ?v1_pr_Net_routers ?v2_pr_Net_routers ?v3_pr_Net_routers ?v4_pr_Net_routers ?v1_pr_Net_links ?v2_pr_Net_links ?v3_pr_Net_links ?v4_pr_Net_links ?v_eq_Net ?v_fn_Net___eq__ ?is1_Net ?is2 ?is3 ?is4_Net ?a__law_pot ?l__law_pot ?c__law_pot ?k__law_pot ?a__law_pots ?l__law_pots ?c__law_pots ?k__law_pots ?a__law_take ?l__law_take ?c__law_take ?k__law_take ?a__law_of ?l__law_of ?c__law_of ?k__law_of ?a__law_names ?l__law_names ?c__law_names ?k__law_names ?a__law_turned ?l__law_turned ?c__law_turned ?k__law_turned ?a__law_pairs ?l__law_pairs ?c__law_pairs ?k__law_pairs ?a__law_far ?l__law_far ?c__law_far ?k__law_far ?a__law_world ?l__law_world ?c__law_world ?k__law_world ?a_is_tuple_to ?l_is_tuple_to ?c_is_tuple_to ?k_is_tuple_to ?a_is_name ?l_is_name ?c_is_name ?k_is_name ?a_are_ascending ?l_are_ascending ?c_are_ascending ?k_are_ascending ?a_are_routers ?l_are_routers ?c_are_routers ?k_are_routers ?a_is_tuple_of ?l_is_tuple_of ?c_is_tuple_of ?k_is_tuple_of ?a_is_one_of ?l_is_one_of ?c_is_one_of ?k_is_one_of ?a_is_ascending_of ?l_is_ascending_of ?c_is_ascending_of ?k_is_ascending_of ?a_is_integer ?l_is_integer ?c_is_integer ?k_is_integer ?a_is_from ?l_is_from ?c_is_from ?k_is_from ?a_is_link ?l_is_link ?c_is_link ?k_is_link ?a_are_links ?l_are_links ?c_are_links ?k_are_links ?l_Net___init__ ?c_Net___init__ ?k_Net___init__ ?a__law_made ?l__law_made ?c__law_made ?k__law_made ?a__law_net_page ?l__law_net_page ?c__law_net_page ?k__law_net_page ?l_Net_routers ?c_Net_routers ?k_Net_routers ?l_Net_links ?c_Net_links ?k_Net_links ?a_show_net ?l_show_net ?c_show_net ?k_show_net ?a_rows_of ?l_rows_of ?c_rows_of ?k_rows_of ?a_integer_in ?l_integer_in ?c_integer_in ?k_integer_in ?a_link_of_row ?l_link_of_row ?c_link_of_row ?k_link_of_row ?a_net_rows ?l_net_rows ?c_net_rows ?k_net_rows ?a_read_net ?l_read_net ?c_read_net ?k_read_net ?l_Net___eq__ ?c_Net___eq__ ?k_Net___eq__ ?a__law_fine ?l__law_fine ?c__law_fine ?k__law_fine ?a_law ?l_law ?c_law ?k_law
    (case z_abs => k_is); (case z_all => k_is); (case z_any => k_is); (case z_isinstance => k_is); (case z_len => k_is); (case z_max => k_is)
    (case z_min => k_is); (case z_repr => k_is); (case z_sorted => k_is); (case z_sum => k_is); (case z_int => k_is); (case z_str => k_is)
    (case z_tuple => k_is); (case z_list => k_is); (case z_bool => k_is); (case z_dict => k_is); (case z_set => k_is); (case z_enumerate => k_is)
    (case z_range => k_is); (case z_zip => k_is); (case v_c_LONGEST_NAME => k_is); (case v_c_LETTERS => k_is); (case v_c_MOST_ROUTERS => k_is); (case v_c_FEWEST_ROUTERS => k_is)
    (case v_c_LINK_nets => k_is); (case v_c_MOST_LINKS => k_is); (case v_c_BLANK => k_is); (case v_c_ROUTERS => k_is); (case v_c_LINK_texts => k_is); (case v_c_NEW_ROW => k_is)
    (case v_c_MOST_DIGITS => k_is); (case v_c_DIGITS => k_is); (case v_c_LINK_WORDS => k_is); (case a_Net => k_is); (case cl1_Net => k_is); (case cl2_Net => k_is)
    (case cl3_Net => k_is); (case cl4_Net => k_is); (case v_no_Net_own_routers => k_is); (case v_no_Net_own_links => k_is); (case mk1_Net => k_is); (case mk2_Net => k_is)
    (case mk3_Net => k_is); (case mk4_Net => k_is); (case v1_pr_Net_routers => k_is); (case v2_pr_Net_routers => k_is); (case v3_pr_Net_routers => k_is); (case v4_pr_Net_routers => k_is)
    (case v1_pr_Net_links => k_is); (case v2_pr_Net_links => k_is); (case v3_pr_Net_links => k_is); (case v4_pr_Net_links => k_is); (case v_eq_Net => k_is); (case v_fn_Net___eq__ => k_is)
    (case is1_Net => k_is); (case is2 => k_is); (case is3 => k_is); (case is4_Net => k_is); (case a__law_pot => k_is); (case l__law_pot => k_is)
    (case c__law_pot => k_is); (case k__law_pot => k_is); (case a__law_pots => k_is); (case l__law_pots => k_is); (case c__law_pots => k_is); (case k__law_pots => k_is)
    (case a__law_take => k_is); (case l__law_take => k_is); (case c__law_take => k_is); (case k__law_take => k_is); (case a__law_of => k_is); (case l__law_of => k_is)
    (case c__law_of => k_is); (case k__law_of => k_is); (case a__law_names => k_is); (case l__law_names => k_is); (case c__law_names => k_is); (case k__law_names => k_is)
    (case a__law_turned => k_is); (case l__law_turned => k_is); (case c__law_turned => k_is); (case k__law_turned => k_is); (case a__law_pairs => k_is); (case l__law_pairs => k_is)
    (case c__law_pairs => k_is); (case k__law_pairs => k_is); (case a__law_far => k_is); (case l__law_far => k_is); (case c__law_far => k_is); (case k__law_far => k_is)
    (case a__law_world => k_is); (case l__law_world => k_is); (case c__law_world => k_is); (case k__law_world => k_is); (case a_is_tuple_to => k_is); (case l_is_tuple_to => k_is)
    (case c_is_tuple_to => k_is); (case k_is_tuple_to => k_is); (case a_is_name => k_is); (case l_is_name => k_is); (case c_is_name => k_is); (case k_is_name => k_is)
    (case a_are_ascending => k_is); (case l_are_ascending => k_is); (case c_are_ascending => k_is); (case k_are_ascending => k_is); (case a_are_routers => k_is); (case l_are_routers => k_is)
    (case c_are_routers => k_is); (case k_are_routers => k_is); (case a_is_tuple_of => k_is); (case l_is_tuple_of => k_is); (case c_is_tuple_of => k_is); (case k_is_tuple_of => k_is)
    (case a_is_one_of => k_is); (case l_is_one_of => k_is); (case c_is_one_of => k_is); (case k_is_one_of => k_is); (case a_is_ascending_of => k_is); (case l_is_ascending_of => k_is)
    (case c_is_ascending_of => k_is); (case k_is_ascending_of => k_is); (case a_is_integer => k_is); (case l_is_integer => k_is); (case c_is_integer => k_is); (case k_is_integer => k_is)
    (case a_is_from => k_is); (case l_is_from => k_is); (case c_is_from => k_is); (case k_is_from => k_is); (case a_is_link => k_is); (case l_is_link => k_is)
    (case c_is_link => k_is); (case k_is_link => k_is); (case a_are_links => k_is); (case l_are_links => k_is); (case c_are_links => k_is); (case k_are_links => k_is)
    (case l_Net___init__ => k_is); (case c_Net___init__ => k_is); (case k_Net___init__ => k_is); (case a__law_made => k_is); (case l__law_made => k_is); (case c__law_made => k_is)
    (case k__law_made => k_is); (case a__law_net_page => k_is); (case l__law_net_page => k_is); (case c__law_net_page => k_is); (case k__law_net_page => k_is); (case l_Net_routers => k_is)
    (case c_Net_routers => k_is); (case k_Net_routers => k_is); (case l_Net_links => k_is); (case c_Net_links => k_is); (case k_Net_links => k_is); (case a_show_net => k_is)
    (case l_show_net => k_is); (case c_show_net => k_is); (case k_show_net => k_is); (case a_rows_of => k_is); (case l_rows_of => k_is); (case c_rows_of => k_is)
    (case k_rows_of => k_is); (case a_integer_in => k_is); (case l_integer_in => k_is); (case c_integer_in => k_is); (case k_integer_in => k_is); (case a_link_of_row => k_is)
    (case l_link_of_row => k_is); (case c_link_of_row => k_is); (case k_link_of_row => k_is); (case a_net_rows => k_is); (case l_net_rows => k_is); (case c_net_rows => k_is)
    (case k_net_rows => k_is); (case a_read_net => k_is); (case l_read_net => k_is); (case c_read_net => k_is); (case k_read_net => k_is); (case l_Net___eq__ => k_is)
    (case c_Net___eq__ => k_is); (case k_Net___eq__ => k_is); (case a__law_fine => k_is); (case l__law_fine => k_is); (case c__law_fine => k_is); (case k__law_fine => k_is)
    (case a_law => k_is); (case l_law => k_is); (case c_law => k_is); (case k_law => k_is)
end
