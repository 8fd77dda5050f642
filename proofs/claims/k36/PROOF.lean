import PyProof.Rows.All
import Wide.All
import OpenK.AllK
import Wide.FinOn
import HandS.ForMost
import HandS.Exc
import HandS.ExcOwn
import HandS.TupLe
import HandS.TupAny
import HandS.TupMul
import HandS.Style
import HandS.Wide
import HandS.IsInst
import HandS.Deep
import HandS.More
import HandS.TryOnly
import HandS.TryMany
import HandS.ExcField
import HandS.ExcInit
import HandS.Defaults
import HandS.WordsExc
import HandS.CallSlots
import HandS.HeadHook1
import HandS.HeadHook2
import HandS.Head0
import HandS.Head1
import HandS.Head2
import HandS.HeadEnd
import HandS.DictComp
import HandS.TupLen
import PySem.Challenge.RW_mapwide_k36_whole_between
set_option Elab.async false
set_option linter.all false
set_option maxRecDepth 100000
set_option maxHeartbeats 4000000
/-! VI, part 1: data trees with cells, what they denote, the relation of a store to the heap. -/
namespace VI
open PySem PySem.Spec PyProof.Rows L2

/-- data: trees, and cells (lists that change) by their number; scr: the law's script -/
inductive DD where
  | non | bl (b : Bool) | int (i : Int) | str (s : Str)
  | lst (xs : List DD) | tup (xs : List DD) | cel (n : Nat) | emp | scr (ns : List Int)
abbrev Sto := List (List DD)
abbrev VEnv := List (Option DD)

mutual
/-- v stands for d: F the addresses that no tree may hold, A the cells' addresses, the cells below k -/
inductive Den (F : Addr → Prop) (A : List Addr) (k : Nat) (H : Hp) : V → DD → Prop
  | non : Den F A k H .non .non
  | bl (b : Bool) : Den F A k H (.bl b) (.bl b)
  | int (i : Int) : Den F A k H (.int i) (.int i)
  | str (s : Str) : Den F A k H (.str s) (.str s)
  | lst {a : Addr} {xs : List V} {ds : List DD} : ¬ F a → H a = some (.lst xs) → DenL F A k H xs ds → Den F A k H (.ref a) (.lst ds)
  | tup {a : Addr} {xs : List V} {ds : List DD} : ¬ F a → H a = some (.tup xs) → DenL F A k H xs ds → Den F A k H (.ref a) (.tup ds)
  | cel {a : Addr} {n : Nat} : n < k → A[n]? = some a → Den F A k H (.ref a) (.cel n)
  | emp {a : Addr} : ¬ F a → H a = some (.dK []) → Den F A k H (.ref a) .emp
  | scr {a : Addr} {ns : List Int} {o : Obj} : ¬ F a → H a = some (.frz o (.lst (ns.map V.int))) → Den F A k H (.ref a) (.scr ns)
inductive DenL (F : Addr → Prop) (A : List Addr) (k : Nat) (H : Hp) : List V → List DD → Prop
  | nil : DenL F A k H [] []
  | cons {v : V} {vs : List V} {d : DD} {ds : List DD} : Den F A k H v d → DenL F A k H vs ds → DenL F A k H (v :: vs) (d :: ds)
end

section
variable {F F' : Addr → Prop} {A A' : List Addr} {k k' : Nat} {H H' : Hp}
mutual
theorem Den.imp (hF : ∀ a o, H a = some o → ¬ F a → ¬ F' a) (hA : ∀ n a, n < k → A[n]? = some a → n < k' ∧ A'[n]? = some a) (hH : ∀ a o, ¬ F a → H a = some o → H' a = some o) :
    ∀ (d : DD) (v : V), Den F A k H v d → Den F' A' k' H' v d
  | .non, _, h => by cases h; exact .non
  | .bl b, _, h => by cases h; exact .bl b
  | .int i, _, h => by cases h; exact .int i
  | .str s, _, h => by cases h; exact .str s
  | .lst ds, _, h => by
    cases h with
    | lst h1 h2 h3 => exact .lst (hF _ _ h2 h1) (hH _ _ h1 h2) (DenL.imp hF hA hH ds _ h3)
  | .tup ds, _, h => by
    cases h with
    | tup h1 h2 h3 => exact .tup (hF _ _ h2 h1) (hH _ _ h1 h2) (DenL.imp hF hA hH ds _ h3)
  | .cel n, _, h => by
    cases h with
    | cel h1 h2 => exact .cel (hA _ _ h1 h2).1 (hA _ _ h1 h2).2
  | .emp, _, h => by
    cases h with
    | emp h1 h2 => exact .emp (hF _ _ h2 h1) (hH _ _ h1 h2)
  | .scr ns, _, h => by
    cases h with
    | scr h1 h2 => exact .scr (hF _ _ h2 h1) (hH _ _ h1 h2)
theorem DenL.imp (hF : ∀ a o, H a = some o → ¬ F a → ¬ F' a) (hA : ∀ n a, n < k → A[n]? = some a → n < k' ∧ A'[n]? = some a) (hH : ∀ a o, ¬ F a → H a = some o → H' a = some o) :
    ∀ (ds : List DD) (vs : List V), DenL F A k H vs ds → DenL F' A' k' H' vs ds
  | [], _, h => by cases h; exact .nil
  | d :: ds, _, h => by
    cases h with
    | cons h1 h2 => exact .cons (Den.imp hF hA hH d _ h1) (DenL.imp hF hA hH ds _ h2)
end

theorem DenL.length : ∀ {vs : List V} {ds : List DD}, DenL F A k H vs ds → vs.length = ds.length
  | _, _, .nil => rfl
  | _, _, .cons _ h => by simp [DenL.length h]
theorem DenL.get : ∀ {vs : List V} {ds : List DD} {i : Nat} {d : DD}, DenL F A k H vs ds → ds[i]? = some d → ∃ v, vs[i]? = some v ∧ Den F A k H v d
  | _, _, _, _, .nil, h => by simp at h
  | _, _, 0, _, .cons h _, e => by simp at e; subst e; exact ⟨_, rfl, h⟩
  | _, _, i + 1, d, .cons _ h, e => by simpa using DenL.get (i := i) (d := d) h (by simpa using e)
theorem DenL.get' : ∀ {vs : List V} {ds : List DD} {i : Nat} {v : V}, DenL F A k H vs ds → vs[i]? = some v → ∃ d, ds[i]? = some d ∧ Den F A k H v d
  | _, _, _, _, .nil, h => by simp at h
  | _, _, 0, _, .cons h _, e => by simp at e; subst e; exact ⟨_, rfl, h⟩
  | _, _, i + 1, d, .cons _ h, e => by simpa using DenL.get' (i := i) (v := d) h (by simpa using e)
theorem DenL.append : ∀ {vs ws : List V} {ds es : List DD}, DenL F A k H vs ds → DenL F A k H ws es → DenL F A k H (vs ++ ws) (ds ++ es)
  | _, _, _, _, .nil, h => h
  | _, _, _, _, .cons a h, g => .cons a (DenL.append h g)
theorem DenL.take : ∀ {vs : List V} {ds : List DD} (n : Nat), DenL F A k H vs ds → DenL F A k H (vs.take n) (ds.take n)
  | _, _, 0, _ => by simp; exact .nil
  | _, _, _ + 1, .nil => by simp; exact .nil
  | _, _, n + 1, .cons a h => by simp; exact .cons a (DenL.take n h)
theorem DenL.drop : ∀ {vs : List V} {ds : List DD} (n : Nat), DenL F A k H vs ds → DenL F A k H (vs.drop n) (ds.drop n)
  | _, _, 0, h => h
  | _, _, _ + 1, .nil => by simp; exact .nil
  | _, _, n + 1, .cons _ h => DenL.drop n h
theorem DenL.set {v : V} {d : DD} (g : Den F A k H v d) : ∀ {vs : List V} {ds : List DD} (n : Nat), DenL F A k H vs ds → DenL F A k H (vs.set n v) (ds.set n d)
  | _, _, _, .nil => by simp; exact .nil
  | _, _, 0, .cons _ h => .cons g h
  | _, _, n + 1, .cons a h => .cons a (DenL.set g n h)
theorem DenL.erase : ∀ {vs : List V} {ds : List DD} (n : Nat), DenL F A k H vs ds → DenL F A k H (vs.eraseIdx n) (ds.eraseIdx n)
  | _, _, _, .nil => by simp; exact .nil
  | _, _, 0, .cons _ h => h
  | _, _, n + 1, .cons a h => .cons a (DenL.erase n h)
theorem DenL.snoc {vs : List V} {ds : List DD} {v : V} {d : DD} (h : DenL F A k H vs ds) (g : Den F A k H v d) : DenL F A k H (vs ++ [v]) (ds ++ [d]) := h.append (.cons g .nil)
theorem DenL.reverse : ∀ {vs : List V} {ds : List DD}, DenL F A k H vs ds → DenL F A k H vs.reverse ds.reverse
  | _, _, .nil => .nil
  | _, _, .cons a h => by
    rw [List.reverse_cons, List.reverse_cons]
    exact (DenL.reverse h).snoc a
theorem DenL.replicate {v : V} {d : DD} (g : Den F A k H v d) : ∀ n, DenL F A k H (List.replicate n v) (List.replicate n d)
  | 0 => .nil
  | n + 1 => .cons g (DenL.replicate g n)
theorem DenL.ints : ∀ (ns : List Int), DenL F A k H (ns.map V.int) (ns.map DD.int)
  | [] => .nil
  | n :: ns => .cons (.int n) (DenL.ints ns)
theorem DenL.flat {vs : List V} {ds : List DD} (h : DenL F A k H vs ds) : ∀ n, DenL F A k H (List.replicate n vs).flatten (List.replicate n ds).flatten
  | 0 => .nil
  | n + 1 => h.append (DenL.flat h n)
end

/-! ### the relation -/
/-- what no tree may hold: the cells, the reserved ones -/
def forb (A : List Addr) (Z : Addr → Prop) (a : Addr) : Prop := a ∈ A ∨ Z a
abbrev DenF (Z : Addr → Prop) (A : List Addr) (H : Hp) (v : V) (d : DD) : Prop := Den (forb A Z) A A.length H v d
abbrev DenLF (Z : Addr → Prop) (A : List Addr) (H : Hp) (v : List V) (d : List DD) : Prop := DenL (forb A Z) A A.length H v d
/-- the store S at the heap H: the cells at A, Z reserved, P the bases of the frames -/
structure Rel (Z : Addr → Prop) (P : Nat → Prop) (A : List Addr) (S : Sto) (H : Hp) : Prop where
  len : A.length = S.length
  nd : A.Nodup
  res : ∀ a, Z a → H a ≠ none ∧ a ∉ A
  cell : ∀ n ds, S[n]? = some ds → ∃ a xs, A[n]? = some a ∧ H a = some (.lst xs) ∧ DenLF Z A H xs ds ∧ ∀ j, P j → n < j → DenL (forb A Z) A j H xs ds
/-- behind some steps: new cells behind the old ones, nothing else of what was tracked is changed -/
structure Ext (A : List Addr) (H : Hp) (A' : List Addr) (H' : Hp) : Prop where
  more : ∃ N, A' = A ++ N ∧ ∀ a ∈ N, H a = none
  keep : ∀ a o, a ∉ A → H a = some o → H' a = some o
  dom : ∀ a, H' a = none → H a = none
theorem Ext.refl (A : List Addr) (H : Hp) : Ext A H A H := ⟨⟨[], by simp, by simp⟩, fun _ _ _ h => h, fun _ h => h⟩
theorem Ext.trans {A A1 A2 : List Addr} {H H1 H2 : Hp} (e : Ext A H A1 H1) (f : Ext A1 H1 A2 H2) : Ext A H A2 H2 := by
  obtain ⟨N, rfl, hN⟩ := e.more
  obtain ⟨M, rfl, hM⟩ := f.more
  refine ⟨⟨N ++ M, by simp, fun a ha => ?_⟩, fun a o ha h => ?_, fun a h => e.dom a (f.dom a h)⟩
  · rcases List.mem_append.mp ha with h | h
    · exact hN a h
    · exact e.dom a (hM a h)
  · refine f.keep a o (fun hm => ?_) (e.keep a o ha h)
    rcases List.mem_append.mp hm with h' | h'
    · exact ha h'
    · rw [hN a h'] at h; cases h
theorem Ext.len {A A' : List Addr} {H H' : Hp} (e : Ext A H A' H') : A.length ≤ A'.length := by
  obtain ⟨N, rfl, _⟩ := e.more
  simp
theorem Ext.sub {A A' : List Addr} {H H' : Hp} (e : Ext A H A' H') : ∀ a, a ∈ A → a ∈ A' := by
  obtain ⟨N, rfl, _⟩ := e.more
  intro a h
  simp [h]
theorem Ext.at_ {A A' : List Addr} {H H' : Hp} (e : Ext A H A' H') {n : Nat} {a : Addr} (h : A[n]? = some a) : A'[n]? = some a := by
  obtain ⟨N, rfl, _⟩ := e.more
  rw [List.getElem?_append_left (List.getElem?_eq_some_iff.mp h).1]
  exact h
/-- a new tracked object, not a cell -/
theorem Ext.laid (A : List Addr) {H : Hp} {p : Addr} {o : HO} (h : H p = none) : Ext A H A (upd H p o) := by
  refine ⟨⟨[], by simp, by simp⟩, fun a u _ e => ?_, fun a e => ?_⟩
  · rw [upd_ne (ne_of_none e h)]; exact e
  · by_cases q : a = p
    · rw [q]; exact h
    · rw [upd_ne q] at e; exact e
/-- a new cell -/
theorem Ext.cell (A : List Addr) {H : Hp} {p : Addr} {o : HO} (h : H p = none) : Ext A H (A ++ [p]) (upd H p o) := by
  refine ⟨⟨[p], rfl, by simp [h]⟩, fun a u _ e => ?_, fun a e => ?_⟩
  · rw [upd_ne (ne_of_none e h)]; exact e
  · by_cases q : a = p
    · rw [q]; exact h
    · rw [upd_ne q] at e; exact e
/-- a cell is written -/
theorem Ext.write {A : List Addr} {H : Hp} {p : Addr} {o : HO} (h : p ∈ A) : Ext A H A (upd H p o) := by
  refine ⟨⟨[], by simp, by simp⟩, fun a u ha e => ?_, fun a e => ?_⟩
  · rw [upd_ne (fun q => ha (by rw [q]; exact h))]; exact e
  · by_cases q : a = p
    · rw [q, upd_same] at e; cases e
    · rw [upd_ne q] at e; exact e

section
variable {Z : Addr → Prop} {P : Nat → Prop} {A A' : List Addr} {S S' : Sto} {H H' : Hp}
theorem Ext.den {k k' : Nat} (e : Ext A H A' H') (hk : k ≤ k') {v : V} {d : DD} (h : Den (forb A Z) A k H v d) : Den (forb A' Z) A' k' H' v d := by
  obtain ⟨N, hA, hN⟩ := id e.more
  refine h.imp (fun a o ho hF hf => ?_) (fun n a h1 h2 => ⟨by omega, e.at_ h2⟩) (fun a o hF ho => e.keep a o (fun hm => hF (.inl hm)) ho)
  rcases hf with hf | hf
  · rw [hA] at hf
    rcases List.mem_append.mp hf with h' | h'
    · exact hF (.inl h')
    · rw [hN a h'] at ho; cases ho
  · exact hF (.inr hf)
theorem Ext.denL {k k' : Nat} (e : Ext A H A' H') (hk : k ≤ k') {v : List V} {d : List DD} (h : DenL (forb A Z) A k H v d) : DenL (forb A' Z) A' k' H' v d := by
  obtain ⟨N, hA, hN⟩ := id e.more
  refine h.imp (fun a o ho hF hf => ?_) (fun n a h1 h2 => ⟨by omega, e.at_ h2⟩) (fun a o hF ho => e.keep a o (fun hm => hF (.inl hm)) ho)
  rcases hf with hf | hf
  · rw [hA] at hf
    rcases List.mem_append.mp hf with h' | h'
    · exact hF (.inl h')
    · rw [hN a h'] at ho; cases ho
  · exact hF (.inr hf)
theorem Ext.denF (e : Ext A H A' H') {v : V} {d : DD} (h : DenF Z A H v d) : DenF Z A' H' v d := e.den e.len h
theorem Ext.denLF (e : Ext A H A' H') {v : List V} {d : List DD} (h : DenLF Z A H v d) : DenLF Z A' H' v d := e.denL e.len h
theorem Rel.mem_some (r : Rel Z P A S H) {a : Addr} (h : a ∈ A) : ∃ xs, H a = some (.lst xs) := by
  obtain ⟨n, hn⟩ := List.getElem?_of_mem h
  have hl : n < S.length := by rw [← r.len]; exact (List.getElem?_eq_some_iff.mp hn).1
  obtain ⟨b, xs, hb, hx, _⟩ := r.cell n _ (List.getElem?_eq_getElem hl)
  rw [hn] at hb; cases hb
  exact ⟨xs, hx⟩
theorem Rel.fresh (r : Rel Z P A S H) {p : Addr} (h : H p = none) : ¬ forb A Z p := by
  intro hf
  rcases hf with hf | hf
  · obtain ⟨xs, e⟩ := r.mem_some hf
    rw [h] at e; cases e
  · exact (r.res p hf).1 h
/-- another tracked object is laid or written, no cell, nothing that a tree holds -/
theorem Rel.ext0 (r : Rel Z P A S H) (e : Ext A H A H') (hc : ∀ a ∈ A, H' a = H a) : Rel Z P A S H' where
  len := r.len
  nd := r.nd
  res := fun a h => ⟨fun z => (r.res a h).1 (e.dom a z), (r.res a h).2⟩
  cell := fun n ds h => by
    obtain ⟨a, xs, h1, h2, h3, h4⟩ := r.cell n ds h
    exact ⟨a, xs, h1, by rw [hc a (List.mem_of_getElem? h1)]; exact h2, e.denLF h3, fun j hj hn => e.denL (Nat.le_refl _) (h4 j hj hn)⟩
theorem Rel.laid (r : Rel Z P A S H) {p : Addr} {o : HO} (h : H p = none) : Rel Z P A S (upd H p o) :=
  r.ext0 (Ext.laid A h) fun a ha => upd_ne fun q => r.fresh h (.inl (by rw [← q]; exact ha))
theorem Rel.celled (r : Rel Z P A S H) {p : Addr} {xs : List V} {ds : List DD} (h : H p = none) (hd : DenLF Z A H xs ds) (hP : ∀ j, P j → j ≤ S.length) : Rel Z P (A ++ [p]) (S ++ [ds]) (upd H p (.lst xs)) := by
  have e := Ext.cell A (o := .lst xs) h
  have np : p ∉ A := fun q => r.fresh h (.inl q)
  refine ⟨by simp [r.len], ?_, fun a ha => ⟨fun z => (r.res a ha).1 (e.dom a z), fun q => ?_⟩, fun n es hn => ?_⟩
  · rw [List.nodup_append]
    exact ⟨r.nd, by simp, fun a ha b hb => by simp at hb; subst hb; exact fun q => np (by rw [← q]; exact ha)⟩
  · rcases List.mem_append.mp q with q | q
    · exact (r.res a ha).2 q
    · simp at q; subst q; exact (r.res a ha).1 h
  · by_cases hlt : n < S.length
    · rw [List.getElem?_append_left hlt] at hn
      obtain ⟨a, ys, h1, h2, h3, h4⟩ := r.cell n es hn
      refine ⟨a, ys, e.at_ h1, ?_, e.denLF h3, fun j hj hn => e.denL (Nat.le_refl _) (h4 j hj hn)⟩
      rw [upd_ne (fun q => np (by rw [← q]; exact List.mem_of_getElem? h1))]
      exact h2
    · have e1 : n = S.length := by
        have := (List.getElem?_eq_some_iff.mp hn).1
        simp at this
        omega
      subst e1
      rw [List.getElem?_append_right (Nat.le_refl _)] at hn
      simp at hn
      subst hn
      refine ⟨p, xs, ?_, upd_same, e.denLF hd, fun j hj hn => absurd (hP j hj) (by omega)⟩
      rw [← r.len, List.getElem?_append_right (Nat.le_refl _)]
      simp
/-- a cell is written; what is stored leans on cells below the bases above it -/
theorem Rel.wrote (r : Rel Z P A S H) {n : Nat} {a : Addr} {xs ys : List V} {ds : List DD} (ha : A[n]? = some a) (hd : DenLF Z A H ys ds) (hb : ∀ j, P j → n < j → DenL (forb A Z) A j H ys ds) : Rel Z P A (S.set n ds) (upd H a (.lst ys)) := by
  have hm := List.mem_of_getElem? ha
  have e := Ext.write (H := H) (o := .lst ys) hm
  refine ⟨by simp [r.len], r.nd, fun b hb => ⟨fun z => (r.res b hb).1 (e.dom b z), (r.res b hb).2⟩, fun m es hm' => ?_⟩
  by_cases q : m = n
  · subst q
    have hl : m < S.length := by rw [← r.len]; exact (List.getElem?_eq_some_iff.mp ha).1
    rw [List.getElem?_set_self hl] at hm'
    cases hm'
    exact ⟨a, ys, ha, upd_same, e.denLF hd, fun j hj hn => e.denL (Nat.le_refl _) (hb j hj hn)⟩
  · rw [List.getElem?_set_ne (Ne.symm q)] at hm'
    obtain ⟨b, zs, h1, h2, h3, h4⟩ := r.cell m es hm'
    refine ⟨b, zs, h1, ?_, e.denLF h3, fun j hj hn => e.denL (Nat.le_refl _) (h4 j hj hn)⟩
    rw [upd_ne (fun z => q ?_)]
    · exact h2
    · subst z
      have l1 := (List.getElem?_eq_some_iff.mp h1).1
      have l2 := (List.getElem?_eq_some_iff.mp ha).1
      have e1 := (List.getElem?_eq_some_iff.mp h1).2
      have e2 := (List.getElem?_eq_some_iff.mp ha).2
      exact (List.getElem_inj r.nd).mp (e1.trans e2.symm)
end

/-! ### what comes of a run -/
inductive R (α : Type) where
  | ok (a : α) (S : Sto)
  | exc (c : Nat) (d : DD) (S : Sto)
  | stuck
def R.bind {α β : Type} (r : R α) (f : α → Sto → R β) : R β := match r with
  | .ok a S => f a S
  | .exc c d S => .exc c d S
  | .stuck => .stuck
/-- what is wanted of a run: D the relation of values, Q of a value, W of an exception -/
def post {α β : Type} (Z : Addr → Prop) (P : Nat → Prop) (D : List Addr → Hp → β → α → Prop) (W : Nat → V → Hp → Prop) (A : List Addr) (H : Hp) (r : R α) (Q : β → Hp → Prop) : Prop := match r with
  | .ok d S' => ∀ A' H' v, Ext A H A' H' → Rel Z P A' S' H' → D A' H' v d → Q v H'
  | .exc c d S' => ∀ A' H' v, Ext A H A' H' → Rel Z P A' S' H' → DenF Z A' H' v d → W c v H'
  | .stuck => False
theorem post.bind {α β γ δ : Type} {Z : Addr → Prop} {P : Nat → Prop} {D : List Addr → Hp → β → α → Prop} {D' : List Addr → Hp → δ → γ → Prop} {W : Nat → V → Hp → Prop} {A : List Addr} {H : Hp} {r : R α} {f : α → Sto → R γ} {Q : δ → Hp → Prop} {Q' : β → Hp → Prop}
    (h : post Z P D' W A H (r.bind f) Q) (g : ∀ A1 H1 v d S1, Ext A H A1 H1 → Rel Z P A1 S1 H1 → D A1 H1 v d → post Z P D' W A1 H1 (f d S1) Q → Q' v H1) : post Z P D W A H r Q' := by
  cases r with
  | ok d S' =>
    intro A' H' v e rl dv
    refine g A' H' v d S' e rl dv ?_
    have h' : post Z P D' W A H (f d S') Q := h
    cases hf : f d S' with
    | ok x S2 =>
      rw [hf] at h'
      exact fun A2 H2 w e2 r2 d2 => h' A2 H2 w (e.trans e2) r2 d2
    | exc c x S2 =>
      rw [hf] at h'
      exact fun A2 H2 w e2 r2 d2 => h' A2 H2 w (e.trans e2) r2 d2
    | stuck =>
      rw [hf] at h'
      exact h'
  | exc c d S' => exact h
  | stuck => exact h
/-- a value's environment -/
def EnvR (Z : Addr → Prop) (A : List Addr) (H : Hp) (σ : L2.St) (env : VEnv) : Prop := σ.length = env.length ∧ ∀ (i : Nat) (d : DD), env[i]? = some (some d) → ∃ v, σ[i]? = some (some v) ∧ DenF Z A H v d
theorem EnvR.ext {Z : Addr → Prop} {A A' : List Addr} {H H' : Hp} {σ : L2.St} {env : VEnv} (h : EnvR Z A H σ env) (e : Ext A H A' H') : EnvR Z A' H' σ env :=
  ⟨h.1, fun i d q => let ⟨v, a, b⟩ := h.2 i d q; ⟨v, a, e.denF b⟩⟩
theorem EnvR.set {Z : Addr → Prop} {A : List Addr} {H : Hp} {σ : L2.St} {env : VEnv} (h : EnvR Z A H σ env) (i : Nat) {v : V} {d : DD} (g : DenF Z A H v d) : EnvR Z A H (σ.set i (some v)) (env.set i (some d)) := by
  refine ⟨by simp [h.1], fun j e q => ?_⟩
  by_cases hj : j = i
  · subst hj
    by_cases hl : j < env.length
    · rw [List.getElem?_set_self hl] at q
      cases q
      exact ⟨v, List.getElem?_set_self (by rw [h.1]; exact hl), g⟩
    · rw [List.getElem?_eq_none (by simpa using hl)] at q; cases q
  · rw [List.getElem?_set_ne (Ne.symm hj)] at q ⊢
    exact h.2 j e q
theorem EnvR.none {Z : Addr → Prop} {A : List Addr} {H : Hp} {σ : L2.St} {env : VEnv} (h : EnvR Z A H σ env) (i : Nat) (u : Option V) : EnvR Z A H (σ.set i u) (env.set i none) := by
  refine ⟨by simp [h.1], fun j e q => ?_⟩
  by_cases hj : j = i
  · subst hj
    by_cases hl : j < env.length
    · rw [List.getElem?_set_self hl] at q
      cases q
    · rw [List.getElem?_eq_none (by simpa using hl)] at q; cases q
  · rw [List.getElem?_set_ne (Ne.symm hj)] at q ⊢
    exact h.2 j e q
def wipeE (env : VEnv) : List Nat → VEnv
  | [] => env
  | v :: vs => (wipeE env vs).set v none
theorem EnvR.wipe {Z : Addr → Prop} {A : List Addr} {H : Hp} {σ : L2.St} {env : VEnv} (h : EnvR Z A H σ env) : ∀ vs, EnvR Z A H (wipe σ vs) (wipeE env vs)
  | [] => h
  | v :: vs => (h.wipe vs).none v _
/-! ### a new list -/
def alloc (c : Bool) (ds : List DD) (S : Sto) : R DD := match c with
  | true => .ok (.cel S.length) (S ++ [ds])
  | false => .ok (.lst ds) S
theorem alloc_ok {Z : Addr → Prop} {P : Nat → Prop} {W : Nat → V → Hp → Prop} {A : List Addr} {H : Hp} {c : Bool} {ds : List DD} {S : Sto} {Q : VK} {xs : List V} (r : Rel Z P A S H) (hP : ∀ j, P j → j ≤ S.length) (hd : DenLF Z A H xs ds)
    (h : post Z P (DenF Z) W A H (alloc c ds S) Q) (p : Addr) (hp : H p = none) : Q (.ref p) (upd H p (.lst xs)) := by
  cases c with
  | true =>
    have e := Ext.cell A (o := HO.lst xs) hp
    refine h _ _ _ e (r.celled hp hd hP) (.cel (by simp [r.len]) ?_)
    rw [← r.len, List.getElem?_append_right (Nat.le_refl _)]
    simp
  | false =>
    have e := Ext.laid A (o := HO.lst xs) hp
    exact h _ _ _ e (r.laid hp) (.lst (r.fresh hp) upd_same (e.denLF hd))
theorem tup_ok {Z : Addr → Prop} {P : Nat → Prop} {W : Nat → V → Hp → Prop} {A : List Addr} {H : Hp} {ds : List DD} {S : Sto} {Q : VK} {xs : List V} (r : Rel Z P A S H) (hd : DenLF Z A H xs ds)
    (h : post Z P (DenF Z) W A H (.ok (.tup ds) S) Q) (p : Addr) (hp : H p = none) : Q (.ref p) (upd H p (.tup xs)) := by
  have e := Ext.laid A (o := HO.tup xs) hp
  exact h _ _ _ e (r.laid hp) (.tup (r.fresh hp) upd_same (e.denLF hd))
theorem here_ok {α β : Type} {Z : Addr → Prop} {P : Nat → Prop} {D : List Addr → Hp → β → α → Prop} {W : Nat → V → Hp → Prop} {A : List Addr} {H : Hp} {d : α} {S : Sto} {Q : β → Hp → Prop} {v : β} (r : Rel Z P A S H) (dv : D A H v d)
    (h : post Z P D W A H (.ok d S) Q) : Q v H := h A H v (Ext.refl A H) r dv
end VI

set_option Elab.async false
set_option linter.all false
set_option maxRecDepth 100000
set_option maxHeartbeats 4000000
/-! VI, part 2: the compact form of the program, and its run. -/
namespace VI
open PySem PySem.Spec PyProof.Rows L2

inductive BO where | add | sub | mul | mod | fdv | pow
  deriving DecidableEq
inductive CO where | eq | ne | lt | le | gt | ge | iss | isn | inn | nin
  deriving DecidableEq
inductive BI where | len | tuple | list | int | abs | max | min | sum | all | any | sorted
  deriving DecidableEq
inductive MT where | append | pop | popAt | insert | clear | remove | extend | reverse
  deriving DecidableEq

inductive VE where
  | loc (i : Nat) | non | bl (b : Bool) | int (i : Int) | str (s : Str) | gint (x : Str) (i : Int) | gstr (x s : Str)
  | tup (es : VE) | lst (c : Bool) (es : VE) | emp
  | bin (o : BO) (c : Bool) (a b : VE) | neg (a : VE)
  | cmp (o : CO) (a b : VE) | chn (o p : CO) (a b c : VE)
  | andv (a b : VE) | orv (a b : VE) | notv (a : VE) | itev (t a b : VE)
  | ix (a i : VE) | sl (c : Bool) (a lo hi : VE)
  | call (f : Nat) (es : VE) | callk (f : Nat) (es : VE) (pm : List Nat)
  | bi (f : BI) (c : Bool) (es : VE) | isi (a : VE) (ts : List String)
  | mt (m : MT) (a es : VE)
  | lc (c : Bool) (own : List (Str × Nat)) (tg it ifs elt : VE)
  | lc2 (c : Bool) (own : List (Str × Nat)) (own2 : List Nat) (tg it tg2 it2 ifs elt : VE)
  | dln (own : List (Str × Nat)) (tg it kx vx : VE)
  | given
  | nil | cons (a r : VE)
  | tloc (i : Nat) | ttup (ts : VE) | tsub (a i : VE)
  | iseq (e : VE) | irg1 (a : VE) | irg2 (a b : VE) | irg3 (a b c : VE) | ienm (e : VE) | izip (a b : VE)

inductive VS where
  | skip | seq (a b : VS) | asg (t e : VE) | par (ts es : VE) | aug (o : BO) (i : Nat) (e : VE) | exp (e : VE) | ret (e : VE) | retn
  | ite (c : VE) (a b : VS) | fr (t it : VE) (b : VS) | wh (c : VE) (b : VS) | brk | cnt
  | rais (c : Nat) (e : VE) | tr (b hs : VS) | hnil | hcons (n c : Nat) (v : Option Nat) (s r : VS)

/-! ### data -/
def seqOf (S : Sto) : DD → Option (List DD)
  | .lst xs => some xs
  | .tup xs => some xs
  | .cel n => S[n]?
  | _ => none
def lstOf (S : Sto) : DD → Option (List DD)
  | .lst xs => some xs
  | .cel n => S[n]?
  | _ => none
def intsOf : List DD → Option (List Int)
  | [] => some []
  | .int i :: r => (intsOf r).map (i :: ·)
  | _ :: _ => none
def blsOf : List DD → Option (List Bool)
  | [] => some []
  | .bl i :: r => (blsOf r).map (i :: ·)
  | _ :: _ => none
def mapO {α β : Type} (f : α → Option β) : List α → Option (List β)
  | [] => some []
  | a :: r => match f a with
    | some b => (mapO f r).map (b :: ·)
    | none => none
/-- as the library's data; n: the depth -/
def toPy (S : Sto) : Nat → DD → Option PyData
  | 0, _ => none
  | n + 1, d => match d with
    | .non => some .none
    | .bl b => some (.bool b)
    | .int i => some (.int i)
    | .str s => some (.str s)
    | .lst xs => (mapO (toPy S n) xs).map .list
    | .tup xs => (mapO (toPy S n) xs).map .tuple
    | .cel m => match S[m]? with
      | some xs => (mapO (toPy S n) xs).map .list
      | none => none
    | .emp => none
    | .scr _ => none
mutual
/-- every cell in d lies below m -/
def refsB (m : Nat) : DD → Bool
  | .cel n => decide (n < m)
  | .lst xs => refsL m xs
  | .tup xs => refsL m xs
  | _ => true
def refsL (m : Nat) : List DD → Bool
  | [] => true
  | d :: ds => refsB m d && refsL m ds
end
/-- what a def returns, its own cells let go -/
def snap (k : Nat) (S : Sto) : Nat → DD → Option DD
  | 0, _ => none
  | n + 1, d => match d with
    | .lst xs => (mapO (snap k S n) xs).map .lst
    | .tup xs => (mapO (snap k S n) xs).map .tup
    | .cel m => if m < k then some (.cel m) else match S[m]? with
      | some xs => (mapO (snap k S n) xs).map .lst
      | none => none
    | d => some d
def tyD (S : Sto) : DD → String
  | .non => "NoneType"
  | .bl _ => "bool"
  | .int _ => "int"
  | .str _ => "str"
  | .lst _ => "list"
  | .tup _ => "tuple"
  | .cel _ => "list"
  | .emp => "dict"
  | .scr _ => "list"
def isiB (t c : String) : Bool := t == c || (t == "bool" && c == "int")
def depthMax : Nat := 24
def lenMax : Nat := 1000000
def eqO (S : Sto) (a b : DD) : Option Bool := match toPy S depthMax a, toPy S depthMax b with
  | some p, some q => if SeqAt.shaped p = true ∧ SeqAt.shaped q = true then some (PyData.eqv p q) else none
  | _, _ => none
def inO (S : Sto) (a b : DD) : Option Bool := match toPy S depthMax a, toPy S depthMax b with
  | some p, some (.list qs) => if SeqAt.shaped p = true ∧ SeqAt.shaped (.list qs) = true then some (qs.any fun z => PyData.eqv z p) else none
  | some p, some (.tuple qs) => if SeqAt.shaped p = true ∧ SeqAt.shaped (.tuple qs) = true then some (qs.any fun z => PyData.eqv z p) else none
  | _, _ => none
def rB (S : Sto) (o : Option Bool) : R DD := match o with
  | some b => .ok (.bl b) S
  | none => .stuck
def cutL {α : Type} (xs : List α) (lo hi : Option Int) : List α := (xs.drop (HT.sIx xs.length 0 lo)).take (HT.sIx xs.length xs.length hi - HT.sIx xs.length 0 lo)

/-! ### operators -/
def binD (o : BO) (c : Bool) (a b : DD) (S : Sto) : R DD := match o, a, b with
  | .add, .int i, .int j => .ok (.int (i + j)) S
  | .add, .str x, .str y => if x.length + y.length ≤ lenMax then .ok (.str (x ++ y)) S else .stuck
  | .add, .tup xs, .tup ys => if xs.length + ys.length ≤ lenMax then .ok (.tup (xs ++ ys)) S else .stuck
  | .add, a, b => match lstOf S a, lstOf S b with
    | some xs, some ys => if xs.length + ys.length ≤ lenMax then alloc c (xs ++ ys) S else .stuck
    | _, _ => .stuck
  | .sub, .int i, .int j => .ok (.int (i - j)) S
  | .mul, .int i, .int j => if i.natAbs < 2 ^ 64 ∨ j.natAbs < 2 ^ 64 then .ok (.int (i * j)) S else .stuck
  | .mul, .tup xs, .int k => if xs ≠ [] ∧ 2 ≤ k ∧ k ≤ 1000 ∧ xs.length ≤ 1000 then .ok (.tup (List.replicate k.toNat xs).flatten) S else .stuck
  | .mul, a, .int k => match lstOf S a with
    | some xs => if -1000000 ≤ k ∧ k ≤ 1000000 ∧ xs.length * k.toNat ≤ lenMax then alloc c (List.replicate k.toNat xs).flatten S else .stuck
    | none => .stuck
  | .mod, .int i, .int j => if 0 < j then .ok (.int (i % j)) S else .stuck
  | .fdv, .int i, .int j => if 0 < j ∧ j < 2 ^ 64 then .ok (.int (i / j)) S else .stuck
  | .pow, .int i, .int j => if 0 ≤ j ∧ j ≤ 1000 ∧ i.natAbs < 2 ^ 400 then .ok (.int (i ^ j.toNat)) S else .stuck
  | _, _, _ => .stuck
def cmpD (o : CO) (a b : DD) (S : Sto) : R DD := match o with
  | .eq => rB S (eqO S a b)
  | .ne => rB S ((eqO S a b).map (!·))
  | .lt => match a, b with
    | .int i, .int j => .ok (.bl (decide (i < j))) S
    | .tup xs, .tup ys => match intsOf xs, intsOf ys with
      | some ns, some ms => .ok (.bl (HT.lexLt ns ms)) S
      | _, _ => .stuck
    | _, _ => .stuck
  | .le => match a, b with
    | .int i, .int j => .ok (.bl (decide (i ≤ j))) S
    | .tup xs, .tup ys => match intsOf xs, intsOf ys with
      | some ns, some ms => .ok (.bl (Ob.lexAt (fun j => decide (ns.getD j 0 = ms.getD j 0)) (fun j => decide (ns.getD j 0 ≤ ms.getD j 0)) (decide (ns.length ≤ ms.length)) 0 (min ns.length ms.length))) S
      | _, _ => .stuck
    | _, _ => .stuck
  | .gt => match a, b with
    | .int i, .int j => .ok (.bl (decide (j < i))) S
    | _, _ => .stuck
  | .ge => match a, b with
    | .int i, .int j => .ok (.bl (decide (j ≤ i))) S
    | _, _ => .stuck
  | .iss => match a, b with
    | .non, .non => .ok (.bl true) S
    | _, .non => .ok (.bl false) S
    | .bl x, .bl y => .ok (.bl (decide (x = y))) S
    | _, _ => .stuck
  | .isn => match a, b with
    | .non, .non => .ok (.bl false) S
    | _, .non => .ok (.bl true) S
    | _, _ => .stuck
  | .inn => rB S (inO S a b)
  | .nin => rB S ((inO S a b).map (!·))
def ixD (a i : DD) (S : Sto) : R DD := match i with
  | .int k => match a with
    | .str x => if x.length ≤ lenMax then (match atI x.cps.toList k with
      | some c => .ok (.str ⟨#[c]⟩) S
      | none => .stuck) else .stuck
    | .scr ns => match atI ns k with
      | some n => .ok (.int n) S
      | none => .stuck
    | a => match seqOf S a with
      | some xs => match atI xs k with
        | some d => .ok d S
        | none => .stuck
      | none => .stuck
  | _ => .stuck
def slD (c : Bool) (a : DD) (lo hi : Option Int) (S : Sto) : R DD := match a with
  | .str x => if x.length ≤ lenMax then .ok (.str (cutS x lo hi)) S else .stuck
  | .scr ns => alloc c ((cutL ns lo hi).map DD.int) S
  | .tup xs => .ok (.tup (cutL xs lo hi)) S
  | a => match lstOf S a with
    | some xs => alloc c (cutL xs lo hi) S
    | none => .stuck
def biD (f : BI) (c : Bool) (vs : List DD) (S : Sto) : R DD := match f, vs with
  | .len, [.str x] => if x.length ≤ lenMax then .ok (.int x.length) S else .stuck
  | .len, [.scr ns] => .ok (.int ns.length) S
  | .len, [.emp] => .ok (.int 0) S
  | .len, [a] => match seqOf S a with
    | some xs => .ok (.int xs.length) S
    | none => .stuck
  | .tuple, [a] => match seqOf S a with
    | some xs => .ok (.tup xs) S
    | none => .stuck
  | .list, [a] => match seqOf S a with
    | some xs => alloc c xs S
    | none => .stuck
  | .int, [.int i] => .ok (.int i) S
  | .int, [.bl b] => .ok (.int (if b then 1 else 0)) S
  | .abs, [.int i] => .ok (.int (if i < 0 then -i else i)) S
  | .max, [.int i, .int j] => .ok (.int (if j > i then j else i)) S
  | .min, [.int i, .int j] => .ok (.int (if j < i then j else i)) S
  | .max, [a] => match (lstOf S a).bind intsOf with
    | some (n :: ns) => .ok (.int (ns.foldl max n)) S
    | _ => .stuck
  | .min, [a] => match (lstOf S a).bind intsOf with
    | some (n :: ns) => .ok (.int (ns.foldl min n)) S
    | _ => .stuck
  | .sum, [a] => match (lstOf S a).bind intsOf with
    | some ns => .ok (.int ns.sum) S
    | none => .stuck
  | .all, [a] => match (lstOf S a).bind blsOf with
    | some bs => .ok (.bl (bs.all id)) S
    | none => .stuck
  | .any, [a] => match (lstOf S a).bind blsOf with
    | some bs => .ok (.bl (bs.any id)) S
    | none => .stuck
  | _, _ => .stuck
/-- a cell's new items, where they may stand -/
def putC (k n : Nat) (ds : List DD) (S : Sto) (r : DD) : R DD := if k ≤ n ∨ refsL n ds = true then .ok r (S.set n ds) else .stuck
def mtL (k n : Nat) (m : MT) (xs : List DD) (vs : List DD) (S : Sto) : R DD := match m, vs with
  | .append, [d] => if xs.length < lenMax then putC k n (xs ++ [d]) S .non else .stuck
  | .pop, [] => match xs[xs.length - 1]? with
    | some d => putC k n xs.dropLast S d
    | none => .stuck
  | .popAt, [.int i] => match ixN xs.length i with
    | some j => match xs[j]? with
      | some d => if xs.length ≤ lenMax then putC k n (xs.eraseIdx j) S d else .stuck
      | none => .stuck
    | none => .stuck
  | .insert, [.int i, d] => if xs.length < lenMax ∧ 0 ≤ i ∧ i < 2 ^ 62 then putC k n (xs.take i.toNat ++ [d] ++ xs.drop i.toNat) S .non else .stuck
  | .clear, [] => putC k n [] S .non
  | .reverse, [] => putC k n xs.reverse S .non
  | _, _ => .stuck
def mtD (k : Nat) (m : MT) (a : DD) (vs : List DD) (S : Sto) : R DD := match a with
  | .cel n => match S[n]? with
    | some xs => mtL k n m xs vs S
    | none => .stuck
  | _ => .stuck
def setD (k : Nat) (a i d : DD) (S : Sto) : R Unit := match a, i with
  | .cel n, .int j => match S[n]? with
    | some xs => match ixN xs.length j with
      | some m => if k ≤ n ∨ refsL n (xs.set m d) = true then .ok () (S.set n (xs.set m d)) else .stuck
      | none => .stuck
    | none => .stuck
  | _, _ => .stuck
def truD (S : Sto) : DD → Option Bool
  | .non => some false
  | .bl b => some b
  | .int i => some (i != 0)
  | .str x => if x.length ≤ lenMax then some (x.length != 0) else none
  | .lst xs => some (!xs.isEmpty)
  | .tup xs => some (!xs.isEmpty)
  | .cel n => (S[n]?).map (!·.isEmpty)
  | _ => none

/-! ### what is walked -/
/-- turn i of a walk: an item, or its end -/
inductive It2 where
  | seq (d : DD) | rng (lo : Int) (n : Nat) | enm (d : DD) | zip (d e : DD)
def It2.at_ (j : It2) (i : Nat) (S : Sto) : Option (Option DD) := match j with
  | .seq d => (seqOf S d).map (·[i]?)
  | .rng lo n => some (if i < n then some (.int (lo + i)) else none)
  | .enm d => (lstOf S d).map fun xs => (xs[i]?).map fun d => .tup [.int (i : Nat), d]
  | .zip d e => match lstOf S d, lstOf S e with
    | some xs, some ys => some (match xs[i]?, ys[i]? with
      | some x, some y => some (.tup [x, y])
      | _, _ => none)
    | _, _ => none
def fuelW : Nat := 100000

/-! ### statements' ends -/
inductive Fl where | nx | rt (d : DD) | bk | ct
inductive RS where
  | go (f : Fl) (env : VEnv) (S : Sto)
  | exc (c : Nat) (d : DD) (env : VEnv) (S : Sto)
  | stuck
def RS.andThen (r : RS) (f : VEnv → Sto → RS) : RS := match r with
  | .go .nx env S => f env S
  | r => r
def R.stm {α : Type} (r : R α) (env : VEnv) (f : α → Sto → RS) : RS := match r with
  | .ok a S => f a S
  | .exc c d S => .exc c d env S
  | .stuck => .stuck
abbrev FT := Nat → List DD → Sto → R DD
/-- no exception leaves -/
def R.calm {α : Type} : R α → R α
  | .ok a S => .ok a S
  | _ => .stuck
/-- a comprehension's turns: acc what is made so far -/
def compL (j : It2) (turn : DD → List DD → Sto → R (List DD)) : Nat → Nat → List DD → Sto → R (List DD)
  | 0, _, _, _ => .stuck
  | f + 1, i, acc, S => match j.at_ i S with
    | none => .stuck
    | some none => .ok acc S
    | some (some x) => (turn x acc S).bind fun acc S => compL j turn f (i + 1) acc S
def addL (acc : List DD) (y : DD) (S : Sto) : R (List DD) := if acc.length < lenMax then .ok (acc ++ [y]) S else .stuck
/-- the keys of a dict of tuples of ints, one more -/
def keyL (acc : List DD) (y : DD) (S : Sto) : R (List DD) := match y with
  | .tup xs => match intsOf xs, mapO (fun d => match d with | .tup zs => intsOf zs | _ => none) acc with
    | some ns, some ms => if xs.length ≤ 8 ∧ acc.length < lenMax then (if ms.contains ns = true then .ok acc S else addL acc y S) else .stuck
    | _, _ => .stuck
  | _ => .stuck
def forL (j : It2) (turn : DD → VEnv → Sto → RS) : Nat → Nat → VEnv → Sto → RS
  | 0, _, _, _ => .stuck
  | f + 1, i, env, S => match j.at_ i S with
    | none => .stuck
    | some none => .go .nx env S
    | some (some x) => match turn x env S with
      | .go .nx env S => forL j turn f (i + 1) env S
      | .go .ct env S => forL j turn f (i + 1) env S
      | .go .bk env S => .go .nx env S
      | r => r
def whL (c : VEnv → Sto → R Bool) (b : VEnv → Sto → RS) : Nat → VEnv → Sto → RS
  | 0, _, _ => .stuck
  | f + 1, env, S => (c env S).stm env fun t S => match t with
    | false => .go .nx env S
    | true => match b env S with
      | .go .nx env S => whL c b f env S
      | .go .ct env S => whL c b f env S
      | .go .bk env S => .go .nx env S
      | r => r
def truR (d : DD) (S : Sto) : R Bool := match truD S d with
  | some b => .ok b S
  | none => .stuck
def ofBl : DD → Sto → R Bool
  | .bl b, S => .ok b S
  | _, _ => .stuck
section
variable (F : FT) (k : Nat) (gv : Option DD)
mutual
def ev : VE → VEnv → Sto → R DD
  | .loc i, env, S => match env[i]? with
    | some (some d) => .ok d S
    | _ => .stuck
  | .non, _, S => .ok .non S
  | .bl b, _, S => .ok (.bl b) S
  | .int i, _, S => .ok (.int i) S
  | .str s, _, S => .ok (.str s) S
  | .gint _ i, _, S => .ok (.int i) S
  | .gstr _ s, _, S => .ok (.str s) S
  | .tup es, env, S => (evs es env S).bind fun ds S => if ds.length ≤ lenMax then .ok (.tup ds) S else .stuck
  | .lst c es, env, S => (evs es env S).bind fun ds S => if ds.length ≤ lenMax then alloc c ds S else .stuck
  | .emp, _, S => .ok .emp S
  | .bin o c a b, env, S => (ev a env S).bind fun x S => (ev b env S).bind fun y S => binD o c x y S
  | .neg a, env, S => (ev a env S).bind fun x S => match x with
    | .int i => .ok (.int (-i)) S
    | _ => .stuck
  | .cmp o a b, env, S => (ev a env S).bind fun x S => (ev b env S).bind fun y S => cmpD o x y S
  | .chn o p a b c, env, S => (ev a env S).bind fun x S => (ev b env S).bind fun y S => (cmpD o x y S).bind fun t S => (ofBl t S).bind fun t S =>
      if t = true then (ev c env S).bind fun z S => cmpD p y z S else .ok (.bl false) S
  | .andv a b, env, S => (ev a env S).bind fun x S => (ofBl x S).bind fun t S => if t = true then ev b env S else .ok (.bl false) S
  | .orv a b, env, S => (ev a env S).bind fun x S => (ofBl x S).bind fun t S => if t = true then .ok (.bl true) S else ev b env S
  | .notv a, env, S => (ev a env S).bind fun x S => (ofBl x S).bind fun t S => .ok (.bl (!t)) S
  | .itev t a b, env, S => (evT t env S).bind fun t S => if t = true then ev a env S else ev b env S
  | .ix a i, env, S => (ev a env S).bind fun x S => (ev i env S).bind fun y S => ixD x y S
  | .sl c a lo hi, env, S => (ev a env S).bind fun x S => (evO lo env S).bind fun l S => (evO hi env S).bind fun h S => slD c x l h S
  | .call f es, env, S => (evs es env S).bind fun vs S => F f vs S
  | .callk f es pm, env, S => (evs es env S).bind fun vs S => match mapO (fun i : Nat => vs[i]?) pm with
    | some ds => F f ds S
    | none => .stuck
  | .bi f c es, env, S => (evs es env S).bind fun vs S => biD f c vs S
  | .isi a ts, env, S => (ev a env S).bind fun x S => .ok (.bl (ts.any (isiB (tyD S x)))) S
  | .mt m a es, env, S => (ev a env S).bind fun x S => match x with
    | .cel n => (evs es env S).bind fun vs S => mtD k m (.cel n) vs S
    | _ => .stuck
  | .lc c own tg it ifs elt, env, S => (evI it env S).bind fun j S =>
      (compL j (fun x acc S => ((asg tg x (wipeE env (own.map (·.2))) S).bind fun env2 S => (evT ifs env2 S).bind fun t S =>
        if t = true then (ev elt env2 S).bind fun y S => addL acc y S else .ok acc S).calm) fuelW 0 [] S).bind fun ds S => alloc c ds S
  | .lc2 c own own2 tg it tg2 it2 ifs elt, env, S => (evI it env S).bind fun j S =>
      (compL j (fun x acc S => ((asg tg x (wipeE env (own.map (·.2))) S).bind fun env2 S => (evI it2 env2 S).bind fun j2 S =>
        compL j2 (fun x2 acc S => ((asg tg2 x2 (wipeE env2 own2) S).bind fun env3 S => (evT ifs env3 S).bind fun t S =>
          if t = true then (ev elt env3 S).bind fun y S => addL acc y S else .ok acc S)) fuelW 0 acc S).calm) fuelW 0 [] S).bind fun ds S => alloc c ds S
  | .dln own tg it kx vx, env, S => (evI it env S).bind fun j S =>
      (compL j (fun x acc S => ((asg tg x (wipeE env (own.map (·.2))) S).bind fun env2 S => (ev kx env2 S).bind fun y S => (ev vx env2 S).bind fun _ S =>
        keyL acc y S).calm) fuelW 0 [] S).bind fun ds S => .ok (.int ds.length) S
  | .given, _, S => match gv with
    | some d => .ok d S
    | none => .stuck
  | _, _, _ => .stuck
def evs : VE → VEnv → Sto → R (List DD)
  | .nil, _, S => .ok [] S
  | .cons a r, env, S => (ev a env S).bind fun x S => (evs r env S).bind fun xs S => .ok (x :: xs) S
  | _, _, _ => .stuck
/-- a slice's bound -/
def evO : VE → VEnv → Sto → R (Option Int)
  | .nil, _, S => .ok none S
  | .cons a .nil, env, S => (ev a env S).bind fun x S => match x with
    | .int i => .ok (some i) S
    | _ => .stuck
  | _, _, _ => .stuck
/-- a test -/
def evT : VE → VEnv → Sto → R Bool
  | .nil, _, S => .ok true S
  | .andv a b, env, S => (evT a env S).bind fun t S => if t = true then evT b env S else .ok false S
  | .orv a b, env, S => (evT a env S).bind fun t S => if t = true then .ok true S else evT b env S
  | .notv a, env, S => (evT a env S).bind fun t S => .ok (!t) S
  | .loc i, env, S => match env[i]? with
    | some (some d) => truR d S
    | _ => .stuck
  | .bl b, _, S => .ok b S
  | .cmp o a b, env, S => (ev a env S).bind fun x S => (ev b env S).bind fun y S => (cmpD o x y S).bind ofBl
  | .chn o p a b c, env, S => (ev a env S).bind fun x S => (ev b env S).bind fun y S => (cmpD o x y S).bind fun t S => (ofBl t S).bind fun t S =>
      if t = true then (ev c env S).bind fun z S => (cmpD p y z S).bind ofBl else .ok false S
  | .ix a i, env, S => (ev a env S).bind fun x S => (ev i env S).bind fun y S => (ixD x y S).bind truR
  | .call f es, env, S => (evs es env S).bind fun vs S => (F f vs S).bind truR
  | .callk f es pm, env, S => (evs es env S).bind fun vs S => match mapO (fun i : Nat => vs[i]?) pm with
    | some ds => (F f ds S).bind truR
    | none => .stuck
  | .bi f c es, env, S => (evs es env S).bind fun vs S => (biD f c vs S).bind truR
  | .isi a ts, env, S => (ev a env S).bind fun x S => .ok (ts.any (isiB (tyD S x))) S
  | _, _, _ => .stuck
def evI : VE → VEnv → Sto → R It2
  | .iseq e, env, S => (ev e env S).bind fun x S => match seqOf S x with
    | some _ => .ok (.seq x) S
    | none => .stuck
  | .irg1 a, env, S => (ev a env S).bind fun x S => match x with
    | .int j => if -1000000 ≤ j ∧ j ≤ 1000000 then .ok (.rng 0 j.toNat) S else .stuck
    | _ => .stuck
  | .irg2 a b, env, S => (ev a env S).bind fun x S => (ev b env S).bind fun y S => match x, y with
    | .int i, .int j => if -1000000 ≤ i ∧ i ≤ 1000000 ∧ -1000000 ≤ j ∧ j ≤ 1000000 then .ok (.rng i (j - i).toNat) S else .stuck
    | _, _ => .stuck
  | .ienm e, env, S => (ev e env S).bind fun x S => match lstOf S x with
    | some _ => .ok (.enm x) S
    | none => .stuck
  | .izip a b, env, S => (ev a env S).bind fun x S => (ev b env S).bind fun y S => match lstOf S x, lstOf S y with
    | some _, some _ => .ok (.zip x y) S
    | _, _ => .stuck
  | _, _, _ => .stuck
/-- a target takes d: the environment behind it -/
def asg : VE → DD → VEnv → Sto → R VEnv
  | .tloc i, d, env, S => .ok (env.set i (some d)) S
  | .ttup ts, d, env, S => match seqOf S d with
    | some ds => asgs ts ds env S
    | none => .stuck
  | .tsub a i, d, env, S => (ev a env S).calm.bind fun x S => (ev i env S).calm.bind fun y S => (setD k x y d S).bind fun _ S => .ok env S
  | _, _, _, _ => .stuck
def asgs : VE → List DD → VEnv → Sto → R VEnv
  | .nil, [], env, S => .ok env S
  | .cons t ts, d :: ds, env, S => (asg t d env S).bind fun env S => asgs ts ds env S
  | _, _, _, _ => .stuck
end
end

section
variable (F : FT) (k : Nat)
/-- which handler takes an exception of the class c -/
def takesC (c h : Nat) : Bool := h == c || h == 0
mutual
def run : VS → VEnv → Sto → RS
  | .skip, env, S => .go .nx env S
  | .seq a b, env, S => (run a env S).andThen fun env S => run b env S
  | .asg t e, env, S => (ev F k none e env S).stm env fun d S => (asg F k none t d env S).stm env fun env S => .go .nx env S
  | .par ts es, env, S => (evs F k none es env S).stm env fun ds S => (asgs F k none ts ds env S).stm env fun env S => .go .nx env S
  | .aug o i e, env, S => match env[i]? with
    | some (some x) => (ev F k none e env S).stm env fun y S => (binD o false x y S).stm env fun d S => .go .nx (env.set i (some d)) S
    | _ => .stuck
  | .exp e, env, S => (ev F k none e env S).stm env fun _ S => .go .nx env S
  | .ret e, env, S => (ev F k none e env S).stm env fun d S => .go (.rt d) env S
  | .retn, env, S => .go (.rt .non) env S
  | .ite c a b, env, S => (evT F k none c env S).stm env fun t S => if t = true then run a env S else run b env S
  | .fr t it b, env, S => (evI F k none it env S).stm env fun j S => forL j (fun x env S => (asg F k none t x env S).stm env fun env S => run b env S) fuelW 0 env S
  | .wh c b, env, S => whL (fun env S => evT F k none c env S) (fun env S => run b env S) fuelW env S
  | .brk, env, S => .go .bk env S
  | .cnt, env, S => .go .ct env S
  | .rais c e, env, S => (ev F k none e env S).stm env fun d S => .exc c d env S
  | .tr b hs, env, S => match run b env S with
    | .exc c d env S => hand hs c d env S
    | r => r
  | _, _, _ => .stuck
/-- the handlers, in order -/
def hand : VS → Nat → DD → VEnv → Sto → RS
  | .hnil, c, d, env, S => .exc c d env S
  | .hcons n h v s r, c, d, env, S => if c < n then (if takesC c h = true then (match v with
      | none => suite s d env S
      | some i => if i < env.length then (match suite s d (env.set i none) S with
        | .go f env S => .go f (env.set i none) S
        | r => r) else .stuck) else hand r c d env S) else .stuck
  | _, _, _, _, _ => .stuck
/-- a handler's suite: d what was given -/
def suite : VS → DD → VEnv → Sto → RS
  | .skip, _, env, S => .go .nx env S
  | .seq a b, d, env, S => (suite a d env S).andThen fun env S => suite b d env S
  | .asg (.tloc i) e, d, env, S => (ev F k (some d) e env S).calm.stm env fun x S => .go .nx (env.set i (some x)) S
  | .ret e, d, env, S => (ev F k (some d) e env S).calm.stm env fun x S => .go (.rt x) env S
  | .retn, _, env, S => .go (.rt .non) env S
  | _, _, _, _ => .stuck
end
end

/-! ### defs -/
/-- a def: its parameters, its names, its body, whether its cells stay -/
structure Df where
  ps : Nat
  names : Nat
  body : VS
  keep : Bool
/-- the program's defs -/
abbrev Pg := List Df
def finD (keep : Bool) (k : Nat) (d : DD) (S : Sto) (q : DD → Sto → R DD) : R DD := if keep = true then q d S else match snap k S depthMax d with
  | some e => q e (S.take k)
  | none => .stuck
def endOf (D : Df) (k : Nat) (r : RS) : R DD := match r with
  | .go .nx _ S => finD D.keep k .non S .ok
  | .go (.rt d) _ S => finD D.keep k d S .ok
  | .exc c d _ S => finD D.keep k d S (fun d S => .exc c d S)
  | _ => .stuck
def callF (G : Pg) : Nat → FT
  | 0 => fun _ _ _ => .stuck
  | n + 1 => fun f ds S => match G[f]? with
    | none => .stuck
    | some D => if ds.length = D.ps then endOf D S.length (run (callF G n) S.length D.body (ds.map some ++ List.replicate (D.names - ds.length) none) S) else .stuck
end VI

set_option Elab.async false
set_option linter.all false
set_option maxRecDepth 100000
set_option maxHeartbeats 4000000
/-! VI, part 3: the operators are the machine's. -/
namespace VI
open PySem PySem.Spec PyProof.Rows L2

section
variable {Z : Addr → Prop} {P : Nat → Prop} {A A' : List Addr} {S S' : Sto} {H H' : Hp} {F : Addr → Prop}
theorem lenMax_le : lenMax ≤ sizeLine := by decide +kernel
/-- a state: the relation, the bases at hand -/
structure Sg (Z : Addr → Prop) (P : Nat → Prop) (A : List Addr) (S : Sto) (H : Hp) : Prop where
  rel : Rel Z P A S H
  hP : ∀ j, P j → j ≤ S.length
theorem Sg.ext (g : Sg Z P A S H) (e : Ext A H A' H') (r : Rel Z P A' S' H') : Sg Z P A' S' H' :=
  ⟨r, fun j hj => by have := g.hP j hj; have := e.len; have := g.rel.len; have := r.len; omega⟩
/-- a list that is read -/
theorem Sg.seqL (g : Sg Z P A S H) {v : V} {d : DD} {ds : List DD} (h : DenF Z A H v d) (e : lstOf S d = some ds) : ∃ a xs, v = .ref a ∧ H a = some (.lst xs) ∧ DenLF Z A H xs ds := by
  cases h with
  | lst h1 h2 h3 => cases e; exact ⟨_, _, rfl, h2, h3⟩
  | @cel a n h1 h2 =>
    obtain ⟨b, xs, hb, hx, hd, _⟩ := g.rel.cell n ds e
    rw [h2] at hb; cases hb
    exact ⟨_, _, rfl, hx, hd⟩
  | _ => cases e
theorem Sg.seqB (g : Sg Z P A S H) {v : V} {d : DD} {ds : List DD} (h : DenF Z A H v d) (e : seqOf S d = some ds) : ∃ a xs, v = .ref a ∧ (H a = some (.lst xs) ∨ H a = some (.tup xs)) ∧ DenLF Z A H xs ds := by
  cases h with
  | lst h1 h2 h3 => cases e; exact ⟨_, _, rfl, .inl h2, h3⟩
  | tup h1 h2 h3 => cases e; exact ⟨_, _, rfl, .inr h2, h3⟩
  | @cel a n h1 h2 =>
    obtain ⟨b, xs, hb, hx, hd, _⟩ := g.rel.cell n ds e
    rw [h2] at hb; cases hb
    exact ⟨_, _, rfl, .inl hx, hd⟩
  | _ => cases e
theorem ints_of : ∀ {ds : List DD} {ns : List Int} {xs : List V}, intsOf ds = some ns → DenLF Z A H xs ds → xs = ns.map V.int
  | [], ns, xs, e, h => by cases e; cases h; rfl
  | .int i :: r, ns, xs, e, h => by
    cases h with
    | cons h1 h2 =>
      cases h1
      cases q : intsOf r with
      | none => simp [intsOf, q] at e
      | some ms =>
        simp [intsOf, q] at e
        subst e
        rw [ints_of q h2]
        rfl
  | .non :: _, _, _, e, _ => by simp [intsOf] at e
  | .bl _ :: _, _, _, e, _ => by simp [intsOf] at e
  | .str _ :: _, _, _, e, _ => by simp [intsOf] at e
  | .lst _ :: _, _, _, e, _ => by simp [intsOf] at e
  | .tup _ :: _, _, _, e, _ => by simp [intsOf] at e
  | .cel _ :: _, _, _, e, _ => by simp [intsOf] at e
  | .emp :: _, _, _, e, _ => by simp [intsOf] at e
  | .scr _ :: _, _, _, e, _ => by simp [intsOf] at e
theorem bls_of : ∀ {ds : List DD} {ns : List Bool} {xs : List V}, blsOf ds = some ns → DenLF Z A H xs ds → xs = ns.map V.bl
  | [], ns, xs, e, h => by cases e; cases h; rfl
  | .bl i :: r, ns, xs, e, h => by
    cases h with
    | cons h1 h2 =>
      cases h1
      cases q : blsOf r with
      | none => simp [blsOf, q] at e
      | some ms =>
        simp [blsOf, q] at e
        subst e
        rw [bls_of q h2]
        rfl
  | .non :: _, _, _, e, _ => by simp [blsOf] at e
  | .int _ :: _, _, _, e, _ => by simp [blsOf] at e
  | .str _ :: _, _, _, e, _ => by simp [blsOf] at e
  | .lst _ :: _, _, _, e, _ => by simp [blsOf] at e
  | .tup _ :: _, _, _, e, _ => by simp [blsOf] at e
  | .cel _ :: _, _, _, e, _ => by simp [blsOf] at e
  | .emp :: _, _, _, e, _ => by simp [blsOf] at e
  | .scr _ :: _, _, _, e, _ => by simp [blsOf] at e
/-! ### as the library's data -/
theorem mapO_cons {α β : Type} {f : α → Option β} {a : α} {r : List α} {l : List β} (h : mapO f (a :: r) = some l) : ∃ b m, f a = some b ∧ mapO f r = some m ∧ l = b :: m := by
  unfold mapO at h
  cases q : f a with
  | none => rw [q] at h; cases h
  | some b =>
    rw [q] at h
    cases q2 : mapO f r with
    | none => rw [q2] at h; cases h
    | some m =>
      rw [q2] at h
      cases h
      exact ⟨b, m, rfl, rfl, rfl⟩
theorem dp_all {K : PySem.W.Frag} {f : DD → Option PyData} : ∀ {ds : List DD} {xs : List V} {ps : List PyData}, (∀ d p v, f d = some p → DenF Z A H v d → Dp K H v p) → mapO f ds = some ps → DenLF Z A H xs ds → DpAll K H xs ps
  | [], _, _, _, e, h => by cases e; cases h; exact .nil
  | d :: ds, _, _, ih, e, h => by
    obtain ⟨b, m, h1, h2, rfl⟩ := mapO_cons e
    cases h with
    | cons g1 g2 => exact .cons (ih d b _ h1 g1) (dp_all ih h2 g2)
theorem dp_of {K : PySem.W.Frag} (g : Sg Z P A S H) : ∀ (n : Nat) (d : DD) (p : PyData) (v : V), toPy S n d = some p → DenF Z A H v d → Dp K H v p
  | 0, _, _, _, e, _ => by simp [toPy] at e
  | n + 1, d, p, v, e, h => by
    have ih := dp_of (K := K) g n
    cases h with
    | non => cases e; exact .non
    | bl b => cases e; exact .bl b
    | int i => cases e; exact .int i
    | str s => cases e; exact .str s
    | @lst a xs ds h1 h2 h3 =>
      have e' : (mapO (toPy S n) ds).map PyData.list = some p := e
      cases q : mapO (toPy S n) ds with
      | none => rw [q] at e'; cases e'
      | some ps => rw [q] at e'; cases e'; exact .lst (.of h2) (dp_all ih q h3)
    | @tup a xs ds h1 h2 h3 =>
      have e' : (mapO (toPy S n) ds).map PyData.tuple = some p := e
      cases q : mapO (toPy S n) ds with
      | none => rw [q] at e'; cases e'
      | some ps => rw [q] at e'; cases e'; exact .tup (.of h2) (dp_all ih q h3)
    | @cel a m h1 h2 =>
      have e' : (match S[m]? with | some xs => (mapO (toPy S n) xs).map PyData.list | none => none) = some p := e
      cases qs : S[m]? with
      | none => rw [qs] at e'; cases e'
      | some ds =>
        rw [qs] at e'
        obtain ⟨b, xs, hb, hx, hd, _⟩ := g.rel.cell m ds qs
        rw [h2] at hb; cases hb
        have e2 : (mapO (toPy S n) ds).map PyData.list = some p := e'
        cases q : mapO (toPy S n) ds with
        | none => rw [q] at e2; cases e2
        | some ps => rw [q] at e2; cases e2; exact .lst (.of hx) (dp_all ih q hd)
    | emp => cases e
    | scr => cases e
theorem eqO_dp {K : PySem.W.Frag} (g : Sg Z P A S H) {x y : V} {a b : DD} {r : Bool} (ha : DenF Z A H x a) (hb : DenF Z A H y b) (h : eqO S a b = some r) :
    ∃ d e, Dp K H x d ∧ Dp K H y e ∧ SeqAt.shaped d = true ∧ SeqAt.shaped e = true ∧ PyData.eqv d e = r := by
  unfold eqO at h
  cases q1 : toPy S depthMax a with
  | none => rw [q1] at h; cases h
  | some p =>
    cases q2 : toPy S depthMax b with
    | none => rw [q1, q2] at h; cases h
    | some q =>
      rw [q1, q2] at h
      have h' : (if SeqAt.shaped p = true ∧ SeqAt.shaped q = true then some (PyData.eqv p q) else none) = some r := h
      by_cases c : SeqAt.shaped p = true ∧ SeqAt.shaped q = true
      · rw [if_pos c] at h'
        exact ⟨p, q, dp_of g _ _ _ _ q1 ha, dp_of g _ _ _ _ q2 hb, c.1, c.2, Option.some.inj h'⟩
      · rw [if_neg c] at h'; cases h'
theorem inO_dp {K : PySem.W.Frag} (g : Sg Z P A S H) {x y : V} {a b : DD} {r : Bool} (ha : DenF Z A H x a) (hb : DenF Z A H y b) (h : inO S a b = some r) :
    ∃ d qs, Dp K H x d ∧ ((Dp K H y (.list qs) ∧ SeqAt.shaped (.list qs) = true) ∨ (Dp K H y (.tuple qs) ∧ SeqAt.shaped (.tuple qs) = true)) ∧ SeqAt.shaped d = true ∧ (qs.any fun z => PyData.eqv z d) = r := by
  unfold inO at h
  cases q1 : toPy S depthMax a with
  | none => rw [q1] at h; cases h
  | some p =>
    cases q2 : toPy S depthMax b with
    | none => rw [q1, q2] at h; cases h
    | some q =>
      rw [q1, q2] at h
      cases q with
      | list qs =>
        have h' : (if SeqAt.shaped p = true ∧ SeqAt.shaped (.list qs) = true then some (qs.any fun z => PyData.eqv z p) else none) = some r := h
        by_cases c : SeqAt.shaped p = true ∧ SeqAt.shaped (.list qs) = true
        · rw [if_pos c] at h'
          exact ⟨p, qs, dp_of g _ _ _ _ q1 ha, .inl ⟨dp_of g _ _ _ _ q2 hb, c.2⟩, c.1, Option.some.inj h'⟩
        · rw [if_neg c] at h'; cases h'
      | tuple qs =>
        have h' : (if SeqAt.shaped p = true ∧ SeqAt.shaped (.tuple qs) = true then some (qs.any fun z => PyData.eqv z p) else none) = some r := h
        by_cases c : SeqAt.shaped p = true ∧ SeqAt.shaped (.tuple qs) = true
        · rw [if_pos c] at h'
          exact ⟨p, qs, dp_of g _ _ _ _ q1 ha, .inr ⟨dp_of g _ _ _ _ q2 hb, c.2⟩, c.1, Option.some.inj h'⟩
        · rw [if_neg c] at h'; cases h'
      | _ => cases h
end

/-! ### operators by values -/
section
variable {X : Cx} {W : Nat → V → Hp → Prop}
/-- what is asked of two values by a run on data -/
def rD2 (W : Nat → V → Hp → Prop) (f : DD → DD → Sto → R DD) : R2 := fun x y H Q => ∃ (Z : Addr → Prop) (P : Nat → Prop) (A : List Addr) (S : Sto) (d e : DD), Sg Z P A S H ∧ DenF Z A H x d ∧ DenF Z A H y e ∧ post Z P (DenF Z) W A H (f d e S) Q
theorem ok_int {Z : Addr → Prop} {P : Nat → Prop} {A : List Addr} {S : Sto} {H : Hp} {Q : VK} {i : Int} (g : Sg Z P A S H) (h : post Z P (DenF Z) W A H (.ok (.int i) S) Q) : Q (.int i) H := here_ok g.rel (.int i) h
theorem ok_bl {Z : Addr → Prop} {P : Nat → Prop} {A : List Addr} {S : Sto} {H : Hp} {Q : VK} {i : Bool} (g : Sg Z P A S H) (h : post Z P (DenF Z) W A H (.ok (.bl i) S) Q) : Q (.bl i) H := here_ok g.rel (.bl i) h
theorem if_post {α β : Type} {Z : Addr → Prop} {P : Nat → Prop} {D : List Addr → Hp → β → α → Prop} {A : List Addr} {H : Hp} {c : Prop} [Decidable c] {r : R α} {Q : β → Hp → Prop} (h : post Z P D W A H (if c then r else .stuck) Q) : c ∧ post Z P D W A H r Q := by
  by_cases hc : c
  · rw [if_pos hc] at h; exact ⟨hc, h⟩
  · rw [if_neg hc] at h; exact h.elim


theorem opM {f : Value → Value → Sem Value} {r r' : R2} (h : OpR X f r) (im : ∀ x y H Q, r' x y H Q → r x y H Q) : OpR X f r' := fun pins s σ H x y v u Q I rx ry q => h pins s σ H x y v u Q I rx ry (im x y H Q q)
theorem opC {f : Value → Value → Sem Value} {r' : R2} (im : ∀ x y H Q, r' x y H Q → ∃ r : R2, OpR X f r ∧ r x y H Q) : OpR X f r' := fun pins s σ H x y v u Q I rx ry q => by
  obtain ⟨r, h, q2⟩ := im x y H Q q
  exact h pins s σ H x y v u Q I rx ry q2
theorem op_powW : OpR X (binaryOp .Pow) (rI (fun i j => 0 ≤ j ∧ j ≤ 1000 ∧ i.natAbs < 2 ^ 400) fun i j => .int (i ^ j.toNat)) := opI fun i j _ _ _ _ _ hc q => by
  refine pow_int hc.1 ?_ q
  have hb : Builtin.Int.intBits i ≤ 400 := intBits_le hc.2.2
  have h1 : (Builtin.Int.intBits i : Int) * j ≤ 400 * j := Int.mul_le_mul_of_nonneg_right (by omega) hc.1
  have := hc.2.1
  omega
def boOf : BO → Operator
  | .add => .Add | .sub => .Sub | .mul => .Mult | .mod => .Mod | .fdv => .FloorDiv | .pow => .Pow
theorem cat_ok {c : Bool} {x y : V} {H : Hp} {Q : VK} {Z : Addr → Prop} {P : Nat → Prop} {A : List Addr} {S : Sto} {d e : DD} (g : Sg Z P A S H) (hd : DenF Z A H x d) (he : DenF Z A H y e)
    (h : post Z P (DenF Z) W A H (match lstOf S d, lstOf S e with
      | some xs, some ys => if xs.length + ys.length ≤ lenMax then alloc c (xs ++ ys) S else .stuck
      | _, _ => .stuck) Q) : rCat x y H Q := by
  cases q1 : lstOf S d with
  | none => rw [q1] at h; exact h.elim
  | some xs =>
    cases q2 : lstOf S e with
    | none => rw [q1, q2] at h; exact h.elim
    | some ys =>
      rw [q1, q2] at h
      obtain ⟨hc, h⟩ := if_post h
      obtain ⟨a, us, rfl, ha, du⟩ := g.seqL hd q1
      obtain ⟨b, ws, rfl, hb, dw⟩ := g.seqL he q2
      refine ⟨a, b, us, ws, rfl, rfl, ha, hb, ?_, fun p hp => alloc_ok g.rel g.hP (du.append dw) h p hp⟩
      have := du.length; have := dw.length; have := lenMax_le; omega
theorem add_ok {c : Bool} : OpR X (binaryOp .Add) (rD2 W fun d e S => binD .add c d e S) := opC fun x y H Q h => by
  obtain ⟨Z, P, A, S, d, e, g, hd, he, h⟩ := h
  have cat := cat_ok (W := W) (Q := Q) (c := c) g hd he
  cases d with
  | int i =>
    cases e with
    | int j => cases hd; cases he; exact ⟨_, op_add, i, j, rfl, rfl, ok_int g h⟩
    | _ => exact ⟨_, op_cat, cat h⟩
  | str a =>
    cases e with
    | str b =>
      cases hd; cases he
      obtain ⟨hc, h⟩ := if_post (show post Z P (DenF Z) W A H (if a.length + b.length ≤ lenMax then .ok (.str (a ++ b)) S else .stuck) Q from h)
      exact ⟨_, op_add_str, a, b, rfl, rfl, Nat.le_trans hc lenMax_le, here_ok g.rel (.str _) h⟩
    | _ => exact ⟨_, op_cat, cat h⟩
  | tup xs =>
    cases e with
    | tup ys =>
      obtain ⟨hc, h⟩ := if_post (show post Z P (DenF Z) W A H (if xs.length + ys.length ≤ lenMax then .ok (.tup (xs ++ ys)) S else .stuck) Q from h)
      cases hd with
      | @tup a us _ h1 h2 h3 =>
        cases he with
        | @tup b ws _ g1 g2 g3 =>
          refine ⟨_, op_catA, a, b, us, ws, rfl, rfl, .of h2, .of g2, ?_, fun e0 => ?_, fun _ e0 => ?_, fun _ _ p hp => tup_ok g.rel (h3.append g3) h p hp⟩
          · have := h3.length; have := g3.length; have := lenMax_le; omega
          · subst e0; cases h3
            exact here_ok g.rel (.tup g1 g2 g3) h
          · subst e0; cases g3
            rw [List.append_nil] at h
            exact here_ok g.rel (.tup h1 h2 h3) h
    | _ => exact ⟨_, op_cat, cat h⟩
  | _ => exact ⟨_, op_cat, cat h⟩
theorem sub_ok {c : Bool} : OpR X (binaryOp .Sub) (rD2 W fun d e S => binD .sub c d e S) := opC fun x y H Q h => by
  obtain ⟨Z, P, A, S, d, e, g, hd, he, h⟩ := h
  cases hd <;> first
    | exact (show False from h).elim
    | (cases he <;> first
        | exact (show False from h).elim
        | exact ⟨_, op_sub, _, _, rfl, rfl, ok_int g h⟩)
theorem natAbs_64 {i : Int} (h : i.natAbs < 2 ^ 64) : -(2 ^ 64) < i ∧ i < 2 ^ 64 := by omega
theorem mul_ok {c : Bool} : OpR X (binaryOp .Mult) (rD2 W fun d e S => binD .mul c d e S) := opC fun x y H Q h => by
  obtain ⟨Z, P, A, S, d, e, g, hd, he, h⟩ := h
  have rep : ∀ k, e = .int k → post Z P (DenF Z) W A H (match lstOf S d with
      | some xs => if -1000000 ≤ k ∧ k ≤ 1000000 ∧ xs.length * k.toNat ≤ lenMax then alloc c (List.replicate k.toNat xs).flatten S else .stuck
      | none => .stuck) Q → ∃ r : R2, OpR X (binaryOp .Mult) r ∧ r x y H Q := fun k ek hm => by
    subst ek
    cases he
    cases q1 : lstOf S d with
    | none => rw [q1] at hm; exact hm.elim
    | some xs =>
      rw [q1] at hm
      obtain ⟨⟨c1, c2, c3⟩, hm⟩ := if_post hm
      obtain ⟨a, us, rfl, ha, du⟩ := g.seqL hd q1
      refine ⟨_, op_rep, a, k, us, rfl, rfl, ha, by omega, by omega, ?_, fun p hp => alloc_ok g.rel g.hP (du.flat k.toNat) hm p hp⟩
      rw [du.length]
      exact Nat.le_trans c3 lenMax_le
  cases e with
  | int k =>
    cases d with
    | int i =>
      cases hd; cases he
      obtain ⟨hc, h⟩ := if_post (show post Z P (DenF Z) W A H (if i.natAbs < 2 ^ 64 ∨ k.natAbs < 2 ^ 64 then .ok (.int (i * k)) S else .stuck) Q from h)
      exact ⟨_, op_mul, i, k, rfl, rfl, hc.imp natAbs_64 natAbs_64, ok_int g h⟩
    | tup xs =>
      obtain ⟨⟨c1, c2, c3, c4⟩, h⟩ := if_post (show post Z P (DenF Z) W A H (if xs ≠ [] ∧ 2 ≤ k ∧ k ≤ 1000 ∧ xs.length ≤ 1000 then .ok (.tup (List.replicate k.toNat xs).flatten) S else .stuck) Q from h)
      cases he
      cases hd with
      | @tup a us _ h1 h2 h3 =>
        refine ⟨_, op_repT, a, k, us, rfl, rfl, .of h2, fun e0 => ?_, c2, c3, by rw [h3.length]; exact c4, fun p hp => tup_ok g.rel (h3.flat k.toNat) h p hp⟩
        subst e0; cases h3
        exact c1 rfl
    | _ => exact rep k rfl h
  | _ => cases d <;> exact (show False from h).elim
theorem mod_ok {c : Bool} : OpR X (binaryOp .Mod) (rD2 W fun d e S => binD .mod c d e S) := opC fun x y H Q h => by
  obtain ⟨Z, P, A, S, d, e, g, hd, he, h⟩ := h
  cases hd with
  | int i =>
    cases he with
    | int j =>
      obtain ⟨hc, h⟩ := if_post (show post Z P (DenF Z) W A H (if 0 < j then .ok (.int (i % j)) S else .stuck) Q from h)
      exact ⟨_, op_mod, i, j, rfl, rfl, hc, ok_int g h⟩
    | _ => exact (show False from h).elim
  | _ => exact (show False from h).elim
theorem fdv_ok {c : Bool} : OpR X (binaryOp .FloorDiv) (rD2 W fun d e S => binD .fdv c d e S) := opC fun x y H Q h => by
  obtain ⟨Z, P, A, S, d, e, g, hd, he, h⟩ := h
  cases hd with
  | int i =>
    cases he with
    | int j =>
      obtain ⟨⟨h0, h1⟩, h⟩ := if_post (show post Z P (DenF Z) W A H (if 0 < j ∧ j < 2 ^ 64 then .ok (.int (i / j)) S else .stuck) Q from h)
      exact ⟨_, op_fdivW, i, j, rfl, rfl, wide_div (b := 64) h0 (by omega) (by decide) (by decide), ok_int g h⟩
    | _ => exact (show False from h).elim
  | _ => exact (show False from h).elim
theorem pow_ok {c : Bool} : OpR X (binaryOp .Pow) (rD2 W fun d e S => binD .pow c d e S) := opC fun x y H Q h => by
  obtain ⟨Z, P, A, S, d, e, g, hd, he, h⟩ := h
  cases hd with
  | int i =>
    cases he with
    | int j =>
      obtain ⟨hc, h⟩ := if_post (show post Z P (DenF Z) W A H (if 0 ≤ j ∧ j ≤ 1000 ∧ i.natAbs < 2 ^ 400 then .ok (.int (i ^ j.toNat)) S else .stuck) Q from h)
      exact ⟨_, op_powW, i, j, rfl, rfl, hc, ok_int g h⟩
    | _ => exact (show False from h).elim
  | _ => exact (show False from h).elim
theorem bin_ok (o : BO) {c : Bool} : OpR X (binaryOp (boOf o)) (rD2 W fun d e S => binD o c d e S) := match o with
  | .add => add_ok | .sub => sub_ok | .mul => mul_ok | .mod => mod_ok | .fdv => fdv_ok | .pow => pow_ok
/-! ### comparisons -/
def coOf : CO → CmpOp
  | .eq => .Eq | .ne => .NotEq | .lt => .Lt | .le => .LtE | .gt => .Gt | .ge => .GtE | .iss => .Is | .isn => .IsNot | .inn => .In | .nin => .NotIn
theorem op_inDT (hu : X.A.units + 65 < cLine) : OpR X (compareOp .In) (fun x y H Q => ∃ d ds, Dp X.K H x d ∧ Dp X.K H y (.tuple ds) ∧ SeqAt.shaped d = true ∧ SeqAt.shaped (.tuple ds) = true ∧ Q (.bl (ds.any fun z => PyData.eqv z d)) H) := by
  intro pins s σ H x y v u Q I rx ry h
  obtain ⟨d, ds, hd, he, sd, se, q⟩ := h
  obtain ⟨as, r1⟩ := Dp.reads I d x v hd rx
  obtain ⟨bs, r2⟩ := Dp.reads I (.tuple ds) y u he ry
  exact SeqAt.in_tuple_reads r2 r1 (SeqAt.canLay_of_shaped se) (SeqAt.canLay_of_shaped sd) (room_in_shaped sd hu) ⟨.bl _, H, I, rfl, q⟩
theorem op_notInDT (hu : X.A.units + 65 < cLine) : OpR X (compareOp .NotIn) (fun x y H Q => ∃ d ds, Dp X.K H x d ∧ Dp X.K H y (.tuple ds) ∧ SeqAt.shaped d = true ∧ SeqAt.shaped (.tuple ds) = true ∧ Q (.bl (!ds.any fun z => PyData.eqv z d)) H) := by
  intro pins s σ H x y v u Q I rx ry h
  obtain ⟨d, ds, hd, he, sd, se, q⟩ := h
  obtain ⟨as, r1⟩ := Dp.reads I d x v hd rx
  obtain ⟨bs, r2⟩ := Dp.reads I (.tuple ds) y u he ry
  exact SeqAt.notIn_tuple_reads r2 r1 (SeqAt.canLay_of_shaped se) (SeqAt.canLay_of_shaped sd) (room_in_shaped sd hu) ⟨.bl _, H, I, rfl, q⟩
theorem rB_post {Z : Addr → Prop} {P : Nat → Prop} {A : List Addr} {S : Sto} {H : Hp} {o : Option Bool} {Q : VK} (g : Sg Z P A S H) (h : post Z P (DenF Z) W A H (rB S o) Q) : ∃ b, o = some b ∧ Q (.bl b) H := by
  cases o with
  | none => exact h.elim
  | some b => exact ⟨b, rfl, ok_bl g h⟩
theorem den_non {Z : Addr → Prop} {A : List Addr} {H : Hp} {x : V} {d : DD} (h : DenF Z A H x d) : x = .non ↔ d = .non := by
  cases h <;> simp
theorem cmp_ok (o : CO) {n : Nat} (hr : Room n X.A) : OpR X (compareOp (coOf o)) (rD2 W fun d e S => cmpD o d e S) := opC fun x y H Q h => by
  obtain ⟨Z, P, A, S, d, e, g, hd, he, h⟩ := h
  have hu := hr.units
  have hu2 : X.A.units + 65 < cLine := by have := hr.un; omega
  cases o with
  | eq =>
    obtain ⟨b, hb, q⟩ := rB_post g h
    obtain ⟨p1, p2, h1, h2, h3, h4, h5⟩ := eqO_dp (K := X.K) g hd he hb
    exact ⟨_, op_eqD hu, p1, p2, h1, h2, h3, h4, by rw [h5]; exact q⟩
  | ne =>
    obtain ⟨b, hb, q⟩ := rB_post g h
    cases q0 : eqO S d e with
    | none => rw [q0] at hb; cases hb
    | some b0 =>
      rw [q0] at hb
      obtain rfl : (!b0) = b := Option.some.inj hb
      obtain ⟨p1, p2, h1, h2, h3, h4, h5⟩ := eqO_dp (K := X.K) g hd he q0
      exact ⟨_, op_neD hu, p1, p2, h1, h2, h3, h4, by rw [h5]; exact q⟩
  | lt =>
    cases hd with
    | int i =>
      cases he with
      | int j => exact ⟨_, op_lt, i, j, rfl, rfl, ok_bl g h⟩
      | _ => exact (show False from h).elim
    | @tup a us xs h1 h2 h3 =>
      cases he with
      | @tup b ws ys g1 g2 g3 =>
        cases q1 : intsOf xs with
        | none =>
          have h' : post Z P (DenF Z) W A H (match intsOf xs, intsOf ys with | some ns, some ms => .ok (.bl (HT.lexLt ns ms)) S | _, _ => .stuck) Q := h
          rw [q1] at h'; exact h'.elim
        | some ns =>
          cases q2 : intsOf ys with
          | none =>
            have h' : post Z P (DenF Z) W A H (match intsOf xs, intsOf ys with | some ns, some ms => .ok (.bl (HT.lexLt ns ms)) S | _, _ => .stuck) Q := h
            rw [q1, q2] at h'; exact h'.elim
          | some ms =>
            have h' : post Z P (DenF Z) W A H (match intsOf xs, intsOf ys with | some ns, some ms => .ok (.bl (HT.lexLt ns ms)) S | _, _ => .stuck) Q := h
            rw [q1, q2] at h'
            have e1 := ints_of q1 h3
            have e2 := ints_of q2 g3
            subst e1 e2
            exact ⟨_, op_ltT hr.units0, a, b, ns, ms, rfl, rfl, .of h2, .of g2, ok_bl g h'⟩
      | _ => exact (show False from h).elim
    | _ => exact (show False from h).elim
  | le =>
    cases hd with
    | int i =>
      cases he with
      | int j => exact ⟨_, op_le, i, j, rfl, rfl, ok_bl g h⟩
      | _ => exact (show False from h).elim
    | @tup a us xs h1 h2 h3 =>
      cases he with
      | @tup b ws ys g1 g2 g3 =>
        have h' : post Z P (DenF Z) W A H (match intsOf xs, intsOf ys with
          | some ns, some ms => .ok (.bl (Ob.lexAt (fun j => decide (ns.getD j 0 = ms.getD j 0)) (fun j => decide (ns.getD j 0 ≤ ms.getD j 0)) (decide (ns.length ≤ ms.length)) 0 (min ns.length ms.length))) S
          | _, _ => .stuck) Q := h
        cases q1 : intsOf xs with
        | none => rw [q1] at h'; exact h'.elim
        | some ns =>
          cases q2 : intsOf ys with
          | none => rw [q1, q2] at h'; exact h'.elim
          | some ms =>
            rw [q1, q2] at h'
            have e1 := ints_of q1 h3
            have e2 := ints_of q2 g3
            subst e1 e2
            exact ⟨_, op_leT hr.units0, a, b, ns, ms, rfl, rfl, .of h2, .of g2, ok_bl g h'⟩
      | _ => exact (show False from h).elim
    | _ => exact (show False from h).elim
  | gt =>
    cases hd with
    | int i =>
      cases he with
      | int j => exact ⟨_, op_gt, i, j, rfl, rfl, ok_bl g h⟩
      | _ => exact (show False from h).elim
    | _ => exact (show False from h).elim
  | ge =>
    cases hd with
    | int i =>
      cases he with
      | int j => exact ⟨_, op_ge, i, j, rfl, rfl, ok_bl g h⟩
      | _ => exact (show False from h).elim
    | _ => exact (show False from h).elim
  | iss =>
    cases he with
    | non =>
      cases hd with
      | non => exact ⟨_, op_isN, rfl, ok_bl g h⟩
      | _ => exact ⟨_, op_isN, rfl, ok_bl g h⟩
    | bl b =>
      cases hd with
      | bl a => exact ⟨_, op_isBl, a, b, rfl, rfl, ok_bl g h⟩
      | _ => exact (show False from h).elim
    | _ => cases hd <;> exact (show False from h).elim
  | isn =>
    cases he with
    | non =>
      cases hd with
      | non => exact ⟨_, op_notN, rfl, ok_bl g h⟩
      | _ => exact ⟨_, op_notN, rfl, ok_bl g h⟩
    | _ => cases hd <;> exact (show False from h).elim
  | inn =>
    obtain ⟨b, hb, q⟩ := rB_post g h
    obtain ⟨p1, qs, h1, h2, h3, h4⟩ := inO_dp (K := X.K) g hd he hb
    rcases h2 with ⟨h2, h5⟩ | ⟨h2, h5⟩
    · exact ⟨_, op_inD hu2, p1, qs, h1, h2, h3, h5, by rw [h4]; exact q⟩
    · exact ⟨_, op_inDT hu2, p1, qs, h1, h2, h3, h5, by rw [h4]; exact q⟩
  | nin =>
    obtain ⟨b, hb, q⟩ := rB_post g h
    cases q0 : inO S d e with
    | none => rw [q0] at hb; cases hb
    | some b0 =>
      rw [q0] at hb
      obtain rfl : (!b0) = b := Option.some.inj hb
      obtain ⟨p1, qs, h1, h2, h3, h4⟩ := inO_dp (K := X.K) g hd he q0
      rcases h2 with ⟨h2, h5⟩ | ⟨h2, h5⟩
      · exact ⟨_, op_notInD hu2, p1, qs, h1, h2, h3, h5, by rw [h4]; exact q⟩
      · exact ⟨_, op_notInDT hu2, p1, qs, h1, h2, h3, h5, by rw [h4]; exact q⟩
end
end VI

set_option Elab.async false
set_option linter.all false
set_option maxRecDepth 100000
set_option maxHeartbeats 4000000
/-! VI, part 4: items, slices, built-ins, methods, truth. -/
namespace VI
open PySem PySem.Spec PyProof.Rows L2
section
variable {X : Cx} {W : Nat → V → Hp → Prop}
/-! ### items -/
theorem DenL.atI {F : Addr → Prop} {A : List Addr} {k : Nat} {H : Hp} {vs : List V} {ds : List DD} (h : DenL F A k H vs ds) {i : Int} {d : DD} (e : L2.atI ds i = some d) : ∃ v, L2.atI vs i = some v ∧ Den F A k H v d := by
  unfold L2.atI at e ⊢
  rw [h.length]
  cases q : ixN ds.length i with
  | none => rw [q] at e; cases e
  | some j =>
    rw [q] at e
    exact h.get e
theorem ixC {r' : R2} (im : ∀ x y H Q, r' x y H Q → ∃ r : R2, IxR X r ∧ r x y H Q) : IxR X r' := fun value slice pins s σ H x y v u Q I rx ry q hs => by
  obtain ⟨r, h, q2⟩ := im x y H Q q
  exact h value slice pins s σ H x y v u Q I rx ry q2 hs
theorem atI_map {α β : Type} (f : α → β) (xs : List α) (i : Int) : L2.atI (xs.map f) i = (L2.atI xs i).map f := by
  unfold L2.atI
  rw [List.length_map]
  cases ixN xs.length i with
  | none => rfl
  | some j => show (xs.map f)[j]? = (xs[j]?).map f; rw [List.getElem?_map]
theorem ix_ok : IxR X (rD2 W fun d e S => ixD d e S) := ixC fun x y H Q h => by
  obtain ⟨Z, P, A, S, d, e, g, hd, he, h⟩ := h
  cases he with
  | int k =>
    have seqs : ∀ xs, seqOf S d = some xs → post Z P (DenF Z) W A H (match L2.atI xs k with | some d => .ok d S | none => .stuck) Q → ∃ r : R2, IxR X r ∧ r x (V.int k) H Q := fun xs q1 hm => by
      cases q2 : L2.atI xs k with
      | none => rw [q2] at hm; exact hm.elim
      | some d0 =>
        rw [q2] at hm
        obtain ⟨a, us, rfl, ha, du⟩ := g.seqB hd q1
        obtain ⟨v, hv, dv⟩ := du.atI q2
        rcases ha with ha | ha
        · exact ⟨_, ix_list, a, us, k, v, rfl, rfl, .of ha, hv, here_ok g.rel dv hm⟩
        · exact ⟨_, ix_tup, a, us, k, v, rfl, rfl, .of ha, hv, here_ok g.rel dv hm⟩
    cases d with
    | str z =>
      cases hd
      obtain ⟨hc, h⟩ := if_post (show post Z P (DenF Z) W A H (if z.length ≤ lenMax then (match L2.atI z.cps.toList k with | some c => .ok (.str ⟨#[c]⟩) S | none => .stuck) else .stuck) Q from h)
      cases q2 : L2.atI z.cps.toList k with
      | none => rw [q2] at h; exact h.elim
      | some c =>
        rw [q2] at h
        exact ⟨_, ix_str, z, k, c, rfl, rfl, Nat.le_trans hc lenMax_le, q2, here_ok g.rel (.str _) h⟩
    | scr ns =>
      have h' : post Z P (DenF Z) W A H (match L2.atI ns k with | some n => .ok (.int n) S | none => .stuck) Q := h
      cases q2 : L2.atI ns k with
      | none => rw [q2] at h'; exact h'.elim
      | some c =>
        rw [q2] at h'
        cases hd with
        | scr h1 h2 => exact ⟨_, ix_list, _, ns.map V.int, k, .int c, rfl, rfl, .inl (.inr ⟨_, h2⟩), by rw [atI_map, q2]; rfl, ok_int g h'⟩
    | lst xs => exact seqs xs rfl h
    | tup xs => exact seqs xs rfl h
    | cel n =>
      cases q1 : seqOf S (.cel n) with
      | none =>
        have h' : post Z P (DenF Z) W A H (match seqOf S (.cel n) with | some xs => (match L2.atI xs k with | some d => .ok d S | none => .stuck) | none => .stuck) Q := h
        rw [q1] at h'; exact h'.elim
      | some xs =>
        have h' : post Z P (DenF Z) W A H (match seqOf S (.cel n) with | some xs => (match L2.atI xs k with | some d => .ok d S | none => .stuck) | none => .stuck) Q := h
        rw [q1] at h'
        exact seqs xs q1 h'
    | _ => exact (show False from h).elim
  | _ => exact (show False from h).elim
/-! ### slices -/
def rDS (W : Nat → V → Hp → Prop) (c : Bool) : V → Option Int → Option Int → Hp → VK → Prop := fun x lo hi H Q => ∃ (Z : Addr → Prop) (P : Nat → Prop) (A : List Addr) (S : Sto) (d : DD), Sg Z P A S H ∧ DenF Z A H x d ∧ post Z P (DenF Z) W A H (slD c d lo hi S) Q
theorem DenL.cut {F : Addr → Prop} {A : List Addr} {k : Nat} {H : Hp} {vs : List V} {ds : List DD} (h : DenL F A k H vs ds) (lo hi : Option Int) : DenL F A k H (cutV vs lo hi) (cutL ds lo hi) := by
  unfold cutV cutL
  rw [h.length]
  exact (h.drop _).take _
theorem cut_whole {α : Type} {xs : List α} {lo hi : Option Int} (h : HT.sIx xs.length 0 lo = 0 ∧ HT.sIx xs.length xs.length hi = xs.length) : cutL xs lo hi = xs := by
  unfold cutL
  rw [h.1, h.2]
  simp
theorem cutL_map {α β : Type} (f : α → β) (xs : List α) (lo hi : Option Int) : cutL (xs.map f) lo hi = (cutL xs lo hi).map f := by
  unfold cutL
  rw [List.length_map, List.map_take, List.map_drop]
theorem sl_ok (c : Bool) : SlR X (rDS W c) := fun pins s σ H x v vl vu lo hi sl Q I rx hs pl pu h => by
  obtain ⟨Z, P, A, S, d, g, hd, h⟩ := h
  have lst : ∀ xs, lstOf S d = some xs → post Z P (DenF Z) W A H (alloc c (cutL xs lo hi) S) Q → rSlL X.K x lo hi H Q := fun xs q1 hm => by
    obtain ⟨a, us, rfl, ha, du⟩ := g.seqL hd q1
    exact ⟨a, us, rfl, .of ha, fun p hp => alloc_ok g.rel g.hP (du.cut lo hi) hm p hp⟩
  cases d with
  | str z =>
    cases hd
    obtain ⟨hc, h⟩ := if_post (show post Z P (DenF Z) W A H (if z.length ≤ lenMax then .ok (.str (cutS z lo hi)) S else .stuck) Q from h)
    exact sl_str pins s σ H _ v vl vu lo hi sl Q I rx hs pl pu ⟨z, rfl, Nat.le_trans hc lenMax_le, here_ok g.rel (.str _) h⟩
  | scr ns =>
    cases hd with
    | scr h1 h2 =>
      refine sl_list pins s σ H _ v vl vu lo hi sl Q I rx hs pl pu ⟨_, ns.map V.int, rfl, .inl (.inr ⟨_, h2⟩), fun p hp => ?_⟩
      have e : cutV (ns.map V.int) lo hi = (cutL ns lo hi).map V.int := cutL_map V.int ns lo hi
      rw [e]
      exact alloc_ok g.rel g.hP (DenL.ints _) h p hp
  | tup xs =>
    cases hd with
    | @tup a us _ h1 h2 h3 =>
      have h' : post Z P (DenF Z) W A H (.ok (.tup (cutL xs lo hi)) S) Q := h
      refine sl_tupA pins s σ H _ v vl vu lo hi sl Q I rx hs pl pu ⟨a, us, rfl, .of h2, fun e0 => ?_, fun _ p hp => tup_ok g.rel (h3.cut lo hi) h' p hp⟩
      rw [h3.length] at e0
      rw [cut_whole e0] at h'
      exact here_ok g.rel (.tup h1 h2 h3) h'
  | lst xs => exact sl_list pins s σ H _ v vl vu lo hi sl Q I rx hs pl pu (lst xs rfl h)
  | cel n =>
    have h' : post Z P (DenF Z) W A H (match lstOf S (.cel n) with | some xs => alloc c (cutL xs lo hi) S | none => .stuck) Q := h
    cases q1 : lstOf S (.cel n) with
    | none => rw [q1] at h'; exact h'.elim
    | some xs =>
      rw [q1] at h'
      exact sl_list pins s σ H _ v vl vu lo hi sl Q I rx hs pl pu (lst xs q1 h')
  | _ => exact (show False from h).elim
/-! ### built-ins -/
def rDL (W : Nat → V → Hp → Prop) (f : List DD → Sto → R DD) : List V → Hp → VK → Prop := fun xs H Q => ∃ (Z : Addr → Prop) (P : Nat → Prop) (A : List Addr) (S : Sto) (ds : List DD), Sg Z P A S H ∧ DenLF Z A H xs ds ∧ post Z P (DenF Z) W A H (f ds S) Q
theorem callC {f : Value} {r' : List V → Hp → VK → Prop} (im : ∀ xs H Q, r' xs H Q → ∃ r : List V → Hp → VK → Prop, CallR X f r ∧ r xs H Q) : CallR X f r' := fun pins s σ H xs us Q I rx q => by
  obtain ⟨r, h, q2⟩ := im xs H Q q
  exact h pins s σ H xs us Q I rx q2
theorem max_foldl : ∀ (ns : List Int) (n : Int), ns.foldl max n ∈ n :: ns ∧ ∀ y ∈ n :: ns, y ≤ ns.foldl max n
  | [], n => ⟨by simp, by simp⟩
  | m :: ns, n => by
    obtain ⟨h1, h2⟩ := max_foldl ns (max n m)
    refine ⟨?_, fun y hy => ?_⟩
    · rcases List.mem_cons.mp h1 with h | h
      · rw [List.foldl_cons, h]
        by_cases c : n ≤ m
        · rw [Int.max_eq_right c]; simp
        · rw [Int.max_eq_left (by omega)]; simp
      · rw [List.foldl_cons]
        exact List.mem_cons_of_mem _ (List.mem_cons_of_mem _ h)
    · rw [List.foldl_cons]
      have h3 := h2 (max n m) (by simp)
      rcases List.mem_cons.mp hy with e | hy
      · subst e; omega
      · rcases List.mem_cons.mp hy with e | hy
        · subst e; omega
        · exact h2 y (List.mem_cons_of_mem _ hy)
theorem min_foldl : ∀ (ns : List Int) (n : Int), ns.foldl min n ∈ n :: ns ∧ ∀ y ∈ n :: ns, ns.foldl min n ≤ y
  | [], n => ⟨by simp, by simp⟩
  | m :: ns, n => by
    obtain ⟨h1, h2⟩ := min_foldl ns (min n m)
    refine ⟨?_, fun y hy => ?_⟩
    · rcases List.mem_cons.mp h1 with h | h
      · rw [List.foldl_cons, h]
        by_cases c : n ≤ m
        · rw [Int.min_eq_left c]; simp
        · rw [Int.min_eq_right (by omega)]; simp
      · rw [List.foldl_cons]
        exact List.mem_cons_of_mem _ (List.mem_cons_of_mem _ h)
    · rw [List.foldl_cons]
      have h3 := h2 (min n m) (by simp)
      rcases List.mem_cons.mp hy with e | hy
      · subst e; omega
      · rcases List.mem_cons.mp hy with e | hy
        · subst e; omega
        · exact h2 y (List.mem_cons_of_mem _ hy)
def biOf : BI → Value
  | .len => .builtin "len" | .tuple => .type "tuple" | .list => .type "list" | .int => .type "int" | .abs => .builtin "abs" | .max => .builtin "max" | .min => .builtin "min" | .sum => .builtin "sum"
  | .all => .builtin "all" | .any => .builtin "any" | .sorted => .builtin "sorted"
def biName : BI → Str
  | .len => "len" | .tuple => "tuple" | .list => "list" | .int => "int" | .abs => "abs" | .max => "max" | .min => "min" | .sum => "sum" | .all => "all" | .any => "any" | .sorted => "sorted"
theorem one_den {Z : Addr → Prop} {A : List Addr} {H : Hp} {xs : List V} {d : DD} (h : DenLF Z A H xs [d]) : ∃ x, xs = [x] ∧ DenF Z A H x d := by
  cases h with
  | cons h1 h2 => cases h2; exact ⟨_, rfl, h1⟩
theorem two_den {Z : Addr → Prop} {A : List Addr} {H : Hp} {xs : List V} {d e : DD} (h : DenLF Z A H xs [d, e]) : ∃ x y, xs = [x, y] ∧ DenF Z A H x d ∧ DenF Z A H y e := by
  cases h with
  | cons h1 h2 =>
    obtain ⟨y, rfl, hy⟩ := one_den h2
    exact ⟨_, y, rfl, h1, hy⟩
theorem call_lenE : CallR X (.builtin "len") (fun xs H Q => ∃ a kvs, xs = [V.ref a] ∧ H a = some (.dK kvs) ∧ Q (.int kvs.length) H) := call_lenD
theorem bi_ok (hc : X.calm = true) (f : BI) (c : Bool) : CallR X (biOf f) (rDL W fun ds S => biD f c ds S) := callC fun xs H Q h => by
  obtain ⟨Z, P, A, S, ds, g, hd, h⟩ := h
  have hin : ∀ (d : DD) (ns : List Int) (x : V), DenF Z A H x d → (lstOf S d).bind intsOf = some ns → ∃ a, x = .ref a ∧ SqL X.K H a (ns.map V.int) := fun d ns x hx e => by
    cases q : lstOf S d with
    | none => rw [q] at e; cases e
    | some ys =>
      rw [q] at e
      obtain ⟨a, us, rfl, ha, du⟩ := g.seqL hx q
      have := ints_of (show intsOf ys = some ns from e) du
      subst this
      exact ⟨a, rfl, .of ha⟩
  have hbl : ∀ (d : DD) (ns : List Bool) (x : V), DenF Z A H x d → (lstOf S d).bind blsOf = some ns → ∃ a, x = .ref a ∧ SqL X.K H a (ns.map V.bl) := fun d ns x hx e => by
    cases q : lstOf S d with
    | none => rw [q] at e; cases e
    | some ys =>
      rw [q] at e
      obtain ⟨a, us, rfl, ha, du⟩ := g.seqL hx q
      have := bls_of (show blsOf ys = some ns from e) du
      subst this
      exact ⟨a, rfl, .of ha⟩
  match ds, hd, h with
  | [], _, h => cases f <;> exact (show False from h).elim
  | [d], hd, h =>
    obtain ⟨x, rfl, hx⟩ := one_den hd
    cases f with
    | len =>
      have sq : ∀ ys, seqOf S d = some ys → post Z P (DenF Z) W A H (.ok (.int ys.length) S) Q → ∃ r : List V → Hp → VK → Prop, CallR X (.builtin "len") r ∧ r [x] H Q := fun ys q1 hm => by
        obtain ⟨a, us, rfl, ha, du⟩ := g.seqB hx q1
        rw [← du.length] at hm
        exact ⟨_, call_len_seq, a, us, rfl, ha.imp .of .of, ok_int g hm⟩
      cases d with
      | str z =>
        cases hx
        obtain ⟨hc, h⟩ := if_post (show post Z P (DenF Z) W A H (if z.length ≤ lenMax then .ok (.int z.length) S else .stuck) Q from h)
        exact ⟨_, call_len, _, _, rfl, ⟨Nat.le_trans hc lenMax_le, rfl⟩, ok_int g h⟩
      | scr ns =>
        cases hx with
        | scr h1 h2 =>
          have h' : post Z P (DenF Z) W A H (.ok (.int ns.length) S) Q := h
          exact ⟨_, call_len_seq, _, ns.map V.int, rfl, .inl (.inl (.inr ⟨_, h2⟩)), by rw [List.length_map]; exact ok_int g h'⟩
      | emp =>
        cases hx with
        | emp h1 h2 => exact ⟨_, call_lenD, _, [], rfl, h2, ok_int g h⟩
      | lst xs => exact sq xs rfl h
      | tup xs => exact sq xs rfl h
      | cel n =>
        have h' : post Z P (DenF Z) W A H (match seqOf S (.cel n) with | some xs => .ok (.int xs.length) S | none => .stuck) Q := h
        cases q1 : seqOf S (.cel n) with
        | none => rw [q1] at h'; exact h'.elim
        | some ys => rw [q1] at h'; exact sq ys q1 h'
      | _ => exact (show False from h).elim
    | tuple =>
      have h' : post Z P (DenF Z) W A H (match seqOf S d with | some xs => .ok (.tup xs) S | none => .stuck) Q := h
      cases q1 : seqOf S d with
      | none => rw [q1] at h'; exact h'.elim
      | some ys =>
        rw [q1] at h'
        cases hx with
        | @tup a us _ h1 h2 h3 =>
          cases q1
          exact ⟨_, call_tuple_of, a, us, rfl, .inr ⟨.of h2, here_ok g.rel (.tup h1 h2 h3) h'⟩⟩
        | @lst a us _ h1 h2 h3 =>
          cases q1
          exact ⟨_, call_tuple_of, a, us, rfl, .inl ⟨.of h2, fun p hp => tup_ok g.rel h3 h' p hp⟩⟩
        | @cel a n h1 h2 =>
          obtain ⟨b, us, e, ha, du⟩ := g.seqL (ds := ys) (.cel h1 h2) q1
          cases e
          exact ⟨_, call_tuple_of, a, us, rfl, .inl ⟨.of ha, fun p hp => tup_ok g.rel du h' p hp⟩⟩
        | _ => cases q1
    | list =>
      have h' : post Z P (DenF Z) W A H (match seqOf S d with | some xs => alloc c xs S | none => .stuck) Q := h
      cases q1 : seqOf S d with
      | none => rw [q1] at h'; exact h'.elim
      | some ys =>
        rw [q1] at h'
        obtain ⟨a, us, rfl, ha, du⟩ := g.seqB hx q1
        exact ⟨_, call_list_of, a, us, rfl, ha.imp .of .of, fun p hp => alloc_ok g.rel g.hP du h' p hp⟩
    | int =>
      cases hx with
      | int i => exact ⟨_, call_int1, .inl ⟨i, rfl, ok_int g h⟩⟩
      | bl b => exact ⟨_, call_int1, .inr ⟨b, rfl, ok_int g h⟩⟩
      | _ => exact (show False from h).elim
    | abs =>
      cases hx with
      | int i => exact ⟨_, call_abs, i, rfl, ok_int g h⟩
      | _ => exact (show False from h).elim
    | max =>
      have h' : post Z P (DenF Z) W A H (match (lstOf S d).bind intsOf with | some (n :: ns) => .ok (.int (ns.foldl max n)) S | _ => .stuck) Q := by cases d <;> exact h
      cases q : (lstOf S d).bind intsOf with
      | none => rw [q] at h'; exact h'.elim
      | some ns =>
        rw [q] at h'
        cases ns with
        | nil => exact h'.elim
        | cons n ns =>
          obtain ⟨a, rfl, ha⟩ := hin d _ x hx q
          refine ⟨_, cr_max hc, a, n :: ns, rfl, ha, by simp, fun m hm hy => ?_⟩
          obtain ⟨h1, h2⟩ := max_foldl ns n
          have e : m = ns.foldl max n := Int.le_antisymm (h2 m hm) (hy _ h1)
          rw [e]
          exact ok_int g h'
    | min =>
      have h' : post Z P (DenF Z) W A H (match (lstOf S d).bind intsOf with | some (n :: ns) => .ok (.int (ns.foldl min n)) S | _ => .stuck) Q := by cases d <;> exact h
      cases q : (lstOf S d).bind intsOf with
      | none => rw [q] at h'; exact h'.elim
      | some ns =>
        rw [q] at h'
        cases ns with
        | nil => exact h'.elim
        | cons n ns =>
          obtain ⟨a, rfl, ha⟩ := hin d _ x hx q
          refine ⟨_, cr_min hc, a, n :: ns, rfl, ha, by simp, fun m hm hy => ?_⟩
          obtain ⟨h1, h2⟩ := min_foldl ns n
          have e : m = ns.foldl min n := Int.le_antisymm (hy _ h1) (h2 m hm)
          rw [e]
          exact ok_int g h'
    | sum =>
      have h' : post Z P (DenF Z) W A H (match (lstOf S d).bind intsOf with | some ns => .ok (.int ns.sum) S | none => .stuck) Q := h
      cases q : (lstOf S d).bind intsOf with
      | none => rw [q] at h'; exact h'.elim
      | some ns =>
        rw [q] at h'
        obtain ⟨a, rfl, ha⟩ := hin d _ x hx q
        exact ⟨_, cr_sum hc, a, ns, rfl, ha, ok_int g h'⟩
    | all =>
      have h' : post Z P (DenF Z) W A H (match (lstOf S d).bind blsOf with | some ns => .ok (.bl (ns.all id)) S | none => .stuck) Q := h
      cases q : (lstOf S d).bind blsOf with
      | none => rw [q] at h'; exact h'.elim
      | some ns =>
        rw [q] at h'
        obtain ⟨a, rfl, ha⟩ := hbl d _ x hx q
        exact ⟨_, cr_all hc, a, ns, rfl, ha, ok_bl g h'⟩
    | any =>
      have h' : post Z P (DenF Z) W A H (match (lstOf S d).bind blsOf with | some ns => .ok (.bl (ns.any id)) S | none => .stuck) Q := h
      cases q : (lstOf S d).bind blsOf with
      | none => rw [q] at h'; exact h'.elim
      | some ns =>
        rw [q] at h'
        obtain ⟨a, rfl, ha⟩ := hbl d _ x hx q
        exact ⟨_, cr_any hc, a, ns, rfl, ha, ok_bl g h'⟩
    | sorted => exact (show False from h).elim
  | [d, e], hd, h =>
    obtain ⟨x, y, rfl, hx, hy⟩ := two_den hd
    cases f with
    | max =>
      cases hx with
      | int i =>
        cases hy with
        | int j => exact ⟨_, call_max2 hc, i, j, rfl, ok_int g h⟩
        | _ => exact (show False from h).elim
      | _ => exact (show False from h).elim
    | min =>
      cases hx with
      | int i =>
        cases hy with
        | int j => exact ⟨_, call_min2 hc, i, j, rfl, ok_int g h⟩
        | _ => exact (show False from h).elim
      | _ => exact (show False from h).elim
    | _ => first
      | exact (show False from h).elim
      | (cases d <;> exact (show False from h).elim)
  | d :: e :: _ :: _, _, h => cases f <;> first
      | exact (show False from h).elim
      | (cases d <;> first
          | exact (show False from h).elim
          | (cases e <;> exact (show False from h).elim))
/-! ### isinstance -/
def tyNames : List String := ["NoneType", "bool", "int", "str", "list", "tuple", "dict"]
theorem kit_all : ∀ a ∈ tyNames, ∀ b ∈ ["int", "bool", "str", "list", "tuple", "dict"], kitB a b = some (isiB a b) := by decide +kernel
theorem tyD_in (S : Sto) (d : DD) : tyD S d ∈ tyNames := by cases d <;> simp [tyD, tyNames]
theorem ty_of {K : PySem.W.Frag} {Z : Addr → Prop} {P : Nat → Prop} {A : List Addr} {S : Sto} {H : Hp} {x : V} {d : DD} (g : Sg Z P A S H) (h : DenF Z A H x d) : TyX K H x (.type (tyD S d)) := by
  cases h with
  | non => exact .base .non
  | bl b => exact .base (.bl b)
  | int i => exact .base (.int i)
  | str s => exact .base (.str s)
  | lst h1 h2 h3 => exact .base (.lst h2)
  | tup h1 h2 h3 => exact .base (.tup h2)
  | @cel a n h1 h2 =>
    have hl : n < S.length := by rw [← g.rel.len]; exact h1
    obtain ⟨b, xs, hb, hx, _⟩ := g.rel.cell n _ (List.getElem?_eq_getElem hl)
    rw [h2] at hb; cases hb
    exact .base (.lst hx)
  | emp h1 h2 => exact .base (.dK h2)
  | scr h1 h2 => exact .base (.frz h2)
/-! ### methods -/
theorem refsB_den {F : Addr → Prop} {A : List Addr} {k m j : Nat} {H : Hp} (hj : m ≤ j) : ∀ (d : DD) (v : V), refsB m d = true → Den F A k H v d → Den F A j H v d := by
  intro d v h hd
  have key : (∀ (d : DD) (v : V), refsB m d = true → Den F A k H v d → Den F A j H v d) ∧ (∀ (ds : List DD) (vs : List V), refsL m ds = true → DenL F A k H vs ds → DenL F A j H vs ds) := by
    refine ⟨fun d => ?_, fun ds => ?_⟩
    · refine DD.rec (motive_1 := fun d => ∀ v, refsB m d = true → Den F A k H v d → Den F A j H v d) (motive_2 := fun ds => ∀ vs, refsL m ds = true → DenL F A k H vs ds → DenL F A j H vs ds) ?_ ?_ ?_ ?_ ?_ ?_ ?_ ?_ ?_ ?_ ?_ d
      · intro v _ h; cases h; exact .non
      · intro b v _ h; cases h; exact .bl b
      · intro b v _ h; cases h; exact .int b
      · intro b v _ h; cases h; exact .str b
      · intro xs ih v e h
        cases h with
        | lst h1 h2 h3 => exact .lst h1 h2 (ih _ (by simpa [refsB] using e) h3)
      · intro xs ih v e h
        cases h with
        | tup h1 h2 h3 => exact .tup h1 h2 (ih _ (by simpa [refsB] using e) h3)
      · intro n v e h
        cases h with
        | cel h1 h2 =>
          have : n < m := by simpa [refsB] using e
          exact .cel (by omega) h2
      · intro v _ h
        cases h with
        | emp h1 h2 => exact .emp h1 h2
      · intro ns v _ h
        cases h with
        | scr h1 h2 => exact .scr h1 h2
      · intro vs _ h; cases h; exact .nil
      · intro d ds ih1 ih2 vs e h
        cases h with
        | cons h1 h2 =>
          have e' : refsB m d = true ∧ refsL m ds = true := by simpa [refsL] using e
          exact .cons (ih1 _ e'.1 h1) (ih2 _ e'.2 h2)
    · refine DD.rec_1 (motive_1 := fun d => ∀ v, refsB m d = true → Den F A k H v d → Den F A j H v d) (motive_2 := fun ds => ∀ vs, refsL m ds = true → DenL F A k H vs ds → DenL F A j H vs ds) ?_ ?_ ?_ ?_ ?_ ?_ ?_ ?_ ?_ ?_ ?_ ds
      · intro v _ h; cases h; exact .non
      · intro b v _ h; cases h; exact .bl b
      · intro b v _ h; cases h; exact .int b
      · intro b v _ h; cases h; exact .str b
      · intro xs ih v e h
        cases h with
        | lst h1 h2 h3 => exact .lst h1 h2 (ih _ (by simpa [refsB] using e) h3)
      · intro xs ih v e h
        cases h with
        | tup h1 h2 h3 => exact .tup h1 h2 (ih _ (by simpa [refsB] using e) h3)
      · intro n v e h
        cases h with
        | cel h1 h2 =>
          have : n < m := by simpa [refsB] using e
          exact .cel (by omega) h2
      · intro v _ h
        cases h with
        | emp h1 h2 => exact .emp h1 h2
      · intro ns v _ h
        cases h with
        | scr h1 h2 => exact .scr h1 h2
      · intro vs _ h; cases h; exact .nil
      · intro d ds ih1 ih2 vs e h
        cases h with
        | cons h1 h2 =>
          have e' : refsB m d = true ∧ refsL m ds = true := by simpa [refsL] using e
          exact .cons (ih1 _ e'.1 h1) (ih2 _ e'.2 h2)
  exact key.1 d v h hd
theorem refsL_den {F : Addr → Prop} {A : List Addr} {k m j : Nat} {H : Hp} (hj : m ≤ j) : ∀ (ds : List DD) (vs : List V), refsL m ds = true → DenL F A k H vs ds → DenL F A j H vs ds
  | [], _, _, h => by cases h; exact .nil
  | d :: ds, _, e, h => by
    cases h with
    | cons h1 h2 =>
      have e' : refsB m d = true ∧ refsL m ds = true := by simpa [refsL] using e
      exact .cons (refsB_den hj d _ e'.1 h1) (refsL_den hj ds _ e'.2 h2)
/-- the stored items may stand there -/
theorem put_ok {k n : Nat} {Z : Addr → Prop} {P : Nat → Prop} {A : List Addr} {S : Sto} {H : Hp} {ds : List DD} {ys : List V} {a : Addr} {xs : List V} (g : Sg Z P A S H) (hk : ∀ j, P j → j ≤ k) (ha : A[n]? = some a) (hd : DenLF Z A H ys ds) (hc : k ≤ n ∨ refsL n ds = true) :
    Rel Z P A (S.set n ds) (upd H a (.lst ys)) := by
  refine g.rel.wrote (xs := xs) ha hd fun j hj hn => ?_
  rcases hc with hc | hc
  · have := hk j hj; omega
  · exact refsL_den (by omega) ds ys hc hd
def mtId : MT → String
  | .append => "list.append" | .pop => "list.pop" | .popAt => "list.pop" | .insert => "list.insert" | .clear => "list.clear" | .remove => "list.remove" | .extend => "list.extend" | .reverse => "list.reverse"
def mtName : MT → Str
  | .append => "append" | .pop => "pop" | .popAt => "pop" | .insert => "insert" | .clear => "clear" | .remove => "remove" | .extend => "extend" | .reverse => "reverse"
def rDM (W : Nat → V → Hp → Prop) (k : Nat) (m : MT) : V → List V → Hp → VK → Prop := fun x xs H Q => ∃ (Z : Addr → Prop) (P : Nat → Prop) (A : List Addr) (S : Sto) (d : DD) (ds : List DD), Sg Z P A S H ∧ (∀ j, P j → j ≤ k) ∧ DenF Z A H x d ∧ DenLF Z A H xs ds ∧ post Z P (DenF Z) W A H (mtD k m d ds S) Q
theorem mtC {id : String} {r' : V → List V → Hp → VK → Prop} (im : ∀ x xs H Q, r' x xs H Q → ∃ r : V → List V → Hp → VK → Prop, MtR X id r ∧ r x xs H Q) : MtR X id r' := fun pins s σ H x xs v us Q I rx rs q => by
  obtain ⟨r, h, q2⟩ := im x xs H Q q
  exact h pins s σ H x xs v us Q I rx rs q2
theorem zero_den {Z : Addr → Prop} {A : List Addr} {H : Hp} {xs : List V} (h : DenLF Z A H xs []) : xs = [] := by cases h; rfl
theorem ixN_lt {n : Nat} {i : Int} {j : Nat} (h : ixN n i = some j) : j < n := (ixN_seq h).2.1
theorem mt_ok (k : Nat) (m : MT) : MtR X (mtId m) (rDM W k m) := mtC fun x xs H Q h => by
  obtain ⟨Z, P, A, S, d, ds, g, hk, hd, hs, h⟩ := h
  cases d with
  | cel n =>
    cases hd with
    | @cel a _ h1 h2 =>
      have hl : n < S.length := by rw [← g.rel.len]; exact h1
      obtain ⟨b, ys, hb, hy, hdy, _⟩ := g.rel.cell n S[n] (List.getElem?_eq_getElem hl)
      rw [h2] at hb; cases hb
      have hm := List.mem_of_getElem? h2
      have hS : S[n]? = some S[n] := List.getElem?_eq_getElem hl
      generalize S[n] = es at hdy hS
      have fin : ∀ {zs : List V} {ds' : List DD} {v : V} {r : DD}, DenLF Z A H zs ds' → DenF Z A H v r → post Z P (DenF Z) W A H (putC k n ds' S r) Q → Q v (upd H a (.lst zs)) := fun {zs ds' v r} hz hv hp => by
        obtain ⟨hc, hp⟩ := if_post hp
        have e : Ext A H A (upd H a (.lst zs)) := Ext.write hm
        exact hp A _ v e (put_ok (xs := ys) g hk h2 hz hc) (e.denF hv)
      have h' : post Z P (DenF Z) W A H (match S[n]? with
        | some xs => mtL k n m xs ds S
        | none => .stuck) Q := h
      clear h
      rw [hS] at h'
      have h' : post Z P (DenF Z) W A H (mtL k n m es ds S) Q := h'
      have hlen := hdy.length
      have lm := lenMax_le
      have lmd : lenMax = 1000000 := rfl
      cases m with
      | append =>
        match ds, hs, h' with
        | [d], hs, h' =>
          obtain ⟨y, rfl, hy2⟩ := one_den hs
          obtain ⟨hc, h'⟩ := if_post (show post Z P (DenF Z) W A H (if es.length < lenMax then putC k n (es ++ [d]) S .non else .stuck) Q from h')
          exact ⟨_, mt_append, a, ys, y, rfl, rfl, hy, by omega, fin (hdy.snoc hy2) .non h'⟩
        | [], _, h' => exact (show False from h').elim
        | _ :: _ :: _, _, h' => exact (show False from h').elim
      | pop =>
        match ds, hs, h' with
        | [], hs, h' =>
          cases zero_den hs
          have h2' : post Z P (DenF Z) W A H (match es[es.length - 1]? with | some d => putC k n es.dropLast S d | none => .stuck) Q := h'
          cases q : es[es.length - 1]? with
          | none => rw [q] at h2'; exact h2'.elim
          | some d =>
            rw [q] at h2'
            obtain ⟨v, hv, dv⟩ := hdy.get q
            refine ⟨_, mt_pop, a, ys, v, rfl, rfl, hy, by rw [hlen]; exact hv, fin ?_ dv h2'⟩
            rw [List.dropLast_eq_take, List.dropLast_eq_take, hlen]
            exact hdy.take _
        | _ :: _, _, h' => exact (show False from h').elim
      | popAt =>
        match ds, hs, h' with
        | [.int i], hs, h' =>
          obtain ⟨y, rfl, hy2⟩ := one_den hs
          cases hy2
          have h2' : post Z P (DenF Z) W A H (match ixN es.length i with
            | some j => match es[j]? with
              | some d => if es.length ≤ lenMax then putC k n (es.eraseIdx j) S d else .stuck
              | none => .stuck
            | none => .stuck) Q := h'
          cases q : ixN es.length i with
          | none => rw [q] at h2'; exact h2'.elim
          | some j =>
            rw [q] at h2'
            have h3' : post Z P (DenF Z) W A H (match es[j]? with
              | some d => if es.length ≤ lenMax then putC k n (es.eraseIdx j) S d else .stuck
              | none => .stuck) Q := h2'
            cases q2 : es[j]? with
            | none => rw [q2] at h3'; exact h3'.elim
            | some d =>
              rw [q2] at h3'
              obtain ⟨hc, h3'⟩ := if_post h3'
              obtain ⟨v, hv, dv⟩ := hdy.get q2
              obtain ⟨e1, e2, e3, e4⟩ := ixN_seq q
              refine ⟨_, mt_popAt, a, ys, i, j, v, rfl, rfl, hy, by omega, by omega, by rw [hlen]; exact e1, hv, fin (hdy.erase j) dv h3'⟩
        | [], _, h' => exact (show False from h').elim
        | [.non], _, h' => exact (show False from h').elim
        | [.bl _], _, h' => exact (show False from h').elim
        | [.str _], _, h' => exact (show False from h').elim
        | [.lst _], _, h' => exact (show False from h').elim
        | [.tup _], _, h' => exact (show False from h').elim
        | [.cel _], _, h' => exact (show False from h').elim
        | [.emp], _, h' => exact (show False from h').elim
        | [.scr _], _, h' => exact (show False from h').elim
        | .int _ :: _ :: _, _, h' => exact (show False from h').elim
        | .non :: _ :: _, _, h' => exact (show False from h').elim
        | .bl _ :: _ :: _, _, h' => exact (show False from h').elim
        | .str _ :: _ :: _, _, h' => exact (show False from h').elim
        | .lst _ :: _ :: _, _, h' => exact (show False from h').elim
        | .tup _ :: _ :: _, _, h' => exact (show False from h').elim
        | .cel _ :: _ :: _, _, h' => exact (show False from h').elim
        | .emp :: _ :: _, _, h' => exact (show False from h').elim
        | .scr _ :: _ :: _, _, h' => exact (show False from h').elim
      | insert =>
        match ds, hs, h' with
        | [], _, h' => exact (show False from h').elim
        | [d], _, h' => cases d <;> exact (show False from h').elim
        | d :: e :: _ :: _, _, h' => cases d <;> exact (show False from h').elim
        | [d0, d], hs, h' =>
          obtain ⟨y0, y, rfl, hy1, hy2⟩ := two_den hs
          cases hy1 with
          | int i =>
            obtain ⟨⟨c1, c2, c3⟩, h'⟩ := if_post (show post Z P (DenF Z) W A H (if es.length < lenMax ∧ 0 ≤ i ∧ i < 2 ^ 62 then putC k n (es.take i.toNat ++ [d] ++ es.drop i.toNat) S .non else .stuck) Q from h')
            exact ⟨_, mt_insert, a, ys, i, y, rfl, rfl, hy, by omega, c2, by omega, fin ((hdy.take _).append (.cons hy2 .nil) |>.append (hdy.drop _)) .non h'⟩
          | _ => exact (show False from h').elim
      | clear =>
        match ds, hs, h' with
        | [], hs, h' => cases zero_den hs; exact ⟨_, mt_clear, a, ys, rfl, rfl, hy, fin .nil .non h'⟩
        | _ :: _, _, h' => exact (show False from h').elim
      | reverse =>
        match ds, hs, h' with
        | [], hs, h' => cases zero_den hs; exact ⟨_, mt_reverse, a, ys, rfl, rfl, hy, fin hdy.reverse .non h'⟩
        | _ :: _, _, h' => exact (show False from h').elim
      | remove => exact (show False from h').elim
      | extend => exact (show False from h').elim
  | _ => exact (show False from h).elim
/-! ### stores -/
def rDSet (W : Nat → V → Hp → Prop) (k : Nat) : TSet := fun o i v H Q => ∃ (Z : Addr → Prop) (P : Nat → Prop) (A : List Addr) (S : Sto) (d e f : DD), Sg Z P A S H ∧ (∀ j, P j → j ≤ k) ∧ DenF Z A H o d ∧ DenF Z A H i e ∧ DenF Z A H v f ∧
  post Z P (fun _ _ (_ : Unit) (_ : Unit) => True) W A H (setD k d e f S) (fun _ H' => Q H')
theorem set_ok (k : Nat) : PSet X (rDSet W k) := fun pins s σ H o i v ov iv u Q I ro ri rv h => by
  obtain ⟨Z, P, A, S, d, e, f, g, hk, hd, he, hf, h⟩ := h
  cases d with
  | cel n =>
    cases he with
    | int j =>
      cases hd with
      | @cel a _ h1 h2 =>
        have hl : n < S.length := by rw [← g.rel.len]; exact h1
        obtain ⟨b, ys, hb, hy, hdy, _⟩ := g.rel.cell n S[n] (List.getElem?_eq_getElem hl)
        rw [h2] at hb; cases hb
        have hm := List.mem_of_getElem? h2
        have hS : S[n]? = some S[n] := List.getElem?_eq_getElem hl
        generalize S[n] = es at hdy hS
        have h' : post Z P (fun _ _ (_ : Unit) (_ : Unit) => True) W A H (match S[n]? with
          | some xs => match ixN xs.length j with
            | some m => if k ≤ n ∨ refsL n (xs.set m f) = true then .ok () (S.set n (xs.set m f)) else .stuck
            | none => .stuck
          | none => .stuck) (fun _ H' => Q H') := h
        rw [hS] at h'
        have h2' : post Z P (fun _ _ (_ : Unit) (_ : Unit) => True) W A H (match ixN es.length j with
            | some m => if k ≤ n ∨ refsL n (es.set m f) = true then .ok () (S.set n (es.set m f)) else .stuck
            | none => .stuck) (fun _ H' => Q H') := h'
        cases q : ixN es.length j with
        | none => rw [q] at h2'; exact h2'.elim
        | some m =>
          rw [q] at h2'
          obtain ⟨hc, h2'⟩ := if_post h2'
          refine set_list pins s σ H _ _ v ov iv u Q I ro ri rv ⟨a, ys, j, m, rfl, rfl, hy, by rw [hdy.length]; exact q, ?_⟩
          have e : Ext A H A (upd H a (.lst (ys.set m v))) := Ext.write hm
          exact h2' A _ () e (put_ok (xs := ys) g hk h2 (hdy.set hf m) hc) trivial
    | _ => exact (show False from h).elim
  | _ => exact (show False from h).elim
/-! ### truth -/
theorem tru_of {K : PySem.W.Frag} {Z : Addr → Prop} {P : Nat → Prop} {A : List Addr} {S : Sto} {H : Hp} {x : V} {d : DD} {b : Bool} (g : Sg Z P A S H) (h : DenF Z A H x d) (e : truD S d = some b) : TruV K x H b := by
  have emp : ∀ {xs : List V} {ds : List DD}, DenLF Z A H xs ds → xs.isEmpty = ds.isEmpty := fun {xs ds} h => by cases h <;> rfl
  cases h with
  | non => cases e; rfl
  | bl c => cases e; rfl
  | int i => cases e; rfl
  | str s =>
    have e' : (if s.length ≤ lenMax then some (s.length != 0) else none) = some b := e
    by_cases c : s.length ≤ lenMax
    · rw [if_pos c] at e'
      cases e'
      refine ⟨Nat.le_trans c lenMax_le, ?_⟩
      rw [Bool.eq_iff_iff]
      simp
    · rw [if_neg c] at e'; cases e'
  | @lst a xs ds h1 h2 h3 => cases e; exact .inl ⟨xs, .of h2, by rw [emp h3]⟩
  | @tup a xs ds h1 h2 h3 => cases e; exact .inr (.inl ⟨xs, .of h2, by rw [emp h3]⟩)
  | @cel a n h1 h2 =>
    have e' : (S[n]?).map (fun l => !l.isEmpty) = some b := e
    cases q : S[n]? with
    | none => rw [q] at e'; cases e'
    | some ds =>
      rw [q] at e'
      cases e'
      obtain ⟨c, xs, hb, hx, hd, _⟩ := g.rel.cell n ds q
      rw [h2] at hb; cases hb
      exact .inl ⟨xs, .of hx, by rw [emp hd]⟩
  | emp => cases e
  | scr => cases e
end
end VI

set_option Elab.async false
set_option linter.all false
set_option maxRecDepth 100000
set_option maxHeartbeats 4000000
/-! VI, part 5: the compact form is the text's. -/
namespace VI
open PySem PySem.Spec PyProof.Rows L2

/-- what the text's top has: defs with their parameters, constants, exception classes, names that stay built-in; keyword calls that occur (def, positional, names, order) -/
structure Tab where
  funs : List (Str × List Str)
  nums : List (Str × Int)
  txts : List (Str × Str)
  excs : List Str
  free : List Str
  kws : List (Nat × Nat × List Str × List Nat)
/-- where an expression stands -/
structure CC where
  N : List Str
  sc : Scope
  fn : Str → Bool
def visB (sc : Scope) (x : Str) : Bool := match sc.names.lookup x with
  | some .local => true
  | some .cell => true
  | some .free => true
  | _ => false
def glB (sc : Scope) (x : Str) : Bool := match sc.names.lookup x with
  | some .globalImplicit => true
  | _ => false
def okN (x : Str) : Bool := !(x == ("__debug__" : Str)) && (!(x == ("__classdict__" : Str)) && !(x == ("__name__" : Str)))
def locB (C : CC) (x : Str) : Bool := match C.sc.names.lookup x with
  | some .local => true
  | some .cell => C.fn x
  | _ => false
def isStar : Expr → Bool
  | .Starred .. => true
  | _ => false
def isSlice : Expr → Bool
  | .Slice .. => true
  | _ => false
def isCall : Expr → Bool
  | .Call .. => true
  | _ => false
def isComp : Expr → Bool
  | .ListComp .. => true
  | .SetComp .. => true
  | .DictComp .. => true
  | _ => false
def isSet : Expr → Bool
  | .Set .. => true
  | _ => false
def isTupE : Expr → Bool
  | .Tuple .. => true
  | _ => false
/-- tests that go their own way -/
def isOdd : Expr → Bool
  | .UnaryOp .Not .. => true
  | .BoolOp .. => true
  | .IfExp .. => true
  | .Compare .. => true
  | _ => false
def tyB (T : Tab) (sc : Scope) (t : String) : Expr → Bool
  | .Name x _ => decide (x = Str.ofString t) && (["int", "bool", "str", "list", "tuple", "dict"].contains t && (glB sc x && T.free.contains x))
  | _ => false
def tysB (T : Tab) (sc : Scope) : List String → List Expr → Bool
  | [], [] => true
  | t :: ts, e :: es => tyB T sc t e && (!isStar e && tysB T sc ts es)
  | _, _ => false
def free1 (T : Tab) (sc : Scope) (x : Str) : Bool := glB sc x && (T.free.contains x && okN x)
def kwNames : List Keyword → List (Option Str)
  | [] => []
  | ⟨n, _, _⟩ :: r => n :: kwNames r
def kwVals : List Keyword → List Expr
  | [] => []
  | ⟨_, v, _⟩ :: r => v :: kwVals r
def tgSlots : VE → List Nat
  | .tloc i => [i]
  | .ttup ts => tgSlots ts
  | .cons t ts => tgSlots t ++ tgSlots ts
  | _ => []
/-- no stores into objects -/
def tgPlain : VE → Bool
  | .tloc _ => true
  | .ttup ts => tgPlain ts
  | .cons t ts => tgPlain t && tgPlain ts
  | .nil => true
  | _ => false

/-- inside a comprehension -/
def inC (C : CC) (sc : Scope) : CC := ⟨C.N, relS sc C.sc, fun x => sc.names.lookup x == some .cell⟩
def isNil : VE → Bool
  | .nil => true
  | _ => false
section
variable (T : Tab)
mutual
/-- m: as a test -/
def chk : VE → Bool → CC → Expr → Bool
  | .loc i, _, C, e => match e with
    | .Name x _ => decide (C.N[i]? = some x) && (visB C.sc x && okN x)
    | _ => false
  | .non, _, _, e => match e with
    | .Constant .none _ _ => true
    | _ => false
  | .bl b, _, _, e => match e with
    | .Constant (.bool c) _ _ => b == c
    | _ => false
  | .int i, _, _, e => match e with
    | .Constant (.int c) _ _ => decide (i = c)
    | _ => false
  | .str s, _, _, e => match e with
    | .Constant (.str c) _ _ => decide (s = c)
    | _ => false
  | .gint x i, _, C, e => match e with
    | .Name y _ => decide (x = y) && (glB C.sc y && (okN y && T.nums.contains (y, i)))
    | _ => false
  | .gstr x s, _, C, e => match e with
    | .Name y _ => decide (x = y) && (glB C.sc y && (okN y && T.txts.contains (y, s)))
    | _ => false
  | .tup es, _, C, e => match e with
    | .Tuple fs _ _ => chkEs es C fs
    | _ => false
  | .lst _ es, _, C, e => match e with
    | .List fs _ => chkEs es C fs
    | _ => false
  | .emp, _, _, e => match e with
    | .Dict [] [] _ => true
    | _ => false
  | .bin o _ a b, _, C, e => match e with
    | .BinOp f op g _ => decide (boOf o = op) && (chk a false C f && chk b false C g)
    | _ => false
  | .neg a, _, C, e => match e with
    | .UnaryOp .USub f _ => chk a false C f
    | _ => false
  | .cmp o a b, _, C, e => match e with
    | .Compare f [op] [g] _ => decide (coOf o = op) && (!behindInMarks op g && (chk a false C f && chk b false C g))
    | _ => false
  | .chn o p a b c, _, C, e => match e with
    | .Compare f [op, op2] [g, h] _ => decide (coOf o = op) && (decide (coOf p = op2) && (!lastMarks [op, op2] [g, h] && (chk a false C f && (chk b false C g && chk c false C h))))
    | _ => false
  | .andv a b, m, C, e => match e with
    | .BoolOp .And [f, g] pos => chk a m C f && chk b m C g
    | .BoolOp .And (f :: g :: h :: r) pos => chk a m C f && chk b m C (.BoolOp .And (g :: h :: r) pos)
    | _ => false
  | .orv a b, m, C, e => match e with
    | .BoolOp .Or [f, g] pos => chk a m C f && chk b m C g
    | .BoolOp .Or (f :: g :: h :: r) pos => chk a m C f && chk b m C (.BoolOp .Or (g :: h :: r) pos)
    | _ => false
  | .notv a, m, C, e => match e with
    | .UnaryOp .Not f _ => chk a m C f
    | _ => false
  | .itev t a b, _, C, e => match e with
    | .IfExp c f g _ => chk t true C c && (chk a false C f && chk b false C g)
    | _ => false
  | .ix a i, _, C, e => match e with
    | .Subscript f g _ => chk a false C f && (chk i false C g && !isSlice g)
    | _ => false
  | .sl _ a lo hi, _, C, e => match e with
    | .Subscript f (.Slice l h none _) _ => chk a false C f && (chkO lo C l && chkO hi C h)
    | _ => false
  | .call f es, _, C, e => match e with
    | .Call (.Name x _) (g :: gs) [] _ => glB C.sc x && (okN x && ((match T.funs[f]? with
      | some (y, ps) => decide (x = y)
      | none => false) && chkEs es C (g :: gs)))
    | _ => false
  | .callk f es pm, _, C, e => match e with
    | .Call (.Name x _) gs kws _ => glB C.sc x && (okN x && ((match T.funs[f]? with
      | some (y, ps) => decide (x = y)
      | none => false) && (T.kws.contains (f, gs.length, (kwNames kws).filterMap id, pm) && ((kwNames kws).all (·.isSome) && chkKs es C gs kws))))
    | _ => false
  | .bi f _ es, _, C, e => match e with
    | .Call (.Name x _) (g :: gs) [] _ => decide (x = biName f) && (free1 T C.sc x && chkEs es C (g :: gs))
    | _ => false
  | .isi a ts, _, C, e => match e with
    | .Call (.Name x _) [f, g] [] _ => decide (x = "isinstance") && (free1 T C.sc x && (chk a false C f && (!isStar f && (!isStar g && (match ts, g with
      | [t], .Name y p => tyB T C.sc t (.Name y p)
      | ts, .Tuple gs _ _ => decide (ts.length ≤ 1000) && tysB T C.sc ts gs
      | _, _ => false)))))
    | _ => false
  | .mt m a es, _, C, e => match e with
    | .Call (.Attribute f x p) gs [] q => decide (x = mtName m) && (chk a false C f && (!isCall f && ((p.endLine == q.line) && (decide (gs.length < 20) && chkEs es C gs))))
    | _ => false
  | .lc _ own tg it ifs elt, _, C, e => match e with
    | .ListComp f [⟨g, i, cs, 0⟩] sc _ => blkC C.N C.sc sc own && (!isSet i && (chkI it C g i && ((tgSlots tg).all (fun i => (own.map (·.2)).contains i) &&
        (chkG tg (inC C sc) g && ((match cs with | [] => isNil ifs | [e] => chk ifs true (inC C sc) e | _ => false) &&
          chk elt false (inC C sc) f)))))
    | _ => false
  | .lc2 _ own own2 tg it tg2 it2 ifs elt, _, C, e => match e with
    | .ListComp f [⟨g, i, [], 0⟩, ⟨g2, i2, cs, 0⟩] sc _ => blkC C.N C.sc sc own && (!isSet i && (chkI it C g i && ((tgSlots tg).all (fun i => (own.map (·.2)).contains i) && (own2.all (fun i => (own.map (·.2)).contains i) && ((tgSlots tg2).all (fun i => own2.contains i) &&
        (chkG tg (inC C sc) g && (!isSet i2 && (chkI it2 (inC C sc) g2 i2 && (chkG tg2 (inC C sc) g2 &&
        ((match cs with | [] => isNil ifs | [e] => chk ifs true (inC C sc) e | _ => false) && chk elt false (inC C sc) f))))))))))
    | _ => false
  | .dln own tg it kx vx, _, C, e => match e with
    | .Call (.Name x _) [.DictComp kf vf [⟨g, i, [], 0⟩] sc _] [] _ => decide (x = "len") && (free1 T C.sc x && (blkC C.N C.sc sc own && (!isSet i && (chkI it C g i && ((tgSlots tg).all (fun i => (own.map (·.2)).contains i) &&
        (chkG tg (inC C sc) g && (chk kx false (inC C sc) kf &&
          chk vx false (inC C sc) vf)))))))
    | _ => false
  | _, _, _, _ => false
def chkEs : VE → CC → List Expr → Bool
  | .nil, _, es => es.isEmpty
  | .cons a r, C, es => match es with
    | e :: es => !isStar e && (chk a false C e && chkEs r C es)
    | [] => false
  | _, _, _ => false
/-- positional ones, then the keywords' -/
def chkKs : VE → CC → List Expr → List Keyword → Bool
  | .nil, _, es, ks => es.isEmpty && ks.isEmpty
  | .cons a r, C, es, ks => match es, ks with
    | e :: es, ks => !isStar e && (chk a false C e && chkKs r C es ks)
    | [], ⟨_, e, _⟩ :: ks => chk a false C e && chkKs r C [] ks
    | [], [] => false
  | _, _, _, _ => false
def chkO : VE → CC → Option Expr → Bool
  | .nil, _, e => e.isNone
  | .cons a r, C, e => match e with
    | some e => chk a false C e && (match r with
      | .nil => true
      | _ => false)
    | none => false
  | _, _, _ => false
def chkI : VE → CC → Expr → Expr → Bool
  | .iseq a, C, _, e => chk a false C e
  | .irg1 a, C, _, e => match e with
    | .Call (.Name x _) [f] [] _ => decide (x = "range") && (free1 T C.sc x && (!isStar f && chk a false C f))
    | _ => false
  | .irg2 a b, C, _, e => match e with
    | .Call (.Name x _) [f, g] [] _ => decide (x = "range") && (free1 T C.sc x && (!isStar f && (!isStar g && (chk a false C f && chk b false C g))))
    | _ => false
  | .ienm a, C, t, e => match e with
    | .Call (.Name x _) [f] [] _ => decide (x = "enumerate") && (free1 T C.sc x && (!isStar f && (isTupE t && chk a false C f)))
    | _ => false
  | .izip a b, C, t, e => match e with
    | .Call (.Name x _) [f, g] [] _ => decide (x = "zip") && (free1 T C.sc x && (!isStar f && (!isStar g && (isTupE t && (chk a false C f && chk b false C g)))))
    | _ => false
  | _, _, _, _ => false
def chkG : VE → CC → Expr → Bool
  | .tloc i, C, e => match e with
    | .Name x _ => decide (C.N[i]? = some x) && locB C x
    | _ => false
  | .ttup ts, C, e => match e with
    | .Tuple fs _ _ => chkGs ts C fs
    | _ => false
  | .tsub a i, C, e => match e with
    | .Subscript f g _ => chk a false C f && (chk i false C g && !isSlice g)
    | _ => false
  | _, _, _ => false
def chkGs : VE → CC → List Expr → Bool
  | .nil, _, es => es.isEmpty
  | .cons a r, C, es => match es with
    | e :: es => !isStar e && (chkG a C e && chkGs r C es)
    | [] => false
  | _, _, _ => false
end
end
end VI

set_option Elab.async false
set_option linter.all false
set_option maxRecDepth 100000
set_option maxHeartbeats 4000000
/-! VI, part 6: readings, one lemma for each form. -/
namespace VI
open PySem PySem.Spec PyProof.Rows L2

/-! ### side conditions of the rules -/
theorem star1 {e : Expr} {es : List Expr} {env : Env} (h : isStar e = false) : starEach (e :: es) env = (false, eval e env) :: starEach es env := by
  cases e <;> first | rfl | (simp [isStar] at h)
theorem assign1 {e : Expr} {es : List Expr} {env : Env} (h : isStar e = false) : assignEach (e :: es) env = (false, assign e env) :: assignEach es env := by
  cases e <;> first | rfl | (simp [isStar] at h)
theorem back_any {pos : Pos} {l : List (Bool × Sem Value)} : (backTo pos l).any (·.1) = l.any (·.1) := by
  unfold backTo
  rw [List.any_map]
  rfl
theorem base1 {o : Expr} {n : Str} {env : Env} {whole : Sem Value} (h : isCall o = false) : attributeBase o n env whole = whole := by
  cases o <;> first | rfl | (simp [isCall] at h)
theorem plain1 {b : Expr} (h : isSlice b = false) : PlainIx b := by
  intro o i
  cases b <;> first | rfl | (simp [isSlice] at h)
theorem folded1 {i : Expr} {env : Env} (h : isSet i = false) : ∀ x, foldedSetIterable i env x = pure x := by
  intro x
  cases i <;> first | rfl | (simp [isSet] at h)
def noStars : List Expr → Bool
  | [] => true
  | e :: es => !isStar e && noStars es
theorem noStars_any {env : Env} : ∀ {es : List Expr}, noStars es = true → (starEach es env).any (·.1) = false
  | [], _ => rfl
  | e :: es, h => by
    simp only [noStars, Bool.and_eq_true, Bool.not_eq_true'] at h
    rw [star1 h.1]
    simp [noStars_any h.2]
theorem noStars_asg {env : Env} : ∀ {es : List Expr}, noStars es = true → (assignEach es env).length = es.length ∧ (assignEach es env).findIdx? (·.1) = none ∧ (assignEach es env).map (·.2) = es.map fun e => assign e env
  | [], _ => ⟨rfl, rfl, rfl⟩
  | e :: es, h => by
    simp only [noStars, Bool.and_eq_true, Bool.not_eq_true'] at h
    obtain ⟨a, b, c⟩ := noStars_asg (env := env) h.2
    rw [assign1 h.1]
    refine ⟨by simp [a], ?_, by simp [c]⟩
    rw [List.findIdx?_cons]
    simp [b]
theorem noStars_all {env : Env} {pos : Pos} {es : List Expr} (h : noStars es = true) : ((backTo pos (starEach es env)).all fun x => !x.1) = true := by
  have := noStars_any (env := env) h
  rw [← back_any (pos := pos)] at this
  rw [List.any_eq_false] at this
  rw [List.all_eq_true]
  intro x hx
  simpa using this x hx

section
variable {F : FT} {k : Nat} {ca : Nat → Addr} {W : WX} {X : Cx}
/-! ### readings -/
structure At (k : Nat) (Z : Addr → Prop) (P : Nat → Prop) (A : List Addr) (env : VEnv) (S : Sto) (σ : L2.St) (H : Hp) : Prop where
  g : Sg Z P A S H
  hk : ∀ j, P j → j ≤ k
  en : EnvR Z A H σ env
theorem At.next {Z : Addr → Prop} {P : Nat → Prop} {A A' : List Addr} {env : VEnv} {S S' : Sto} {σ : L2.St} {H H' : Hp} (t : At k Z P A env S σ H) (e : Ext A H A' H') (r : Rel Z P A' S' H') : At k Z P A' env S' σ H' := ⟨t.g.ext e r, t.hk, t.en.ext e⟩
/-- an exception: its class, what it was given -/
def wE (ca : Nat → Addr) (E : XK) : Nat → V → Hp → Prop := fun c v H => ∀ dx, H dx = some (.xd [(("given" : Str), v)]) → E (.ref (ca c)) (some dx) H
def rdE (k : Nat) (ca : Nat → Addr) (W : WX) {α β : Type} (D : (Addr → Prop) → List Addr → Hp → β → α → Prop) (f : VEnv → Sto → R α) : L2.St → Hp → (β → Hp → Prop) → Prop := fun σ H Q =>
  ∃ (Z : Addr → Prop) (P : Nat → Prop) (A : List Addr) (env : VEnv) (S : Sto), At k Z P A env S σ H ∧ post Z P (D Z) (wE ca (WE W σ)) A H (f env S) Q
abbrev dB : (Addr → Prop) → List Addr → Hp → Bool → Bool → Prop := fun _ _ _ a b => a = b
abbrev dO : (Addr → Prop) → List Addr → Hp → Option Int → Option Int → Prop := fun _ _ _ a b => a = b
abbrev tE (F : FT) (k : Nat) (ca : Nat → Addr) (W : WX) (ve : VE) : TE := rdE k ca W DenF (ev F k none ve)
abbrev tT (F : FT) (k : Nat) (ca : Nat → Addr) (W : WX) (ve : VE) : TT := rdE k ca W dB (evT F k none ve)
abbrev tA (F : FT) (k : Nat) (ca : Nat → Addr) (W : WX) (ve : VE) : TA := rdE k ca W DenLF (evs F k none ve)
abbrev tO (F : FT) (k : Nat) (ca : Nat → Addr) (W : WX) (ve : VE) : TO := rdE k ca W dO (evO F k none ve)
theorem rdE.mk {α β : Type} {D : (Addr → Prop) → List Addr → Hp → β → α → Prop} {f : VEnv → Sto → R α} {σ : L2.St} {H : Hp} {Q : β → Hp → Prop} {Z : Addr → Prop} {P : Nat → Prop} {A : List Addr} {env : VEnv} {S : Sto}
    (t : At k Z P A env S σ H) (h : post Z P (D Z) (wE ca (WE W σ)) A H (f env S) Q) : rdE k ca W D f σ H Q := ⟨Z, P, A, env, S, t, h⟩
theorem pe_imp {e : Expr} {t t' : TE} (p : PE X e t) (im : ∀ σ H Q, t' σ H Q → t σ H Q) : PE X e t' := ⟨fun pins s σ H Q I h => p.run pins s σ H Q I (im σ H Q h)⟩
theorem pt_imp {e : Expr} {t t' : TT} (p : PT X e t) (im : ∀ σ H Q, t' σ H Q → t σ H Q) : PT X e t' := ⟨fun pins s σ H Q I h => p.run pins s σ H Q I (im σ H Q h)⟩
theorem pw_imp {e : Expr} {t t' : TT} (p : PW X e t) (im : ∀ σ H Q, t' σ H Q → t σ H Q) : PW X e t' := ⟨fun w pins s σ H Q I h => p.run w pins s σ H Q I (im σ H Q h)⟩
theorem pa_imp {e : List Expr} {t t' : TA} (p : PA X e t) (im : ∀ σ H Q, t' σ H Q → t σ H Q) : PA X e t' := ⟨fun pos pins s σ H Q I h => p.run pos pins s σ H Q I (im σ H Q h)⟩
theorem po_imp {e : Option Expr} {t t' : TO} (p : PO X e t) (im : ∀ σ H Q, t' σ H Q → t σ H Q) : PO X e t' := ⟨fun pins s σ H Q I h => p.run pins s σ H Q I (im σ H Q h)⟩
theorem pi_imp {tg e : Expr} {t t' : TI} (p : PI X tg e t) (im : ∀ σ H Q, t' σ H Q → t σ H Q) : PI X tg e t' := ⟨fun pins s σ H Q I h => p.run pins s σ H Q I (im σ H Q h)⟩
theorem pg_imp {e : Expr} {t t' : TG} (p : PG X e t) (im : ∀ v σ H Q, t' v σ H Q → t v σ H Q) : PG X e t' := ⟨fun pins s σ H v u Q I r h => p.run pins s σ H v u Q I r (im v σ H Q h)⟩
theorem pgs_imp {e : List Expr} {t t' : TGs} (p : PGs X e t) (im : ∀ v σ H Q, t' v σ H Q → t v σ H Q) : PGs X e t' := ⟨fun pins s σ H v u Q I r h => p.run pins s σ H v u Q I r (im v σ H Q h)⟩
theorem pe_false {e : Expr} {t : TE} (h : ∀ σ H Q, ¬ t σ H Q) : PE X e t := ⟨fun _ _ σ H Q _ q => (h σ H Q q).elim⟩
theorem pt_false {e : Expr} {t : TT} (h : ∀ σ H Q, ¬ t σ H Q) : PT X e t := ⟨fun _ _ σ H Q _ q => (h σ H Q q).elim⟩
theorem op_any {f : Value → Value → Sem Value} {g : (Nat → V → Hp → Prop) → R2} (h : ∀ W, OpR X f (g W)) : OpR X f (fun x y H Q => ∃ W, g W x y H Q) := opC fun x y H Q ⟨W, q⟩ => ⟨_, h W, q⟩
theorem ix_any {g : (Nat → V → Hp → Prop) → R2} (h : ∀ W, IxR X (g W)) : IxR X (fun x y H Q => ∃ W, g W x y H Q) := ixC fun x y H Q ⟨W, q⟩ => ⟨_, h W, q⟩

/-! ### forms -/
variable {a b c : VE} {f g h : Expr} {pos : Pos}
theorem e_loc {i : Nat} {x : Str} {pos : Pos} (hN : X.N[i]? = some x) (hv : Vis X.env.scope x) (hd : (x == Str.ofString "__debug__") = false) (hc : (x == Str.ofString "__classdict__") = false) : PE X (.Name x pos) (tE F k ca W (.loc i)) := pe_imp (pe_var hN hv hd hc) fun σ H Q q => by
  obtain ⟨Z, P, A, env, S, t, h⟩ := q
  show ∃ v, σ[i]? = some (some v) ∧ Q v H
  unfold ev at h
  cases q : env[i]? with
  | none => rw [q] at h; exact h.elim
  | some o =>
    cases o with
    | none => rw [q] at h; exact h.elim
    | some d =>
      rw [q] at h
      obtain ⟨v, e, dv⟩ := t.en.2 i d q
      exact ⟨v, e, here_ok t.g.rel dv h⟩
theorem e_non {j : Nat} : PE X (.Constant .none j pos) (tE F k ca W .non) := pe_imp pe_non fun σ H Q ⟨Z, P, A, env, S, t, h⟩ => here_ok t.g.rel .non h
theorem e_bl {j : Nat} {b : Bool} : PE X (.Constant (.bool b) j pos) (tE F k ca W (.bl b)) := pe_imp pe_bl fun σ H Q ⟨Z, P, A, env, S, t, h⟩ => here_ok t.g.rel (.bl b) h
theorem e_int {j : Nat} {i : Int} : PE X (.Constant (.int i) j pos) (tE F k ca W (.int i)) := pe_imp pe_int fun σ H Q ⟨Z, P, A, env, S, t, h⟩ => here_ok t.g.rel (.int i) h
theorem e_str {j : Nat} {x : Str} : PE X (.Constant (.str x) j pos) (tE F k ca W (.str x)) := pe_imp pe_str fun σ H Q ⟨Z, P, A, env, S, t, h⟩ => here_ok t.g.rel (.str x) h
theorem e_gint {x : Str} {i : Int} {u : Value} (hg : Gl X x) (hm : X.mg x = some u) (r : RelV (.int i) u) (hd : (x == Str.ofString "__debug__") = false) : PE X (.Name x pos) (tE F k ca W (.gint x i)) :=
  pe_imp (pe_glob hg hm r hd) fun σ H Q ⟨Z, P, A, env, S, t, h⟩ => here_ok t.g.rel (.int i) h
theorem e_gstr {x y : Str} {u : Value} (hg : Gl X x) (hm : X.mg x = some u) (r : RelV (.str y) u) (hd : (x == Str.ofString "__debug__") = false) : PE X (.Name x pos) (tE F k ca W (.gstr x y)) :=
  pe_imp (pe_glob hg hm r hd) fun σ H Q ⟨Z, P, A, env, S, t, h⟩ => here_ok t.g.rel (.str y) h
theorem a_nil : PA X [] (tA F k ca W .nil) := pa_imp pa_nil fun σ H Q ⟨Z, P, A, env, S, t, h⟩ => here_ok t.g.rel DenL.nil h
theorem a_cons {es : List Expr} (hs : isStar f = false) (ha : PE X f (tE F k ca W a)) (hr : PA X es (tA F k ca W b)) : PA X (f :: es) (tA F k ca W (.cons a b)) :=
  pa_imp (pa_cons ha hr (star1 hs)) fun σ H Q ⟨Z, P, A, env, S, t, h⟩ => rdE.mk t (post.bind h fun A1 H1 x d S1 e1 r1 dx h1 => rdE.mk (t.next e1 r1) (post.bind h1 fun A2 H2 xs ds S2 e2 r2 dxs h2 => here_ok r2 (DenL.cons (e2.denF dx) dxs) h2))
theorem e_tup {es : List Expr} {j : Nat} (ha : PA X es (tA F k ca W a)) : PE X (.Tuple es j pos) (tE F k ca W (.tup a)) :=
  pe_imp (pe_tup ha) fun σ H Q ⟨Z, P, A, env, S, t, h⟩ => rdE.mk t (post.bind h fun A1 H1 xs ds S1 e1 r1 dx h1 => by
    obtain ⟨hc, h2⟩ := if_post h1
    refine ⟨?_, fun p hp => tup_ok r1 dx h2 p hp⟩
    have := dx.length; have := lenMax_le; omega)
theorem e_lst {es : List Expr} {c : Bool} (ha : PA X es (tA F k ca W a)) : PE X (.List es pos) (tE F k ca W (.lst c a)) :=
  pe_imp (pe_lst ha) fun σ H Q ⟨Z, P, A, env, S, t, h⟩ => rdE.mk t (post.bind h fun A1 H1 xs ds S1 e1 r1 dx h1 => by
    obtain ⟨hc, h2⟩ := if_post h1
    refine ⟨?_, fun p hp => alloc_ok r1 (t.next e1 r1).g.hP dx h2 p hp⟩
    have := dx.length; have := lenMax_le; omega)
theorem e_emp : PE X (.Dict [] [] pos) (tE F k ca W .emp) :=
  pe_imp pe_dnewK fun σ H Q ⟨Z, P, A, env, S, t, h⟩ => fun p hp => h A (upd H p (.dK [])) _ (Ext.laid A hp) (t.g.rel.laid hp) (.emp (t.g.rel.fresh hp) upd_same)
theorem e_bin (o : BO) (c : Bool) (ha : PE X f (tE F k ca W a)) (hb : PE X g (tE F k ca W b)) : PE X (.BinOp f (boOf o) g pos) (tE F k ca W (.bin o c a b)) :=
  pe_imp (pe_op (op_any fun W' => bin_ok (W := W') o (c := c)) ha hb) fun σ H Q ⟨Z, P, A, env, S, t, h⟩ => rdE.mk t (post.bind h fun A1 H1 x d S1 e1 r1 dx h1 => rdE.mk (t.next e1 r1) (post.bind h1 fun A2 H2 y d2 S2 e2 r2 dy h2 =>
    ⟨_, Z, P, A2, S2, d, d2, t.g.ext (e1.trans e2) r2, e2.denF dx, dy, h2⟩))
theorem e_neg (ha : PE X f (tE F k ca W a)) : PE X (.UnaryOp .USub f pos) (tE F k ca W (.neg a)) :=
  pe_imp (pe_un un_neg ha) fun σ H Q ⟨Z, P, A, env, S, t, h⟩ => rdE.mk t (post.bind h fun A1 H1 x d S1 e1 r1 dx h1 => by
    cases dx with
    | int i => exact ⟨i, rfl, ok_int (t.next e1 r1).g h1⟩
    | _ => exact h1.elim)
theorem e_cmp (o : CO) {n : Nat} (hr : Room n X.A) (hm : behindInMarks (coOf o) g = false) (ha : PE X f (tE F k ca W a)) (hb : PE X g (tE F k ca W b)) : PE X (.Compare f [coOf o] [g] pos) (tE F k ca W (.cmp o a b)) :=
  pe_imp (pe_cmpR (op_any fun W' => cmp_ok (W := W') o hr) ha hb hm) fun σ H Q ⟨Z, P, A, env, S, t, h⟩ => rdE.mk t (post.bind h fun A1 H1 x d S1 e1 r1 dx h1 => rdE.mk (t.next e1 r1) (post.bind h1 fun A2 H2 y d2 S2 e2 r2 dy h2 =>
    ⟨_, Z, P, A2, S2, d, d2, t.g.ext (e1.trans e2) r2, e2.denF dx, dy, h2⟩))
theorem of_bl {Z : Addr → Prop} {P : Nat → Prop} {α β : Type} {D : List Addr → Hp → β → α → Prop} {W' : Nat → V → Hp → Prop} {A : List Addr} {S : Sto} {H : Hp} {Q : β → Hp → Prop} {x : V} {d : DD} {q : Bool → Sto → R α} (dx : DenF Z A H x d) (h : post Z P D W' A H ((ofBl d S).bind q) Q) : ∃ t, x = .bl t ∧ d = .bl t ∧ post Z P D W' A H (q t S) Q := by
  cases dx with
  | bl t => exact ⟨t, rfl, rfl, h⟩
  | _ => exact h.elim
theorem t_cmp (o : CO) {n : Nat} (hr : Room n X.A) (hm : behindInMarks (coOf o) g = false) (ha : PE X f (tE F k ca W a)) (hb : PE X g (tE F k ca W b)) : PT X (.Compare f [coOf o] [g] pos) (tT F k ca W (.cmp o a b)) :=
  pt_imp (pt_cmpR (op_any fun W' => cmp_ok (W := W') o hr) ha hb hm) fun σ H Q ⟨Z, P, A, env, S, t, h⟩ => rdE.mk t (post.bind h fun A1 H1 x d S1 e1 r1 dx h1 => rdE.mk (t.next e1 r1) (post.bind h1 fun A2 H2 y d2 S2 e2 r2 dy h2 =>
    ⟨_, Z, P, A2, S2, d, d2, t.g.ext (e1.trans e2) r2, e2.denF dx, dy, post.bind h2 fun A3 H3 z d3 S3 e3 r3 dz h3 => by
      cases dz with
      | bl b => exact ⟨b, rfl, here_ok r3 rfl h3⟩
      | _ => exact h3.elim⟩))
theorem e_chn (o p : CO) {n : Nat} (hr : Room n X.A) (hm : lastMarks [coOf o, coOf p] [g, h] = false) (ha : PE X f (tE F k ca W a)) (hb : PE X g (tE F k ca W b)) (hc : PE X h (tE F k ca W c)) : PE X (.Compare f [coOf o, coOf p] [g, h] pos) (tE F k ca W (.chn o p a b c)) :=
  pe_imp (pe_chain (op_any fun W' => cmp_ok (W := W') o hr) (op_any fun W' => cmp_ok (W := W') p hr) ha hb hc hm) fun σ H Q ⟨Z, P, A, env, S, t, h⟩ => rdE.mk t (post.bind h fun A1 H1 x d S1 e1 r1 dx h1 => rdE.mk (t.next e1 r1) (post.bind h1 fun A2 H2 y d2 S2 e2 r2 dy h2 =>
    ⟨_, Z, P, A2, S2, d, d2, t.g.ext (e1.trans e2) r2, e2.denF dx, dy, post.bind h2 fun A3 H3 z d3 S3 e3 r3 dz h3 => by
      obtain ⟨b, rfl, rfl, h4⟩ := of_bl dz h3
      refine ⟨b, rfl, ?_⟩
      cases b with
      | false => exact here_ok r3 (.bl false) h4
      | true => exact rdE.mk (t.next ((e1.trans e2).trans e3) r3) (post.bind h4 fun A4 H4 w d4 S4 e4 r4 dw h5 =>
          ⟨_, Z, P, A4, S4, d2, d4, t.g.ext (((e1.trans e2).trans e3).trans e4) r4, (e3.trans e4).denF dy, dw, h5⟩)⟩))
theorem t_chn (o p : CO) {n : Nat} (hr : Room n X.A) (hm : lastMarks [coOf o, coOf p] [g, h] = false) (ha : PE X f (tE F k ca W a)) (hb : PE X g (tE F k ca W b)) (hc : PE X h (tE F k ca W c)) : PT X (.Compare f [coOf o, coOf p] [g, h] pos) (tT F k ca W (.chn o p a b c)) :=
  pt_imp (pt_chain (op_any fun W' => cmp_ok (W := W') o hr) (op_any fun W' => cmp_ok (W := W') p hr) ha hb hc hm) fun σ H Q ⟨Z, P, A, env, S, t, h⟩ => rdE.mk t (post.bind h fun A1 H1 x d S1 e1 r1 dx h1 => rdE.mk (t.next e1 r1) (post.bind h1 fun A2 H2 y d2 S2 e2 r2 dy h2 =>
    ⟨_, Z, P, A2, S2, d, d2, t.g.ext (e1.trans e2) r2, e2.denF dx, dy, post.bind h2 fun A3 H3 z d3 S3 e3 r3 dz h3 => by
      obtain ⟨b, rfl, rfl, h4⟩ := of_bl dz h3
      refine ⟨b, rfl, ?_⟩
      cases b with
      | false => exact ⟨false, rfl, here_ok r3 rfl h4⟩
      | true => exact rdE.mk (t.next ((e1.trans e2).trans e3) r3) (post.bind h4 fun A4 H4 w d4 S4 e4 r4 dw h5 =>
          ⟨_, Z, P, A4, S4, d2, d4, t.g.ext (((e1.trans e2).trans e3).trans e4) r4, (e3.trans e4).denF dy, dw, post.bind h5 fun A5 H5 z d5 S5 e5 r5 dz h6 => by
            cases dz with
            | bl b => exact ⟨b, rfl, here_ok r5 rfl h6⟩
            | _ => exact h6.elim⟩)⟩))
theorem e_and {r : List Expr} (ha : PE X f (tE F k ca W a)) (hb : PE X (.BoolOp .And (g :: r) pos) (tE F k ca W b)) : PE X (.BoolOp .And (f :: g :: r) pos) (tE F k ca W (.andv a b)) :=
  pe_imp (pe_and ha hb) fun σ H Q ⟨Z, P, A, env, S, t, h⟩ => rdE.mk t (post.bind h fun A1 H1 x d S1 e1 r1 dx h1 => by
    obtain ⟨b, rfl, rfl, h2⟩ := of_bl dx h1
    refine ⟨b, rfl, ?_⟩
    cases b with
    | false => exact here_ok r1 (.bl false) h2
    | true => exact rdE.mk (t.next e1 r1) h2)
theorem e_or {r : List Expr} (ha : PE X f (tE F k ca W a)) (hb : PE X (.BoolOp .Or (g :: r) pos) (tE F k ca W b)) : PE X (.BoolOp .Or (f :: g :: r) pos) (tE F k ca W (.orv a b)) :=
  pe_imp (pe_or ha hb) fun σ H Q ⟨Z, P, A, env, S, t, h⟩ => rdE.mk t (post.bind h fun A1 H1 x d S1 e1 r1 dx h1 => by
    obtain ⟨b, rfl, rfl, h2⟩ := of_bl dx h1
    refine ⟨b, rfl, ?_⟩
    cases b with
    | true => exact here_ok r1 (.bl true) h2
    | false => exact rdE.mk (t.next e1 r1) h2)
theorem e_not (ha : PE X f (tE F k ca W a)) : PE X (.UnaryOp .Not f pos) (tE F k ca W (.notv a)) :=
  pe_imp (pe_not ha) fun σ H Q ⟨Z, P, A, env, S, t, h⟩ => rdE.mk t (post.bind h fun A1 H1 x d S1 e1 r1 dx h1 => by
    obtain ⟨b, rfl, rfl, h2⟩ := of_bl dx h1
    exact ⟨b, rfl, here_ok r1 (.bl _) h2⟩)
theorem w_and {r : List Expr} (ha : PT X f (tT F k ca W a)) (hb : PW X (.BoolOp .And (g :: r) pos) (tT F k ca W b)) : PW X (.BoolOp .And (f :: g :: r) pos) (tT F k ca W (.andv a b)) :=
  pw_imp (pw_and ha hb) fun σ H Q ⟨Z, P, A, env, S, t, h⟩ => rdE.mk t (post.bind h fun A1 H1 x d S1 e1 r1 dx h1 => by
    cases (show x = d from dx)
    cases x with
    | false => exact here_ok r1 rfl h1
    | true => exact rdE.mk (t.next e1 r1) h1)
theorem w_or {r : List Expr} (ha : PT X f (tT F k ca W a)) (hb : PW X (.BoolOp .Or (g :: r) pos) (tT F k ca W b)) : PW X (.BoolOp .Or (f :: g :: r) pos) (tT F k ca W (.orv a b)) :=
  pw_imp (pw_or ha hb) fun σ H Q ⟨Z, P, A, env, S, t, h⟩ => rdE.mk t (post.bind h fun A1 H1 x d S1 e1 r1 dx h1 => by
    cases (show x = d from dx)
    cases x with
    | true => exact here_ok r1 rfl h1
    | false => exact rdE.mk (t.next e1 r1) h1)
theorem t_not (ha : PT X f (tT F k ca W a)) : PT X (.UnaryOp .Not f pos) (tT F k ca W (.notv a)) :=
  pt_imp (pt_not ha) fun σ H Q ⟨Z, P, A, env, S, t, h⟩ => rdE.mk t (post.bind h fun A1 H1 x d S1 e1 r1 dx h1 => by
    cases (show x = d from dx)
    exact here_ok r1 rfl h1)
theorem e_ite (hc : PT X h (tT F k ca W c)) (ha : PE X f (tE F k ca W a)) (hb : PE X g (tE F k ca W b)) : PE X (.IfExp h f g pos) (tE F k ca W (.itev c a b)) :=
  pe_imp (pe_ifExp hc ha hb) fun σ H Q ⟨Z, P, A, env, S, t, h⟩ => rdE.mk t (post.bind h fun A1 H1 x d S1 e1 r1 dx h1 => by
    cases (show x = d from dx)
    cases x with
    | true => exact rdE.mk (t.next e1 r1) h1
    | false => exact rdE.mk (t.next e1 r1) h1)
theorem e_ix (hs : isSlice g = false) (ha : PE X f (tE F k ca W a)) (hb : PE X g (tE F k ca W b)) : PE X (.Subscript f g pos) (tE F k ca W (.ix a b)) :=
  pe_imp (pe_ix (ix_any fun W' => ix_ok (W := W')) ha hb (plain1 hs)) fun σ H Q ⟨Z, P, A, env, S, t, h⟩ => rdE.mk t (post.bind h fun A1 H1 x d S1 e1 r1 dx h1 => rdE.mk (t.next e1 r1) (post.bind h1 fun A2 H2 y d2 S2 e2 r2 dy h2 =>
    ⟨_, Z, P, A2, S2, d, d2, t.g.ext (e1.trans e2) r2, e2.denF dx, dy, h2⟩))
theorem o_nil : PO X none (tO F k ca W .nil) := po_imp po_none fun σ H Q ⟨Z, P, A, env, S, t, h⟩ => here_ok (v := none) t.g.rel rfl h
theorem o_one (ha : PE X f (tE F k ca W a)) : PO X (some f) (tO F k ca W (.cons a .nil)) :=
  po_imp (po_some ha) fun σ H Q ⟨Z, P, A, env, S, t, h⟩ => rdE.mk t (post.bind h fun A1 H1 x d S1 e1 r1 dx h1 => by
    cases dx with
    | int i => exact ⟨i, rfl, here_ok (v := some i) r1 rfl h1⟩
    | _ => exact h1.elim)
theorem sl_any (c : Bool) : SlR X (fun x lo hi H Q => ∃ W, rDS W c x lo hi H Q) := fun pins s σ H x v vl vu lo hi sl Q I rx hs pl pu ⟨W, h⟩ => sl_ok (W := W) c pins s σ H x v vl vu lo hi sl Q I rx hs pl pu h
theorem e_sl (cc : Bool) {lo hi : Option Expr} {p2 : Pos} (ha : PE X f (tE F k ca W a)) (hb : PO X lo (tO F k ca W b)) (hc : PO X hi (tO F k ca W c)) : PE X (.Subscript f (.Slice lo hi none p2) pos) (tE F k ca W (.sl cc a b c)) :=
  pe_imp (pe_slice (sl_any cc) ha hb hc) fun σ H Q ⟨Z, P, A, env, S, t, h⟩ => rdE.mk t (post.bind h fun A1 H1 x d S1 e1 r1 dx h1 => rdE.mk (t.next e1 r1) (post.bind h1 fun A2 H2 y d2 S2 e2 r2 dy h2 =>
    rdE.mk (t.next (e1.trans e2) r2) (post.bind h2 fun A3 H3 z d3 S3 e3 r3 dz h3 => by
      cases (show y = d2 from dy)
      cases (show z = d3 from dz)
      exact ⟨_, Z, P, A3, S3, d, t.g.ext ((e1.trans e2).trans e3) r3, (e2.trans e3).denF dx, h3⟩)))
end
end VI

set_option Elab.async false
set_option linter.all false
set_option maxRecDepth 100000
set_option maxHeartbeats 4000000
/-! VI, part 7: calls. -/
namespace VI
open PySem PySem.Spec PyProof.Rows L2

section
variable {F : FT} {k : Nat} {ca : Nat → Addr} {W : WX} {X : Cx}
variable {a b c : VE} {f g h : Expr} {pos p : Pos}
/-- a value as a test -/
theorem t_of {e : Expr} (he : isOdd e = false) (ha : PE X e (tE F k ca W a)) (hr : ∀ env S, evT F k none a env S = (ev F k none a env S).bind truR) : PT X e (tT F k ca W a) := by
  have side : ∀ whole, isTrue e X.env whole = (do let v ← whole; standAt e.pos; holding [v] (truthy v)) := by
    intro whole
    cases e <;> first | rfl | (simp [isOdd] at he; done) | skip
    next op _ _ => cases op <;> first | rfl | (simp [isOdd] at he; done)
  refine pt_imp (pt_truth ha side) fun σ H Q ⟨Z, P, A, env, S, t, h⟩ => rdE.mk t ?_
  rw [hr] at h
  refine post.bind h fun A1 H1 x d S1 e1 r1 dx h1 => ?_
  unfold truR at h1
  cases q : truD S1 d with
  | none => rw [q] at h1; exact h1.elim
  | some b =>
    rw [q] at h1
    exact ⟨b, tru_of (t.next e1 r1).g dx q, here_ok r1 rfl h1⟩
theorem t_bl {j : Nat} {b : Bool} : PT X (.Constant (.bool b) j pos) (tT F k ca W (.bl b)) :=
  pt_imp (pt_val pe_bl fun _ => rfl) fun σ H Q ⟨Z, P, A, env, S, t, h⟩ => ⟨b, rfl, here_ok t.g.rel rfl h⟩
theorem t_loc {i : Nat} {x : Str} (hN : X.N[i]? = some x) (hv : Vis X.env.scope x) (hd : (x == Str.ofString "__debug__") = false) (hc : (x == Str.ofString "__classdict__") = false) : PT X (.Name x pos) (tT F k ca W (.loc i)) :=
  t_of rfl (e_loc hN hv hd hc) fun env S => by
    unfold evT ev
    cases env[i]? with
    | none => rfl
    | some o => cases o <;> rfl
theorem bind_bind {α β γ : Type} (r : R α) (q : α → Sto → R β) (w : β → Sto → R γ) : (r.bind q).bind w = r.bind fun x S => (q x S).bind w := by cases r <;> rfl
theorem t_ix (hs : isSlice g = false) (ha : PE X f (tE F k ca W a)) (hb : PE X g (tE F k ca W b)) : PT X (.Subscript f g pos) (tT F k ca W (.ix a b)) :=
  t_of rfl (e_ix hs ha hb) fun env S => by
    show ((ev F k none a env S).bind fun x S => (ev F k none b env S).bind fun y S => (ixD x y S).bind truR) = ((ev F k none a env S).bind fun x S => (ev F k none b env S).bind fun y S => ixD x y S).bind truR
    simp only [bind_bind]
/-! ### a def -/
/-- what a def is asked for -/
def spF (F : FT) (ca : Nat → Addr) (f : Nat) : Sp := fun vs H Q E => ∃ (Z : Addr → Prop) (P : Nat → Prop) (A : List Addr) (S : Sto) (ds : List DD), Sg Z P A S H ∧ DenLF Z A H vs ds ∧ post Z P (DenF Z) (wE ca E) A H (F f ds S) Q
/-- the def number f stands under x -/
structure FnAt (F : FT) (ca : Nat → Addr) (m : Nat) (X : Cx) (f : Nat) (x : Str) (ps : List Str) (fa : Addr) (fd : FuncData) : Prop where
  mg : X.mg x = some (.ref fa)
  keep : PySem.W.keepIn X.K (.ref fa) = true
  bind : Binds X.K fd ps []
  ok : FnOk X.prog X.w X.K X.mg X.base (CX X.prog X.w) m fa fd ps (spF F ca f)
theorem e_call {m n : Nat} {x : Str} {ps : List Str} {fa : Addr} {fd : FuncData} {es : List Expr} (hr : Room m X.A) (tk : Takes X W) (hf : FnAt F ca m X n x ps fa fd) (hg : Gl X x) (hd : (x == Str.ofString "__debug__") = false) (hs : noStars (f :: es) = true) (ha : PA X (f :: es) (tA F k ca W a)) :
    PE X (.Call (.Name x p) (f :: es) [] pos) (tE F k ca W (.call n a)) := by
  simp only [noStars, Bool.and_eq_true, Bool.not_eq_true'] at hs
  refine pe_imp (pe_callS hf.ok hr hg hf.mg hf.keep hf.bind (passAt tk) ha hd (star1 hs.1) (by rw [back_any]; exact noStars_any hs.2)) fun σ H Q ⟨Z, P, A, env, S, t, h⟩ => rdE.mk t (post.bind h fun A1 H1 xs ds S1 e1 r1 dx h1 => ?_)
  exact ⟨Z, P, A1, S1, ds, (t.next e1 r1).g, dx, h1⟩
theorem t_call {m n : Nat} {x : Str} {ps : List Str} {fa : Addr} {fd : FuncData} {es : List Expr} (hr : Room m X.A) (tk : Takes X W) (hf : FnAt F ca m X n x ps fa fd) (hg : Gl X x) (hd : (x == Str.ofString "__debug__") = false) (hs : noStars (f :: es) = true) (ha : PA X (f :: es) (tA F k ca W a)) :
    PT X (.Call (.Name x p) (f :: es) [] pos) (tT F k ca W (.call n a)) :=
  t_of rfl (e_call hr tk hf hg hd hs ha) fun env S => by
    show ((evs F k none a env S).bind fun vs S => (F n vs S).bind truR) = ((evs F k none a env S).bind fun vs S => F n vs S).bind truR
    simp only [bind_bind]
/-! ### a def, by keywords -/
/-- how a call by keywords binds -/
def KwAt (X : Cx) (fd : FuncData) (ps : List Str) (np : Nat) (ks : List Str) (pm : List Nat) : Prop := ∀ (s : Shared) (us ws ts : List Value), X.K.In s.heap → us.length = np → ws.length = ks.length → mapO (fun i : Nat => (us ++ ws)[i]?) pm = some ts → BindsTo s fd ⟨us, ks.zip ws⟩ (ps.zip ts)
theorem mapO_den {Z : Addr → Prop} {A : List Addr} {H : Hp} {vs : List V} {ds : List DD} {us : List Value} (hd : DenLF Z A H vs ds) (hv : Vals vs us) : ∀ {pm : List Nat} {es : List DD}, mapO (fun i : Nat => ds[i]?) pm = some es → ∃ ws ts, mapO (fun i : Nat => us[i]?) pm = some ts ∧ Vals ws ts ∧ DenLF Z A H ws es
  | [], es, h => by cases h; exact ⟨[], [], rfl, .nil, .nil⟩
  | i :: pm, es, h => by
    obtain ⟨d, m, h1, h2, rfl⟩ := mapO_cons h
    obtain ⟨ws, ts, g1, g2, g3⟩ := mapO_den hd hv h2
    obtain ⟨v, hv1, dv⟩ := hd.get h1
    obtain ⟨u, hu, ru⟩ := hv.get hv1
    refine ⟨v :: ws, u :: ts, ?_, .cons ru g2, .cons dv g3⟩
    unfold mapO
    rw [hu, g1]
    rfl
theorem kw_run {m n np : Nat} {x : Str} {ps ks : List Str} {pm : List Nat} {fa : Addr} {fd : FuncData} {pins : List (Addr × Obj)} {σ : L2.St} {H : Hp} {s : Shared} {Q : VK} {us ws : List Value} {vs zs : List V} {ds : List DD} {Z : Addr → Prop} {P : Nat → Prop} {A : List Addr} {env : VEnv} {S : Sto}
    (hr : Room m X.A) (tk : Takes X W) (hf : FnAt F ca m X n x ps fa fd) (hk : KwAt X fd ps np ks pm) (I : Inv X pins σ H s) (r : Vals vs us) (rz : Vals zs ws) (hu : us.length = np) (hw : ws.length = ks.length) (t : At k Z P A env S σ H) (hd : DenLF Z A H (vs ++ zs) ds)
    (h : post Z P (DenF Z) (wE ca (WE W σ)) A H (match mapO (fun i : Nat => ds[i]?) pm with
      | some es => F n es S
      | none => .stuck) Q) : wpAny (model X.prog X.w) X.A (call (.ref fa) us (ks.zip ws)) (EP X pins σ Q) X.xe s := by
  cases q : mapO (fun i : Nat => ds[i]?) pm with
  | none => rw [q] at h; exact h.elim
  | some es =>
    rw [q] at h
    obtain ⟨ts, us2, g1, g2, g3⟩ := mapO_den hd (r.append rz) q
    refine wpAny_call (codeAny_mono (hf.ok.run X.A X.stack s H ⟨us, ks.zip ws⟩ us2 ts Q (WE W σ) hr I.env0 (hk s us ws us2 I.kIn hu hw g1) g2 ⟨Z, P, A, S, es, t.g, g3, h⟩) fun r s' hq => ?_)
    cases r with
    | error e => exact passAt tk σ pins H s e s' I hq
    | ok fl =>
      cases fl with
      | ret u => exact I.after hq
      | next => exact False.elim hq
      | brk => exact False.elim hq
      | cont => exact False.elim hq
theorem kwn (X : Cx) (pos : Pos) : ∀ kws : List Keyword, (backToKw pos (keywordEach kws X.env)).map (·.1) = kwNames kws
  | [] => rfl
  | ⟨n, v, q⟩ :: r => by
    show n :: (backToKw pos (keywordEach r X.env)).map (·.1) = n :: kwNames r
    rw [kwn X pos r]
theorem kw_all {pos : Pos} {kws : List Keyword} (h : (kwNames kws).all (·.isSome) = true) : (backToKw pos (keywordEach kws X.env)).all (·.1.isSome) = true ∧ (backToKw pos (keywordEach kws X.env)).any (·.1.isNone) = false := by
  rw [← kwn X pos kws, List.all_map] at h
  refine ⟨h, ?_⟩
  rw [List.any_eq_false]
  intro x hx
  have this : x.1.isSome = true := List.all_eq_true.mp h x hx
  obtain ⟨n, v⟩ := x
  cases n with
  | none => cases this
  | some _ => simp
theorem kw_names {pos : Pos} {kws : List Keyword} : (backToKw pos (keywordEach kws X.env)).filterMap (·.1) = (kwNames kws).filterMap id := by
  rw [← kwn X pos kws, List.filterMap_map]
  rfl
theorem kw_len {kws : List Keyword} (h : (kwNames kws).all (·.isSome) = true) : ((kwNames kws).filterMap id).length = kws.length := by
  induction kws with
  | nil => rfl
  | cons w r ih =>
    obtain ⟨n, v, q⟩ := w
    have h' : (n.isSome && (kwNames r).all (·.isSome)) = true := h
    rw [Bool.and_eq_true] at h'
    cases n with
    | none => simp at h'
    | some n =>
      show (n :: (kwNames r).filterMap id).length = r.length + 1
      rw [List.length_cons, ih h'.2]
theorem e_callk0 {m n : Nat} {x : Str} {ps : List Str} {pm : List Nat} {fa : Addr} {fd : FuncData} {kws : List Keyword} {t2 : TA} (hr : Room m X.A) (tk : Takes X W) (hf : FnAt F ca m X n x ps fa fd) (hk : KwAt X fd ps 0 ((kwNames kws).filterMap id) pm) (hg : Gl X x) (hd : (x == Str.ofString "__debug__") = false) (hn : (kwNames kws).all (·.isSome) = true)
    (h2 : PK X kws t2) (him : ∀ σ H Q, tA F k ca W a σ H Q → t2 σ H fun ws H2 => ws.length = kws.length ∧ Q ws H2) :
    PE X (.Call (.Name x p) [] kws pos) (tE F k ca W (.callk n a pm)) := by
  refine ⟨fun pins s σ H Q I h => ?_⟩
  obtain ⟨Z, P, A, env, S, t, h⟩ := h
  have h' := him σ H _ (rdE.mk t (post.bind (Q' := fun xs H' => ∃ A1 S1 ds, At k Z P A1 env S1 σ H' ∧ DenLF Z A1 H' xs ds ∧ post Z P (DenF Z) (wE ca (WE W σ)) A1 H' (match mapO (fun i : Nat => ds[i]?) pm with
      | some es => F n es S1
      | none => .stuck) Q) h fun A1 H1 xs ds S1 e1 r1 dx h1 => ⟨A1, S1, ds, t.next e1 r1, dx, h1⟩))
  refine wpAny_Call_Name_kw (ld_glob I hg hf.mg ?_ hd)
  refine PySem.W.callWith_KW0 (h₀ := X.base) I.ok.mod.kin hf.keep (kw_all hn).1 ?_ (by rw [(kw_all (pos := pos) hn).2]; rfl)
  refine thn (h2.run pos pins s σ H _ I h') fun ws s2 ⟨zs, H2, I2, rz, hz, A1, S1, ds, t1', d1, q2⟩ => ⟨I2.kIn, ?_⟩
  rw [kw_names]
  exact kw_run (vs := []) hr tk hf hk I2 .nil rz rfl (by rw [← rz.length, hz, kw_len hn]) t1' d1 q2
theorem e_callk {m n : Nat} {x : Str} {ps : List Str} {pm : List Nat} {fa : Addr} {fd : FuncData} {e0 : Expr} {es : List Expr} {kws : List Keyword} {t1 t2 : TA} (hr : Room m X.A) (tk : Takes X W) (hf : FnAt F ca m X n x ps fa fd) (hk : KwAt X fd ps (e0 :: es).length ((kwNames kws).filterMap id) pm) (hg : Gl X x) (hd : (x == Str.ofString "__debug__") = false) (hs : noStars (e0 :: es) = true) (hn : (kwNames kws).all (·.isSome) = true)
    (h1 : PA X (e0 :: es) t1) (h2 : PK X kws t2) (him : ∀ σ H Q, tA F k ca W a σ H Q → t1 σ H fun vs H1 => t2 σ H1 fun ws H2 => vs.length = (e0 :: es).length ∧ ws.length = kws.length ∧ Q (vs ++ ws) H2) :
    PE X (.Call (.Name x p) (e0 :: es) kws pos) (tE F k ca W (.callk n a pm)) := by
  refine ⟨fun pins s σ H Q I h => ?_⟩
  obtain ⟨Z, P, A, env, S, t, h⟩ := h
  have h' := him σ H _ (rdE.mk t (post.bind (Q' := fun xs H' => ∃ A1 S1 ds, At k Z P A1 env S1 σ H' ∧ DenLF Z A1 H' xs ds ∧ post Z P (DenF Z) (wE ca (WE W σ)) A1 H' (match mapO (fun i : Nat => ds[i]?) pm with
      | some es => F n es S1
      | none => .stuck) Q) h fun A1 H1 xs ds S1 e1 r1 dx h1 => ⟨A1, S1, ds, t.next e1 r1, dx, h1⟩))
  refine wpAny_Call_Name_kw (ld_glob I hg hf.mg ?_ hd)
  have hs' := hs
  simp only [noStars, Bool.and_eq_true, Bool.not_eq_true'] at hs'
  refine PySem.W.callWith_KW (h₀ := X.base) I.ok.mod.kin hf.keep (kw_all hn).1 (thn (h1.run pos pins s σ H _ I h') fun us s1 ⟨vs, H1, I1, r, q⟩ => ?_) (by rw [back_any, noStars_any hs, (kw_all (pos := pos) hn).2]; rfl) (star1 hs'.1)
  refine thn (h2.run pos pins s1 σ H1 _ I1 q) fun ws s2 ⟨zs, H2, I2, rz, hl, hz, A1, S1, ds, t1', d1, q2⟩ => ⟨I2.kIn, ?_⟩
  rw [kw_names]
  exact kw_run hr tk hf hk I2 r rz (r.length.symm.trans hl) (by rw [← rz.length, hz, kw_len hn]) t1' d1 q2
theorem t_callk {n : Nat} {pm : List Nat} {es : List Expr} {kws : List Keyword} (h : PE X (.Call g es kws pos) (tE F k ca W (.callk n a pm))) : PT X (.Call g es kws pos) (tT F k ca W (.callk n a pm)) :=
  t_of rfl h fun env S => by
    show ((evs F k none a env S).bind fun vs S => match mapO (fun i : Nat => vs[i]?) pm with
      | some ds => (F n ds S).bind truR
      | none => .stuck) = ((evs F k none a env S).bind fun vs S => match mapO (fun i : Nat => vs[i]?) pm with
      | some ds => F n ds S
      | none => .stuck).bind truR
    simp only [bind_bind]
    congr 1
    funext vs S
    cases mapO (fun i : Nat => vs[i]?) pm <;> rfl
/-! ### built-in ones -/
theorem call_any {f : Value} {q : (Nat → V → Hp → Prop) → List V → Hp → VK → Prop} (h : ∀ W, CallR X f (q W)) : CallR X f (fun xs H Q => ∃ W, q W xs H Q) := callC fun xs H Q ⟨W, p⟩ => ⟨_, h W, p⟩
theorem bi_boot (f : BI) : bootBuiltins (biName f) = some (biOf f) ∧ biName f ≠ Str.ofString "__name__" ∧ (biName f == Str.ofString "__debug__") = false := by
  cases f <;> decide +kernel
theorem bi_kind (f : BI) : (∃ id, biOf f = .builtin id) ∨ ∃ T, biOf f = .type T := by
  cases f <;> first | exact .inl ⟨_, rfl⟩ | exact .inr ⟨_, rfl⟩
theorem e_bi (n : BI) (c : Bool) {es : List Expr} (hc : X.calm = true) (hg : Gl X (biName n)) (hm : X.mg (biName n) = none) (hs : noStars (f :: es) = true) (ha : PA X (f :: es) (tA F k ca W a)) :
    PE X (.Call (.Name (biName n) p) (f :: es) [] pos) (tE F k ca W (.bi n c a)) := by
  simp only [noStars, Bool.and_eq_true, Bool.not_eq_true'] at hs
  obtain ⟨b1, b2, b3⟩ := bi_boot n
  have cr := call_any (X := X) fun W' => bi_ok (W := W') hc n c
  have main : PE X (.Call (.Name (biName n) p) (f :: es) [] pos) (tCB (fun xs H Q => ∃ W, rDL W (fun ds S => biD n c ds S) xs H Q) (tA F k ca W a)) := by
    rcases bi_kind n with ⟨id, e⟩ | ⟨T, e⟩
    · rw [e] at b1 cr
      exact pe_callB cr hg hm b1 ha b2 b3 (star1 hs.1) (by rw [back_any]; exact noStars_any hs.2)
    · rw [e] at b1 cr
      exact pe_callTy cr hg hm b1 ha b2 b3 (star1 hs.1) (by rw [back_any]; exact noStars_any hs.2)
  exact pe_imp main fun σ H Q ⟨Z, P, A, env, S, t, h⟩ => rdE.mk t (post.bind h fun A1 H1 xs ds S1 e1 r1 dx h1 => ⟨_, Z, P, A1, S1, ds, (t.next e1 r1).g, dx, h1⟩)
theorem t_bi (n : BI) (c : Bool) {es : List Expr} (hc : X.calm = true) (hg : Gl X (biName n)) (hm : X.mg (biName n) = none) (hs : noStars (f :: es) = true) (ha : PA X (f :: es) (tA F k ca W a)) :
    PT X (.Call (.Name (biName n) p) (f :: es) [] pos) (tT F k ca W (.bi n c a)) :=
  t_of rfl (e_bi n c hc hg hm hs ha) fun env S => by
    show ((evs F k none a env S).bind fun vs S => (biD n c vs S).bind truR) = ((evs F k none a env S).bind fun vs S => biD n c vs S).bind truR
    simp only [bind_bind]

/-! ### isinstance -/
theorem ty_boot : ∀ t ∈ ["int", "bool", "str", "list", "tuple", "dict"], bootBuiltins (Str.ofString t) = some (.type t) ∧ Str.ofString t ≠ Str.ofString "__name__" ∧ (Str.ofString t == Str.ofString "__debug__") = false := by decide +kernel
theorem isi_boot : bootBuiltins (Str.ofString "isinstance") = some (.builtin "isinstance") ∧ Str.ofString "isinstance" ≠ Str.ofString "__name__" ∧ (Str.ofString "isinstance" == Str.ofString "__debug__") = false := by decide +kernel
/-- a type that is named -/
def TyN (X : Cx) (t : String) (e : Expr) : Prop := t ∈ ["int", "bool", "str", "list", "tuple", "dict"] ∧ PE X e (tC (.ty t))
theorem tyn_of {t : String} {p : Pos} (ht : t ∈ ["int", "bool", "str", "list", "tuple", "dict"]) (hg : Gl X (Str.ofString t)) (hm : X.mg (Str.ofString t) = none) : TyN X t (.Name (Str.ofString t) p) :=
  ⟨ht, pe_bltn hg hm (ty_boot t ht).1 rfl (ty_boot t ht).2.1 (ty_boot t ht).2.2⟩
theorem t_isi0 {e : VE} {ts : List String} : ∀ env S, evT F k none (.isi e ts) env S = (ev F k none (.isi e ts) env S).bind truR := fun env S => by
  show ((ev F k none e env S).bind fun x S => .ok (ts.any (isiB (tyD S x))) S) = ((ev F k none e env S).bind fun x S => R.ok (.bl (ts.any (isiB (tyD S x)))) S).bind truR
  rw [bind_bind]
  rfl
theorem e_isi1 {t : String} (hg : Gl X (Str.ofString "isinstance")) (hm : X.mg (Str.ofString "isinstance") = none) (hf : isStar f = false) (hgs : isStar g = false) (ha : PE X f (tE F k ca W a)) (ht : TyN X t g) :
    PE X (.Call (.Name "isinstance" p) [f, g] [] pos) (tE F k ca W (.isi a [t])) := by
  have hp : PA X [f, g] (tCons (tE F k ca W a) (tCons (tC (.ty t)) tNil)) := pa_cons ha (pa_cons ht.2 pa_nil (star1 hgs)) (star1 hf)
  refine pe_imp (pe_callB call_isi hg hm isi_boot.1 hp isi_boot.2.1 isi_boot.2.2 (star1 hf) (by rw [back_any, star1 hgs]; rfl)) fun σ H Q ⟨Z, P, A, env, S, t', h⟩ => rdE.mk t' (post.bind h fun A1 H1 x d S1 e1 r1 dx h1 => ?_)
  have r := kit_all _ (tyD_in S1 d) t ht.1
  have h2 : Q (.bl ([t].any (isiB (tyD S1 d)))) H1 := here_ok r1 (.bl _) h1
  rw [List.any_cons, List.any_nil, Bool.or_false] at h2
  exact ⟨x, .ty t, .type (tyD S1 d), .type t, isiB (tyD S1 d) t, rfl, .ty t, ty_of (t'.next e1 r1).g dx, kit_ty r, h2⟩
theorem kit_any {K : PySem.W.Frag} {s : String} (hs : s ∈ tyNames) : ∀ {ts : List String}, (∀ t ∈ ts, t ∈ ["int", "bool", "str", "list", "tuple", "dict"]) → PySem.W.kitAny K (.type s) (ts.map Value.type) = some (ts.any (isiB s))
  | [], _ => rfl
  | t :: ts, h => by
    have r := kit_all _ hs t (h t List.mem_cons_self)
    refine kitAny_cons (kit_ty r) (fun e => ?_) fun e => ?_
    · rw [kit_any hs fun x hx => h x (List.mem_cons_of_mem _ hx)]
      simp [e]
    · simp [e]
/-- the types of a tuple display -/
inductive TyNs (X : Cx) : List String → List Expr → Prop
  | nil : TyNs X [] []
  | cons {t : String} {e : Expr} {ts : List String} {es : List Expr} : isStar e = false → TyN X t e → TyNs X ts es → TyNs X (t :: ts) (e :: es)
def tCs : List V → TA := fun vs _ H Q => Q vs H
theorem tyns_pa : ∀ {ts : List String} {es : List Expr}, TyNs X ts es → PA X es (tCs (ts.map V.ty))
  | _, _, .nil => pa_nil
  | _, _, .cons h1 h2 h3 => pa_cons h2.2 (tyns_pa h3) (star1 h1)
theorem tyns_in : ∀ {ts : List String} {es : List Expr}, TyNs X ts es → ∀ t ∈ ts, t ∈ ["int", "bool", "str", "list", "tuple", "dict"]
  | _, _, .nil, _, h => by simp at h
  | _, _, .cons h1 h2 h3, t, h => by
    rcases List.mem_cons.mp h with rfl | h
    · exact h2.1
    · exact tyns_in h3 t h
theorem cls_map : ∀ ts : List String, Paired ClsV (ts.map V.ty) (ts.map Value.type)
  | [] => .nil
  | t :: ts => .cons (.ty t) (cls_map ts)
theorem e_isiT {ts : List String} {es : List Expr} {j : Nat} {p2 : Pos} (hg : Gl X (Str.ofString "isinstance")) (hm : X.mg (Str.ofString "isinstance") = none) (hf : isStar f = false) (hl : ts.length ≤ 1000) (ha : PE X f (tE F k ca W a)) (ht : TyNs X ts es) :
    PE X (.Call (.Name "isinstance" p) [f, .Tuple es j p2] [] pos) (tE F k ca W (.isi a ts)) := by
  have hp : PA X [f, .Tuple es j p2] (tCons (tE F k ca W a) (tCons (tTup (tCs (ts.map V.ty))) tNil)) := pa_cons ha (pa_cons (pe_tup (tyns_pa ht)) pa_nil) (star1 hf)
  refine pe_imp (pe_callB call_isiT hg hm isi_boot.1 hp isi_boot.2.1 isi_boot.2.2 (star1 hf) (by rw [back_any]; rfl)) fun σ H Q ⟨Z, P, A, env, S, t', h⟩ => rdE.mk t' (post.bind h fun A1 H1 x d S1 e1 r1 dx h1 => ?_)
  refine ⟨?_, fun q hq => ?_⟩
  · rw [List.length_map]
    exact Nat.le_trans hl (by decide +kernel)
  · have g1 : Sg Z P A1 S1 (upd H1 q (.tup (ts.map V.ty))) := (t'.next e1 r1).g.ext (Ext.laid A1 hq) (r1.laid hq)
    refine ⟨x, q, ts.map V.ty, .type (tyD S1 d), ts.map Value.type, ts.any (isiB (tyD S1 d)), rfl, upd_same, cls_map ts, ty_of g1 ((Ext.laid A1 hq).denF dx), kit_any (tyD_in S1 d) (tyns_in ht), ?_⟩
    exact h1 A1 _ _ (Ext.laid A1 hq) (r1.laid hq) (.bl _)
/-! ### a list's methods -/
theorem mt_slot (m : MT) : PySem.Slot "list" (mtName m) (mtId m) ∧ typeOf (.builtin (mtId m)) = pure (.type "method_descriptor") := by
  cases m
  · exact ⟨PySem.F.slot_list_append, PySem.F.type_list_append⟩
  · exact ⟨PySem.F.slot_list_pop, PySem.F.type_list_pop⟩
  · exact ⟨PySem.F.slot_list_pop, PySem.F.type_list_pop⟩
  · exact ⟨PySem.F.slot_list_insert, PySem.F.type_list_insert⟩
  · exact ⟨PySem.F.slot_list_clear, PySem.F.type_list_clear⟩
  · exact ⟨PySem.F.slot_list_remove, PySem.F.type_list_remove⟩
  · exact ⟨PySem.F.slot_list_extend, PySem.F.type_list_extend⟩
  · exact ⟨PySem.F.slot_list_reverse, PySem.F.type_list_reverse⟩
theorem mt_any {id : String} {q : (Nat → V → Hp → Prop) → V → List V → Hp → VK → Prop} (h : ∀ W, MtR X id (q W)) : MtR X id (fun x xs H Q => ∃ W, q W x xs H Q) := mtC fun x xs H Q ⟨W, p⟩ => ⟨_, h W, p⟩
theorem cel_sq {K : PySem.W.Frag} {Z : Addr → Prop} {P : Nat → Prop} {A : List Addr} {S : Sto} {H : Hp} {x : V} {n : Nat} (g : Sg Z P A S H) (h : DenF Z A H x (.cel n)) : tyV K "list" x H := by
  cases h with
  | cel h1 h2 =>
    obtain ⟨b, xs, hb, hx, _⟩ := g.rel.cell n _ (List.getElem?_eq_getElem (by rw [← g.rel.len]; exact h1))
    rw [h2] at hb; cases hb
    exact .inl ⟨rfl, xs, .inl (.of hx)⟩
theorem e_mt (m : MT) {es : List Expr} {p q : Pos} (hb : isCall f = false) (hl : (p.endLine == q.line) = true) (hn : es.length < 20) (h0 : es = [] → b = .nil) (hs : noStars es = true) (ha : PE X f (tE F k ca W a)) (hes : PA X es (tA F k ca W b)) :
    PE X (.Call (.Attribute f (mtName m) p) es [] q) (tE F k ca W (.mt m a b)) := by
  have rd : ∀ σ H Q, tE F k ca W (.mt m a b) σ H Q → tE F k ca W a σ H fun x H1 => tyV X.K "list" x H1 ∧ tA F k ca W b σ H1 fun xs H2 => ∃ W', rDM W' k m x xs H2 Q := fun σ H Q ⟨Z, P, A, env, S, t, h⟩ => rdE.mk t (post.bind h fun A1 H1 x d S1 e1 r1 dx h1 => by
    cases d with
    | cel n =>
      refine ⟨cel_sq (t.next e1 r1).g dx, rdE.mk (t.next e1 r1) (post.bind h1 fun A2 H2 xs ds S2 e2 r2 dxs h2 => ?_)⟩
      exact ⟨_, Z, P, A2, S2, .cel n, ds, t.g.ext (e1.trans e2) r2, t.hk, e2.denF dx, dxs, h2⟩
    | _ => exact h1.elim)
  cases es with
  | nil =>
    refine pe_imp (pe_bm0 PySem.F.plainAttrs_list (mt_slot m).1 (mt_slot m).2 (mt_any fun W' => mt_ok (W := W') k m) ha (base1 hb) hl) fun σ H Q h => ?_
    obtain ⟨Z, P, A, env, S, t, h⟩ := h
    refine rdE.mk t (post.bind h fun A1 H1 x d S1 e1 r1 dx h1 => ?_)
    cases d with
    | cel n =>
      refine ⟨cel_sq (t.next e1 r1).g dx, ?_⟩
      cases h0 rfl
      exact ⟨_, Z, P, A1, S1, .cel n, [], t.g.ext e1 r1, t.hk, dx, .nil, h1⟩
    | _ => exact h1.elim
  | cons e0 es =>
    have hs' := hs
    simp only [noStars, Bool.and_eq_true, Bool.not_eq_true'] at hs'
    refine pe_imp (pe_bm PySem.F.plainAttrs_list (mt_slot m).1 (mt_slot m).2 (mt_any fun W' => mt_ok (W := W') k m) ha hes (base1 hb) ?_ hl (star1 hs'.1) (by rw [back_any]; exact noStars_any hs'.2)) rd
    rw [noStars_all hs]
    have : (e0 :: es).length + ([] : List Keyword).length + (if ([] : List Keyword).isEmpty = true then 0 else 1) < 30 := by
      show (e0 :: es).length + 0 + 0 < 30
      omega
    simp only [this]
    rfl
end
end VI

set_option Elab.async false
set_option linter.all false
set_option maxRecDepth 100000
set_option maxHeartbeats 4000000
/-! VI, part 8: walks, targets, comprehensions. -/
namespace VI
open PySem PySem.Spec PyProof.Rows L2

/-! ### but for one reserved address -/
structure ExtR (D : Addr) (A : List Addr) (H : Hp) (A' : List Addr) (H' : Hp) : Prop where
  more : ∃ N, A' = A ++ N ∧ ∀ a ∈ N, H a = none
  keep : ∀ a o, a ∉ A → a ≠ D → H a = some o → H' a = some o
  dom : ∀ a, H' a = none → H a = none
section
variable {D : Addr} {A A1 A2 A' : List Addr} {H H1 H2 H' : Hp} {Z : Addr → Prop} {P : Nat → Prop} {S S' : Sto}
theorem ExtR.of (e : Ext A H A' H') : ExtR D A H A' H' := ⟨e.more, fun a o h _ q => e.keep a o h q, e.dom⟩
theorem ExtR.refl : ExtR D A H A H := .of (Ext.refl A H)
theorem ExtR.trans (e : ExtR D A H A1 H1) (f : ExtR D A1 H1 A2 H2) : ExtR D A H A2 H2 := by
  obtain ⟨N, rfl, hN⟩ := e.more
  obtain ⟨M, rfl, hM⟩ := f.more
  refine ⟨⟨N ++ M, by simp, fun a ha => ?_⟩, fun a o ha hd h => ?_, fun a h => e.dom a (f.dom a h)⟩
  · rcases List.mem_append.mp ha with h | h
    · exact hN a h
    · exact e.dom a (hM a h)
  · refine f.keep a o (fun hm => ?_) hd (e.keep a o ha hd h)
    rcases List.mem_append.mp hm with h' | h'
    · exact ha h'
    · rw [hN a h'] at h; cases h
theorem ExtR.at_D {o : HO} (h : H D ≠ none) : ExtR D A H A (upd H D o) := by
  refine ⟨⟨[], by simp, by simp⟩, fun a u _ hd e => ?_, fun a e => ?_⟩
  · rw [upd_ne hd]; exact e
  · by_cases q : a = D
    · rw [q, upd_same] at e; cases e
    · rw [upd_ne q] at e; exact e
theorem ExtR.len (e : ExtR D A H A' H') : A.length ≤ A'.length := by
  obtain ⟨N, rfl, _⟩ := e.more
  simp
theorem ExtR.at_ (e : ExtR D A H A' H') {n : Nat} {a : Addr} (h : A[n]? = some a) : A'[n]? = some a := by
  obtain ⟨N, rfl, _⟩ := e.more
  rw [List.getElem?_append_left (List.getElem?_eq_some_iff.mp h).1]
  exact h
theorem ExtR.denF (e : ExtR D A H A' H') (hZ : Z D) {v : V} {d : DD} (h : DenF Z A H v d) : DenF Z A' H' v d := by
  obtain ⟨N, hA, hN⟩ := id e.more
  refine Den.imp (fun a o ho hF hf => ?_) (fun n a h1 h2 => ⟨Nat.lt_of_lt_of_le h1 e.len, e.at_ h2⟩) (fun a o hF ho => e.keep a o (fun hm => hF (.inl hm)) (fun q => hF (.inr (by rw [q]; exact hZ))) ho) _ _ h
  rcases hf with hf | hf
  · rw [hA] at hf
    rcases List.mem_append.mp hf with h' | h'
    · exact hF (.inl h')
    · rw [hN a h'] at ho; cases ho
  · exact hF (.inr hf)
theorem ExtR.env (e : ExtR D A H A' H') (hZ : Z D) {σ : L2.St} {env : VEnv} (h : EnvR Z A H σ env) : EnvR Z A' H' σ env :=
  ⟨h.1, fun i d q => let ⟨v, a, b⟩ := h.2 i d q; ⟨v, a, e.denF hZ b⟩⟩
/-- D's object is written -/
theorem den_D {o : HO} (hZ : Z D) {k : Nat} {v : V} {d : DD} (h : Den (forb A Z) A k H v d) : Den (forb A Z) A k (upd H D o) v d :=
  Den.imp (fun _ _ _ h => h) (fun _ _ h1 h2 => ⟨h1, h2⟩) (fun a u hF hu => by rw [upd_ne (fun q => hF (.inr (by rw [q]; exact hZ)))]; exact hu) _ _ h
theorem denL_D {o : HO} (hZ : Z D) {k : Nat} {v : List V} {d : List DD} (h : DenL (forb A Z) A k H v d) : DenL (forb A Z) A k (upd H D o) v d :=
  DenL.imp (fun _ _ _ h => h) (fun _ _ h1 h2 => ⟨h1, h2⟩) (fun a u hF hu => by rw [upd_ne (fun q => hF (.inr (by rw [q]; exact hZ)))]; exact hu) _ _ h
theorem Rel.at_D {o : HO} (r : Rel Z P A S H) (hZ : Z D) : Rel Z P A S (upd H D o) where
  len := r.len
  nd := r.nd
  res := fun a h => ⟨fun z => by
    by_cases q : a = D
    · rw [q, upd_same] at z; cases z
    · rw [upd_ne q] at z; exact (r.res a h).1 z, (r.res a h).2⟩
  cell := fun n ds h => by
    obtain ⟨a, xs, h1, h2, h3, h4⟩ := r.cell n ds h
    refine ⟨a, xs, h1, ?_, denL_D hZ h3, fun j hj hn => denL_D hZ (h4 j hj hn)⟩
    rw [upd_ne (fun q => (r.res D hZ).2 (by rw [← q]; exact List.mem_of_getElem? h1))]
    exact h2
/-- D is new: it is reserved -/
def zD (Z : Addr → Prop) (D : Addr) : Addr → Prop := fun a => Z a ∨ a = D
theorem zD_self : zD Z D D := .inr rfl
theorem forb_zD {a : Addr} {u : HO} (hD : H D = none) (hu : H a = some u) (h : ¬ forb A Z a) : ¬ forb A (zD Z D) a := by
  rintro (q | q | q)
  · exact h (.inl q)
  · exact h (.inr q)
  · rw [q, hD] at hu; cases hu
theorem den_new {o : HO} (hD : H D = none) {k : Nat} {v : V} {d : DD} (h : Den (forb A Z) A k H v d) : Den (forb A (zD Z D)) A k (upd H D o) v d :=
  Den.imp (fun a u hu hF => forb_zD hD hu hF) (fun _ _ h1 h2 => ⟨h1, h2⟩) (fun a u hF hu => by rw [upd_ne (ne_of_none hu hD)]; exact hu) _ _ h
theorem denL_new {o : HO} (hD : H D = none) {k : Nat} {v : List V} {d : List DD} (h : DenL (forb A Z) A k H v d) : DenL (forb A (zD Z D)) A k (upd H D o) v d :=
  DenL.imp (fun a u hu hF => forb_zD hD hu hF) (fun _ _ h1 h2 => ⟨h1, h2⟩) (fun a u hF hu => by rw [upd_ne (ne_of_none hu hD)]; exact hu) _ _ h
theorem Rel.new_D {o : HO} (r : Rel Z P A S H) (hD : H D = none) : Rel (zD Z D) P A S (upd H D o) where
  len := r.len
  nd := r.nd
  res := fun a h => by
    rcases h with h | rfl
    · exact ⟨fun z => by
        rw [upd_ne (fun q => (r.res a h).1 (by rw [q]; exact hD))] at z
        exact (r.res a h).1 z, (r.res a h).2⟩
    · exact ⟨by rw [upd_same]; simp, fun q => r.fresh hD (.inl q)⟩
  cell := fun n ds h => by
    obtain ⟨a, xs, h1, h2, h3, h4⟩ := r.cell n ds h
    refine ⟨a, xs, h1, ?_, denL_new hD h3, fun j hj hn => denL_new hD (h4 j hj hn)⟩
    rw [upd_ne (ne_of_none h2 hD)]
    exact h2
theorem EnvR.new_D {o : HO} (hD : H D = Option.none) {σ : L2.St} {env : VEnv} (h : EnvR Z A H σ env) : EnvR (zD Z D) A (upd H D o) σ env :=
  ⟨h.1, fun i d q => let ⟨v, a, b⟩ := h.2 i d q; ⟨v, a, den_new hD b⟩⟩
/-- from where D was new -/
theorem ExtR.back {o : HO} (e : ExtR D A (upd H D o) A' H') (hD : H D = none) : Ext A H A' H' := by
  obtain ⟨N, hA, hN⟩ := e.more
  refine ⟨⟨N, hA, fun a ha => ?_⟩, fun a u ha hu => ?_, fun a h => ?_⟩
  · have := hN a ha
    by_cases q : a = D
    · rw [q]; exact hD
    · rw [upd_ne q] at this; exact this
  · have q := ne_of_none hu hD
    exact e.keep a u ha q (by rw [upd_ne q]; exact hu)
  · have := e.dom a h
    by_cases q : a = D
    · rw [q]; exact hD
    · rw [upd_ne q] at this; exact this
/-- D is let go: a tree may hold it -/
theorem den_free {k : Nat} {v : V} {d : DD} (h : Den (forb A (zD Z D)) A k H v d) : Den (forb A Z) A k H v d :=
  Den.imp (fun a u hu hF q => hF (q.elim .inl fun z => .inr (.inl z))) (fun _ _ h1 h2 => ⟨h1, h2⟩) (fun a u hF hu => hu) _ _ h
theorem denL_free {k : Nat} {v : List V} {d : List DD} (h : DenL (forb A (zD Z D)) A k H v d) : DenL (forb A Z) A k H v d :=
  DenL.imp (fun a u hu hF q => hF (q.elim .inl fun z => .inr (.inl z))) (fun _ _ h1 h2 => ⟨h1, h2⟩) (fun a u hF hu => hu) _ _ h
theorem Rel.free_D (r : Rel (zD Z D) P A S H) : Rel Z P A S H where
  len := r.len
  nd := r.nd
  res := fun a h => r.res a (.inl h)
  cell := fun n ds h => by
    obtain ⟨a, xs, h1, h2, h3, h4⟩ := r.cell n ds h
    exact ⟨a, xs, h1, h2, denL_free h3, fun j hj hn => denL_free (h4 j hj hn)⟩
/-- D becomes a cell -/
theorem denL_cell {k k' : Nat} (hk : k ≤ k') {v : List V} {d : List DD} (hl : ∀ (n : Nat) (a : Addr), A[n]? = some a → (A ++ [D])[n]? = some a) (h : DenL (forb A (zD Z D)) A k H v d) : DenL (forb (A ++ [D]) Z) (A ++ [D]) k' H v d :=
  DenL.imp (fun a u hu hF q => hF (q.elim (fun z => (List.mem_append.mp z).elim .inl fun z => .inr (.inr (List.mem_singleton.mp z))) fun z => .inr (.inl z))) (fun _ _ h1 h2 => ⟨Nat.lt_of_lt_of_le h1 hk, hl _ _ h2⟩) (fun a u hF hu => hu) _ _ h
theorem Rel.cell_D {us : List V} {acc : List DD} (r : Rel (zD Z D) P A S H) (hH : H D = some (.lst us)) (hd : DenLF (zD Z D) A H us acc) (hz : ¬ Z D) (hP : ∀ j, P j → j ≤ S.length) : Rel Z P (A ++ [D]) (S ++ [acc]) H := by
  have np : D ∉ A := (r.res D zD_self).2
  have hl : ∀ (n : Nat) (a : Addr), A[n]? = some a → (A ++ [D])[n]? = some a := fun n a h => by
    rw [List.getElem?_append_left (List.getElem?_eq_some_iff.mp h).1]; exact h
  refine ⟨by simp [r.len], ?_, fun a ha => ⟨(r.res a (.inl ha)).1, fun q => ?_⟩, fun n es hn => ?_⟩
  · rw [List.nodup_append]
    exact ⟨r.nd, by simp, fun a ha b hb => by simp at hb; subst hb; exact fun q => np (by rw [← q]; exact ha)⟩
  · rcases List.mem_append.mp q with q | q
    · exact (r.res a (.inl ha)).2 q
    · simp at q; subst q; exact hz ha
  · by_cases hlt : n < S.length
    · rw [List.getElem?_append_left hlt] at hn
      obtain ⟨a, ys, h1, h2, h3, h4⟩ := r.cell n es hn
      exact ⟨a, ys, hl _ _ h1, h2, denL_cell (by simp) hl h3, fun j hj hn => denL_cell (Nat.le_refl _) hl (h4 j hj hn)⟩
    · have e1 : n = S.length := by
        have := (List.getElem?_eq_some_iff.mp hn).1
        simp at this
        omega
      subst e1
      rw [List.getElem?_append_right (Nat.le_refl _)] at hn
      simp at hn
      subst hn
      refine ⟨D, us, ?_, hH, denL_cell (by simp) hl hd, fun j hj hn => absurd (hP j hj) (by omega)⟩
      rw [← r.len, List.getElem?_append_right (Nat.le_refl _)]
      simp
theorem Ext.snoc (e : Ext A H A' H') (hD : H D = none) : Ext A H (A' ++ [D]) H' := by
  obtain ⟨N, rfl, hN⟩ := e.more
  refine ⟨⟨N ++ [D], by simp, fun a ha => ?_⟩, e.keep, e.dom⟩
  rcases List.mem_append.mp ha with h | h
  · exact hN a h
  · simp at h; subst h; exact hD
end

/-! ### walks -/
def isTupD : DD → Bool
  | .tup _ => true
  | _ => false
/-- the machine's walk is this one -/
def DIt (K : PySem.W.Frag) (Z : Addr → Prop) (A : List Addr) (H : Hp) (J : It) : It2 → Prop
  | .seq d => ∃ a, DenF Z A H (.ref a) d ∧ J = if isTupD d = true then Itt K a else Itl K a
  | .rng lo n => J = Itr lo n
  | .enm d => ∃ a, DenF Z A H (.ref a) d ∧ J = Ite K a
  | .zip d e => ∃ a b, DenF Z A H (.ref a) d ∧ DenF Z A H (.ref b) e ∧ J = Itz K a b
section
variable {K : PySem.W.Frag} {Z : Addr → Prop} {P : Nat → Prop} {A A' : List Addr} {S S' : Sto} {H H' : Hp} {J : It} {j : It2}
theorem DIt.mono {Z' : Addr → Prop} (im : ∀ v d, DenF Z A H v d → DenF Z' A' H' v d) (h : DIt K Z A H J j) : DIt K Z' A' H' J j := by
  cases j with
  | seq d => obtain ⟨a, h1, h2⟩ := h; exact ⟨a, im _ _ h1, h2⟩
  | rng lo n => exact h
  | enm d => obtain ⟨a, h1, h2⟩ := h; exact ⟨a, im _ _ h1, h2⟩
  | zip d e => obtain ⟨a, b, h1, h2, h3⟩ := h; exact ⟨a, b, im _ _ h1, im _ _ h2, h3⟩
/-- what a turn brings -/
def Turn (Z : Addr → Prop) (P : Nat → Prop) (A : List Addr) (S : Sto) (J : It) (i : Nat) (H : Hp) : Option (Option DD) → Prop
  | none => True
  | some none => J.stop i H
  | some (some d) => J.go i H ∧ ∀ x H', J.yld i H x H' → Ext A H A H' ∧ Rel Z P A S H' ∧ DenF Z A H' x d
theorem sq_of (g : Sg Z P A S H) {a : Addr} {d : DD} {ds : List DD} (h : DenF Z A H (.ref a) d) (e : seqOf S d = some ds) : ∃ xs, (if isTupD d = true then SqT K H a xs else SqL K H a xs) ∧ DenLF Z A H xs ds := by
  cases h with
  | lst h1 h2 h3 => cases e; exact ⟨_, .inl (.of h2), h3⟩
  | tup h1 h2 h3 => cases e; exact ⟨_, .inl (.of h2), h3⟩
  | @cel _ n h1 h2 =>
    obtain ⟨b, xs, hb, hx, hd, _⟩ := g.rel.cell n ds e
    rw [h2] at hb; cases hb
    exact ⟨xs, .inl (.of hx), hd⟩
  | emp => cases e
  | scr => cases e
theorem ls_of (g : Sg Z P A S H) {a : Addr} {d : DD} {ds : List DD} (h : DenF Z A H (.ref a) d) (e : lstOf S d = some ds) : ∃ xs, SqL K H a xs ∧ DenLF Z A H xs ds := by
  obtain ⟨b, xs, e1, h1, h2⟩ := g.seqL h e
  cases e1
  exact ⟨xs, .inl (.of h1), h2⟩
theorem len_of {xs : List V} {ds : List DD} {i : Nat} (h : DenLF Z A H xs ds) (e : ds[i]? = none) : xs.length ≤ i := by
  rw [h.length]; exact List.getElem?_eq_none_iff.mp e
theorem DIt.turn (g : Sg Z P A S H) (h : DIt K Z A H J j) (i : Nat) : Turn Z P A S J i H (j.at_ i S) := by
  cases j with
  | seq d =>
    obtain ⟨a, hd, rfl⟩ := h
    show Turn Z P A S _ i H ((seqOf S d).map (·[i]?))
    cases q : seqOf S d with
    | none => exact trivial
    | some ds =>
      obtain ⟨xs, hs, hx⟩ := sq_of (K := K) g hd q
      show Turn Z P A S _ i H (some ds[i]?)
      cases q2 : ds[i]? with
      | none =>
        show It.stop _ i H
        cases ht : isTupD d with
        | true => rw [ht] at hs; simp only [if_true] at hs ⊢; exact ⟨xs, hs, len_of hx q2⟩
        | false => rw [ht] at hs; simp only [Bool.false_eq_true, if_false] at hs ⊢; exact ⟨xs, hs, len_of hx q2⟩
      | some y =>
        obtain ⟨v, hv, dv⟩ := hx.get q2
        show It.go _ i H ∧ ∀ x H', It.yld _ i H x H' → _
        cases ht : isTupD d with
        | true =>
          rw [ht] at hs; simp only [if_true] at hs ⊢
          refine ⟨⟨xs, v, hs, hv⟩, fun x H' z => ?_⟩
          obtain ⟨rfl, z⟩ := z
          have := z xs hs
          rw [hv] at this; cases this
          exact ⟨Ext.refl _ _, g.rel, dv⟩
        | false =>
          rw [ht] at hs; simp only [Bool.false_eq_true, if_false] at hs ⊢
          refine ⟨⟨xs, v, hs, hv⟩, fun x H' z => ?_⟩
          obtain ⟨rfl, z⟩ := z
          have := z xs hs
          rw [hv] at this; cases this
          exact ⟨Ext.refl _ _, g.rel, dv⟩
  | rng lo n =>
    cases (show J = Itr lo n from h)
    show Turn Z P A S _ i H (some (if i < n then some (.int (lo + i)) else none))
    by_cases q : i < n
    · rw [if_pos q]
      refine ⟨q, fun x H' z => ?_⟩
      obtain ⟨rfl, rfl⟩ := z
      exact ⟨Ext.refl _ _, g.rel, .int _⟩
    · rw [if_neg q]
      exact Nat.le_of_not_lt q
  | enm d =>
    obtain ⟨a, hd, rfl⟩ := h
    show Turn Z P A S _ i H ((lstOf S d).map fun xs => (xs[i]?).map fun d => .tup [.int (i : Nat), d])
    cases q : lstOf S d with
    | none => exact trivial
    | some ds =>
      obtain ⟨xs, hs, hx⟩ := ls_of (K := K) g hd q
      show Turn Z P A S _ i H (some ((ds[i]?).map fun d => .tup [.int (i : Nat), d]))
      cases q2 : ds[i]? with
      | none => exact ⟨xs, hs, len_of hx q2⟩
      | some y =>
        obtain ⟨v, hv, dv⟩ := hx.get q2
        refine ⟨⟨xs, v, hs, hv⟩, fun x H' z => ?_⟩
        obtain ⟨T, w, rfl, hT, rfl, z⟩ := z
        have := z xs hs
        rw [hv] at this; cases this
        have e := Ext.laid A (o := HO.tup [V.int (i : Nat), v]) hT
        exact ⟨e, g.rel.laid hT, .tup (g.rel.fresh hT) upd_same (.cons (.int _) (.cons (e.denF dv) .nil))⟩
  | zip d e =>
    obtain ⟨a, b, hd, he, rfl⟩ := h
    show Turn Z P A S _ i H (match lstOf S d, lstOf S e with
      | some xs, some ys => some (match xs[i]?, ys[i]? with
        | some x, some y => some (.tup [x, y])
        | _, _ => none)
      | _, _ => none)
    cases q : lstOf S d with
    | none => exact trivial
    | some ds =>
      cases q' : lstOf S e with
      | none => exact trivial
      | some es =>
        obtain ⟨xs, hs, hx⟩ := ls_of (K := K) g hd q
        obtain ⟨ys, hs', hy⟩ := ls_of (K := K) g he q'
        show Turn Z P A S _ i H (some (match ds[i]?, es[i]? with
          | some x, some y => some (.tup [x, y])
          | _, _ => none))
        cases q2 : ds[i]? with
        | none => exact ⟨xs, ys, hs, hs', .inl (len_of hx q2)⟩
        | some x =>
          cases q3 : es[i]? with
          | none => exact ⟨xs, ys, hs, hs', .inr (len_of hy q3)⟩
          | some y =>
            obtain ⟨v, hv, dv⟩ := hx.get q2
            obtain ⟨w, hw, dw⟩ := hy.get q3
            refine ⟨⟨xs, ys, v, w, hs, hs', hv, hw⟩, fun x H' z => ?_⟩
            obtain ⟨T, v1, w1, rfl, hT, rfl, z1, z2⟩ := z
            have t1 := z1 xs hs
            have t2 := z2 ys hs'
            rw [hv] at t1; cases t1
            rw [hw] at t2; cases t2
            have e := Ext.laid A (o := HO.tup [v, w]) hT
            exact ⟨e, g.rel.laid hT, .tup (g.rel.fresh hT) upd_same (.cons (e.denF dv) (.cons (e.denF dw) .nil))⟩
end
section
variable {F : FT} {k : Nat} {ca : Nat → Addr} {W : WX} {X : Cx}
variable {a b c : VE} {f g h tg : Expr} {pos p : Pos}
abbrev tI (F : FT) (k : Nat) (ca : Nat → Addr) (W : WX) (K : PySem.W.Frag) (ve : VE) : TI := rdE k ca W (DIt K) (evI F k none ve)
theorem i_seq (ha : PE X f (tE F k ca W a)) : PI X tg f (tI F k ca W X.K (.iseq a)) := by
  refine ⟨fun pins s σ H R I h => ?_⟩
  obtain ⟨Z, P, A, env, S, t, h⟩ := h
  have h : post Z P (DIt X.K Z) (wE ca (WE W σ)) A H ((ev F k none a env S).bind fun x S => match seqOf S x with
    | some _ => .ok (.seq x) S
    | none => .stuck) R := h
  cases q : ev F k none a env S with
  | stuck => rw [q] at h; exact h.elim
  | exc c d S' =>
    rw [q] at h
    refine (pi_list ha).run pins s σ H R I (rdE.mk t ?_)
    rw [q]
    exact h
  | ok d S' =>
    rw [q] at h
    have h : post Z P (DIt X.K Z) (wE ca (WE W σ)) A H (match seqOf S' d with
      | some _ => .ok (.seq d) S'
      | none => .stuck) R := h
    cases q2 : seqOf S' d with
    | none => rw [q2] at h; exact h.elim
    | some ds =>
      rw [q2] at h
      cases ht : isTupD d with
      | true =>
        refine (pi_tup ha).run pins s σ H R I (rdE.mk t ?_)
        rw [q]
        intro A1 H1 x e1 r1 dx
        obtain ⟨a, xs, rfl, _, _⟩ := (t.next e1 r1).g.seqB dx q2
        obtain ⟨xs, hs, _⟩ := sq_of (K := X.K) (t.next e1 r1).g dx q2
        rw [ht] at hs
        exact ⟨a, rfl, ⟨xs, hs⟩, h A1 H1 _ e1 r1 ⟨a, dx, by rw [ht]; rfl⟩⟩
      | false =>
        refine (pi_list ha).run pins s σ H R I (rdE.mk t ?_)
        rw [q]
        intro A1 H1 x e1 r1 dx
        obtain ⟨a, xs, rfl, _, _⟩ := (t.next e1 r1).g.seqB dx q2
        obtain ⟨xs, hs, _⟩ := sq_of (K := X.K) (t.next e1 r1).g dx q2
        rw [ht] at hs
        exact ⟨a, rfl, ⟨xs, hs⟩, h A1 H1 _ e1 r1 ⟨a, dx, by rw [ht]; rfl⟩⟩
theorem rg_le {i : Int} (h : -1000000 ≤ i ∧ i ≤ 1000000) : -2 ^ 62 ≤ i ∧ i < 2 ^ 62 := by omega
theorem i_rg1 (hg : Gl X (Str.ofString "range")) (hm : X.mg (Str.ofString "range") = none) (hf : isStar f = false) (ha : PE X f (tE F k ca W a)) : PI X tg (.Call (.Name "range" p) [f] [] pos) (tI F k ca W X.K (.irg1 a)) :=
  pi_imp (pi_range1 hg hm (pa_cons ha pa_nil (star1 hf)) (star1 hf)) fun σ H R ⟨Z, P, A, env, S, t, h⟩ => rdE.mk t (post.bind h fun A1 H1 x d S1 e1 r1 dx h1 => by
    cases dx with
    | int j =>
      obtain ⟨hc, h2⟩ := if_post h1
      exact ⟨j, rfl, (rg_le hc).1, (rg_le hc).2, h2 A1 H1 _ (Ext.refl _ _) r1 rfl⟩
    | _ => exact h1.elim)
theorem i_rg2 (hg : Gl X (Str.ofString "range")) (hm : X.mg (Str.ofString "range") = none) (hf : isStar f = false) (hf2 : isStar g = false) (ha : PE X f (tE F k ca W a)) (hb : PE X g (tE F k ca W b)) : PI X tg (.Call (.Name "range" p) [f, g] [] pos) (tI F k ca W X.K (.irg2 a b)) :=
  pi_imp (pi_range2 hg hm (pa_cons ha (pa_cons hb pa_nil (star1 hf2)) (star1 hf)) ((star1 hf).trans (by rw [star1 hf2]; rfl)) (star1 hf2)) fun σ H R ⟨Z, P, A, env, S, t, h⟩ => rdE.mk t (post.bind h fun A1 H1 x d S1 e1 r1 dx h1 => rdE.mk (t.next e1 r1) (post.bind h1 fun A2 H2 y d2 S2 e2 r2 dy h2 => by
    cases dx with
    | int i =>
      cases dy with
      | int j =>
        obtain ⟨hc, h2⟩ := if_post h2
        exact ⟨i, j, rfl, ⟨(rg_le ⟨hc.1, hc.2.1⟩).1, (rg_le ⟨hc.1, hc.2.1⟩).2, (rg_le hc.2.2).1, (rg_le hc.2.2).2⟩, h2 A2 H2 _ (Ext.refl _ _) r2 rfl⟩
      | _ => exact h2.elim
    | _ => exact h2.elim))
theorem i_enm {es : List Expr} {j : Nat} {p2 : Pos} (hg : Gl X (Str.ofString "enumerate")) (hm : X.mg (Str.ofString "enumerate") = none) (hf : isStar f = false) (ha : PE X f (tE F k ca W a)) : PI X (.Tuple es j p2) (.Call (.Name "enumerate" p) [f] [] pos) (tI F k ca W X.K (.ienm a)) :=
  pi_imp (pi_enum hg hm (pa_cons ha pa_nil (star1 hf)) (star1 hf)) fun σ H R ⟨Z, P, A, env, S, t, h⟩ => rdE.mk t (post.bind h fun A1 H1 x d S1 e1 r1 dx h1 => by
    cases q : lstOf S1 d with
    | none => rw [q] at h1; exact h1.elim
    | some ds =>
      rw [q] at h1
      obtain ⟨b, xs, rfl, hb, hx⟩ := (t.next e1 r1).g.seqL dx q
      exact ⟨b, xs, rfl, .inl (.of hb), h1 A1 H1 _ (Ext.refl _ _) r1 ⟨b, dx, rfl⟩⟩)
theorem i_zip {es : List Expr} {j : Nat} {p2 : Pos} (hg : Gl X (Str.ofString "zip")) (hm : X.mg (Str.ofString "zip") = none) (hf : isStar f = false) (hf2 : isStar g = false) (ha : PE X f (tE F k ca W a)) (hb : PE X g (tE F k ca W b)) : PI X (.Tuple es j p2) (.Call (.Name "zip" p) [f, g] [] pos) (tI F k ca W X.K (.izip a b)) :=
  pi_imp (pi_zip hg hm (pa_cons ha (pa_cons hb pa_nil (star1 hf2)) (star1 hf)) (star1 hf) (by rw [back_any, star1 hf2]; rfl)) fun σ H R ⟨Z, P, A, env, S, t, h⟩ => rdE.mk t (post.bind h fun A1 H1 x d S1 e1 r1 dx h1 => rdE.mk (t.next e1 r1) (post.bind h1 fun A2 H2 y d2 S2 e2 r2 dy h2 => by
    cases q : lstOf S2 d with
    | none => rw [q] at h2; exact h2.elim
    | some ds =>
      cases q2 : lstOf S2 d2 with
      | none => rw [q, q2] at h2; exact h2.elim
      | some es =>
        rw [q, q2] at h2
        have g2 := t.g.ext (e1.trans e2) r2
        obtain ⟨b, xs, rfl, hb, hx⟩ := g2.seqL (e2.denF dx) q
        obtain ⟨c, ys, rfl, hc, hy⟩ := g2.seqL dy q2
        exact ⟨b, c, xs, ys, rfl, .inl (.of hb), .inl (.of hc), h2 A2 H2 _ (Ext.refl _ _) r2 ⟨b, c, e2.denF dx, dy, rfl⟩⟩))
end
end VI

set_option Elab.async false
set_option linter.all false
set_option maxRecDepth 100000
set_option maxHeartbeats 4000000
/-! VI, part 9: targets, comprehensions. -/
namespace VI
open PySem PySem.Spec PyProof.Rows L2

theorem post.calm {α β : Type} {Z : Addr → Prop} {P : Nat → Prop} {D : List Addr → Hp → β → α → Prop} {W W' : Nat → V → Hp → Prop} {A : List Addr} {H : Hp} {r : R α} {Q : β → Hp → Prop} (h : post Z P D W A H r.calm Q) : post Z P D W' A H r Q := by
  cases r with
  | ok d S => exact h
  | exc c d S => exact h.elim
  | stuck => exact h.elim
theorem calm_ok {α : Type} {r : R α} {a : α} {S : Sto} (h : r.calm = .ok a S) : r = .ok a S := by
  cases r with
  | ok d S => exact h
  | exc c d S => cases h
  | stuck => cases h
theorem calm_exc {α : Type} {r : R α} {c : Nat} {d : DD} {S : Sto} (h : r.calm = .exc c d S) : False := by
  cases r <;> cases h
theorem bind_ok {α β : Type} {r : R α} {f : α → Sto → R β} {b : β} {S : Sto} (h : r.bind f = .ok b S) : ∃ a S1, r = .ok a S1 ∧ f a S1 = .ok b S := by
  cases r with
  | ok a S1 => exact ⟨a, S1, rfl, h⟩
  | exc c d S => cases h
  | stuck => cases h
section
variable {F : FT} {k : Nat} {ca : Nat → Addr} {W : WX} {X : Cx}
variable {a b c : VE} {f g h tg : Expr} {pos p : Pos}
/-! ### targets -/
/-- behind a target: the names sl are stored, no other -/
def dG (sl : List Nat) (σ : L2.St) (Z : Addr → Prop) (A : List Addr) (H : Hp) (σ' : L2.St) (env' : VEnv) : Prop := EnvR Z A H σ' env' ∧ σ'.length = σ.length ∧ ∀ i, i ∉ sl → σ'[i]? = σ[i]?
def rdG (k : Nat) (f : DD → VEnv → Sto → R VEnv) (sl : List Nat) : TG := fun v σ H Q =>
  ∃ (Z : Addr → Prop) (P : Nat → Prop) (A : List Addr) (env : VEnv) (S : Sto) (d : DD), At k Z P A env S σ H ∧ DenF Z A H v d ∧ post Z P (dG sl σ Z) (fun _ _ _ => False) A H (f d env S) Q
def rdGs (k : Nat) (f : List DD → VEnv → Sto → R VEnv) (sl : List Nat) : TGs := fun vs σ H Q =>
  ∃ (Z : Addr → Prop) (P : Nat → Prop) (A : List Addr) (env : VEnv) (S : Sto) (ds : List DD), At k Z P A env S σ H ∧ DenLF Z A H vs ds ∧ post Z P (dG sl σ Z) (fun _ _ _ => False) A H (f ds env S) Q
abbrev tG (F : FT) (k : Nat) (ve : VE) : TG := rdG k (asg F k none ve) (tgSlots ve)
abbrev tGs (F : FT) (k : Nat) (ve : VE) : TGs := rdGs k (asgs F k none ve) (tgSlots ve)
theorem dG.trans {sl sl' : List Nat} {σ σ1 σ2 : L2.St} {Z : Addr → Prop} {A1 A2 : List Addr} {H1 H2 : Hp} {env1 env2 : VEnv} (h1 : dG sl σ Z A1 H1 σ1 env1) (h2 : dG sl' σ1 Z A2 H2 σ2 env2) : dG (sl ++ sl') σ Z A2 H2 σ2 env2 :=
  ⟨h2.1, h2.2.1.trans h1.2.1, fun i hi => (h2.2.2 i fun q => hi (List.mem_append_right _ q)).trans (h1.2.2 i fun q => hi (List.mem_append_left _ q))⟩
theorem g_loc {i : Nat} {x : Str} (hn : X.N.Nodup) (hN : X.N[i]? = some x) (hl : Loc X.env.scope x) (hs : X.fn x = true ∨ X.env.scope.names.lookup x = some .local) : PG X (.Name x pos) (tG F k (.tloc i)) :=
  pg_imp (pg_name hn hN hl hs) fun v σ H Q ⟨Z, P, A, env, S, d, t, dv, h⟩ => by
    refine h A H _ (Ext.refl _ _) t.g.rel ⟨t.en.set i dv, by simp, fun j hj => ?_⟩
    have : i ≠ j := fun q => hj (by rw [← q]; exact List.mem_singleton.mpr rfl)
    rw [List.getElem?_set_ne this]
theorem gs_nil : PGs X [] (tGs F k .nil) := pgs_imp pgs_nil fun vs σ H Q ⟨Z, P, A, env, S, ds, t, dv, h⟩ => by
  cases dv with
  | nil => exact ⟨rfl, h A H _ (Ext.refl _ _) t.g.rel ⟨t.en, rfl, fun _ _ => rfl⟩⟩
  | cons _ _ => exact h.elim
theorem gs_cons {es : List Expr} (hs : isStar f = false) (h1 : PG X f (tG F k a)) (h2 : PGs X es (tGs F k b)) : PGs X (f :: es) (tGs F k (.cons a b)) :=
  pgs_imp (pgs_cons h1 h2 (by rw [assign1 hs]; rfl)) fun vs σ H Q ⟨Z, P, A, env, S, ds, t, dv, h⟩ => by
    cases dv with
    | nil => exact h.elim
    | @cons v vr d dr dv1 dv2 =>
      refine ⟨v, vr, rfl, Z, P, A, env, S, d, t, dv1, ?_⟩
      have h : post Z P (dG (tgSlots a ++ tgSlots b) σ Z) (fun _ _ _ => False) A H ((asg F k none a d env S).bind fun env S => asgs F k none b dr env S) Q := h
      cases q : asg F k none a d env S with
      | stuck => rw [q] at h; exact h.elim
      | exc c x S' => rw [q] at h; exact h
      | ok env1 S1 =>
        rw [q] at h
        intro A1 H1 σ1 e1 r1 dg1
        refine ⟨Z, P, A1, env1, S1, dr, ⟨t.g.ext e1 r1, t.hk, dg1.1⟩, e1.denLF dv2, ?_⟩
        have h : post Z P (dG (tgSlots a ++ tgSlots b) σ Z) (fun _ _ _ => False) A H (asgs F k none b dr env1 S1) Q := h
        cases q2 : asgs F k none b dr env1 S1 with
        | stuck => rw [q2] at h; exact h.elim
        | exc c x S' => rw [q2] at h; exact fun A' H' v e' r' d' => h A' H' v (e1.trans e') r' d'
        | ok env2 S2 =>
          rw [q2] at h
          exact fun A2 H2 σ2 e2 r2 dg2 => h A2 H2 σ2 (e1.trans e2) r2 (dg1.trans dg2)
def lenV : VE → Nat
  | .cons _ r => lenV r + 1
  | _ => 0
theorem asgs_len : ∀ (ve : VE) {ds : List DD} {env env' : VEnv} {S S' : Sto}, asgs F k none ve ds env S = .ok env' S' → ds.length = lenV ve := by
  intro ve
  induction ve with
  | nil =>
    intro ds env env' S S' h
    cases ds with
    | nil => rfl
    | cons _ _ => cases h
  | cons t ts _ ih =>
    intro ds env env' S S' h
    cases ds with
    | nil => cases h
    | cons d ds =>
      have h : ((asg F k none t d env S).bind fun env S => asgs F k none ts ds env S) = .ok env' S' := h
      obtain ⟨env1, S1, h1, h2⟩ := bind_ok h
      show ds.length + 1 = lenV ts + 1
      rw [ih h2]
  | _ => intro ds env env' S S' h; cases ds <;> cases h
theorem setD_calm {k : Nat} {x y d : DD} {S S' : Sto} {c : Nat} {z : DD} (h : setD k x y d S = .exc c z S') : False := by
  unfold setD at h
  split at h
  · split at h
    · split at h
      · split at h <;> cases h
      · cases h
    · cases h
  · cases h
theorem bind_exc {α β : Type} {r : R α} {f : α → Sto → R β} {c : Nat} {z : DD} {S : Sto} (h : r.bind f = .exc c z S) : r = .exc c z S ∨ ∃ a S1, r = .ok a S1 ∧ f a S1 = .exc c z S := by
  cases r with
  | ok a S1 => exact .inr ⟨a, S1, rfl, h⟩
  | exc c d S => cases h; exact .inl rfl
  | stuck => cases h
theorem asg_exc : ∀ (ve : VE), (∀ {d : DD} {env : VEnv} {S S' : Sto} {c : Nat} {z : DD}, asg F k none ve d env S = .exc c z S' → False) ∧ (∀ {ds : List DD} {env : VEnv} {S S' : Sto} {c : Nat} {z : DD}, asgs F k none ve ds env S = .exc c z S' → False) := by
  intro ve
  induction ve with
  | nil => exact ⟨fun h => (by cases h), fun {ds} _ _ _ _ _ h => by cases ds <;> cases h⟩
  | cons t ts ih1 ih2 =>
    refine ⟨fun h => (by cases h), fun {ds env S S' c z} h => ?_⟩
    cases ds with
    | nil => cases h
    | cons d ds =>
      rcases bind_exc (show ((asg F k none t d env S).bind fun env S => asgs F k none ts ds env S) = .exc c z S' from h) with h | ⟨env1, S1, _, h⟩
      · exact ih1.1 h
      · exact ih2.2 h
  | tloc i => exact ⟨fun h => (by cases h), fun {ds} _ _ _ _ _ h => by cases ds <;> cases h⟩
  | ttup ts ih =>
    refine ⟨fun {d env S S' c z} h => ?_, fun {ds} _ _ _ _ _ h => by cases ds <;> cases h⟩
    have h : (match seqOf S d with
      | some ds => asgs F k none ts ds env S
      | none => .stuck) = .exc c z S' := h
    cases q : seqOf S d with
    | none => rw [q] at h; cases h
    | some ds => rw [q] at h; exact ih.2 h
  | tsub a i _ _ =>
    refine ⟨fun {d env S S' c z} h => ?_, fun {ds} _ _ _ _ _ h => by cases ds <;> cases h⟩
    have h : ((ev F k none a env S).calm.bind fun x S => (ev F k none i env S).calm.bind fun y S => (setD k x y d S).bind fun _ S => .ok env S) = .exc c z S' := h
    rcases bind_exc h with h | ⟨_, _, _, h⟩
    · exact calm_exc h
    rcases bind_exc h with h | ⟨_, _, _, h⟩
    · exact calm_exc h
    rcases bind_exc h with h | ⟨_, _, _, h⟩
    · exact setD_calm h
    · cases h
  | _ => exact ⟨fun h => (by cases h), fun {ds} _ _ _ _ _ h => by cases ds <;> cases h⟩
theorem g_tup {es : List Expr} {j : Nat} (hc : X.calm = true) (hs : noStars es = true) (hl : lenV a = es.length) (h1 : PGs X es (tGs F k a)) : PG X (.Tuple es j pos) (tG F k (.ttup a)) := by
  obtain ⟨n1, n2, _⟩ := noStars_asg (env := X.env) hs
  refine ⟨fun pins s σ H v u Q I r ⟨Z, P, A, env, S, d, t, dv, h⟩ => ?_⟩
  have h : post Z P (dG (tgSlots a) σ Z) (fun _ _ _ => False) A H (match seqOf S d with
    | some ds => asgs F k none a ds env S
    | none => .stuck) Q := h
  cases q : seqOf S d with
  | none => rw [q] at h; exact h.elim
  | some ds =>
    rw [q] at h
    have hlen : ds.length = es.length := by
      have h : post Z P (dG (tgSlots a) σ Z) (fun _ _ _ => False) A H (asgs F k none a ds env S) Q := h
      rw [← hl]
      cases q2 : asgs F k none a ds env S with
      | ok env' S' => exact asgs_len a q2
      | exc c x S' =>
        exact ((asg_exc a).2 q2).elim
      | stuck => rw [q2] at h; exact h.elim
    obtain ⟨b, xs, rfl, _, _⟩ := t.g.seqB dv q
    obtain ⟨xs, hq, hx⟩ := sq_of (K := X.K) t.g dv q
    cases ht : isTupD d with
    | true =>
      rw [ht] at hq
      exact (pg_tup hc h1 n1 n2).run pins s σ H _ u Q I r ⟨b, xs, rfl, hq, by rw [hx.length, hlen], Z, P, A, env, S, ds, t, hx, h⟩
    | false =>
      rw [ht] at hq
      exact (pg_lst hc h1 n1 n2).run pins s σ H _ u Q I r ⟨b, xs, rfl, hq, by rw [hx.length, hlen], Z, P, A, env, S, ds, t, hx, h⟩
theorem set_any (k : Nat) : PSet X (fun o i v H Q => ∃ W, rDSet W k o i v H Q) := fun pins s σ H o i v ov iv u Q I ro ri rv ⟨W, h⟩ => set_ok (W := W) k pins s σ H o i v ov iv u Q I ro ri rv h
theorem sub_side {o i : Expr} {env : Env} {pos : Pos} (h : isSlice i = false) : ∀ v, assign (.Subscript o i pos) env v = (do let ov ← holding [v] (eval o env); let iv ← holding [v, ov] (eval i env); standAt pos; holding [v, ov, iv] (setItem ov iv v); release [v, ov, iv] []) := by
  intro v
  cases i <;> first | rfl | (simp [isSlice] at h)
theorem g_sub (hs : isSlice g = false) (h1 : PE X f (tE F k ca W a)) (h2 : PE X g (tE F k ca W b)) : PG X (.Subscript f g pos) (tG F k (.tsub a b)) :=
  pg_imp (pg_sub h1 h2 (set_any k) (sub_side hs)) fun v σ H Q ⟨Z, P, A, env, S, d, t, dv, h⟩ => by
    have h : post Z P (dG [] σ Z) (fun _ _ _ => False) A H ((ev F k none a env S).calm.bind fun x S => (ev F k none b env S).calm.bind fun y S => (setD k x y d S).bind fun _ S => .ok env S) Q := h
    refine rdE.mk t (post.calm (post.bind h fun A1 H1 x dx S1 e1 r1 vx h1 => rdE.mk (t.next e1 r1) (post.calm (post.bind h1 fun A2 H2 y dy S2 e2 r2 vy h2 => ?_))))
    refine ⟨fun _ _ _ => False, Z, P, A2, S2, dx, dy, d, t.g.ext (e1.trans e2) r2, t.hk, e2.denF vx, vy, (e1.trans e2).denF dv, ?_⟩
    exact post.bind (Q := Q) (D' := dG [] σ Z) (Q' := fun _ H' => Q σ H') h2 fun A3 H3 _ _ S3 e3 r3 _ h3 => h3 A3 H3 σ (Ext.refl _ _) r3 ⟨(t.en.ext (e1.trans e2)).ext e3, rfl, fun _ _ => rfl⟩
/-! ### a comprehension's walk -/
theorem compL_exc {j : It2} {turn : DD → List DD → Sto → R (List DD)} (ht : ∀ {x : DD} {acc : List DD} {S S' : Sto} {c : Nat} {z : DD}, turn x acc S = .exc c z S' → False) : ∀ {n i : Nat} {acc : List DD} {S S' : Sto} {c : Nat} {z : DD}, compL j turn n i acc S = .exc c z S' → False
  | 0, _, _, _, _, _, _, h => by cases h
  | n + 1, i, acc, S, S', c, z, h => by
    unfold compL at h
    split at h
    · cases h
    · cases h
    · rcases bind_exc h with h | ⟨_, _, _, h⟩
      · exact ht h
      · exact compL_exc ht h
theorem comp_loop {K : PySem.W.Frag} {D : Addr} {Z : Addr → Prop} {P : Nat → Prop} {A1 : List Addr} {H1 : Hp} {J : It} {j : It2} {turn : DD → List DD → Sto → R (List DD)} {f0 : Nat} {acc0 accE : List DD} {S0 SE : Sto} {Cn : List Addr → Hp → List DD → Prop} {End : Hp → Prop} {T : V → Hp → (Hp → Prop) → Prop}
    (hZ : Z D) (hP : ∀ q, P q → q ≤ A1.length) (hj : DIt K Z A1 H1 J j) (r0 : Rel Z P A1 S0 H1) (c0 : Cn A1 H1 acc0)
    (stab : ∀ {A H A' H' acc}, Cn A H acc → D ∉ A → Ext A H A' H' → Cn A' H' acc)
    (run : compL j turn f0 0 acc0 S0 = .ok accE SE)
    (stop : ∀ A H, ExtR D A1 H1 A H → Rel Z P A SE H → Cn A H accE → End H)
    (step : ∀ A S H acc x d acc' S' Nx, ExtR D A1 H1 A H → Rel Z P A S H → Cn A H acc → DenF Z A H x d → turn d acc S = .ok acc' S' →
      (∀ A2 H2, ExtR D A1 H1 A2 H2 → Rel Z P A2 S' H2 → Cn A2 H2 acc' → Nx H2) → T x H Nx) :
    ∃ W : Nat → Nat → Hp → Prop, (∃ m, W 0 m H1) ∧ ∀ i m H, W i m H → (J.stop i H ∧ End H) ∨ (J.go i H ∧ ∃ Nx : Hp → Prop, (∀ H', Nx H' → ∃ m', m' < m ∧ W (i + 1) m' H') ∧ ∀ x H', J.yld i H x H' → T x H' Nx) := by
  refine ⟨fun i m H => ∃ A S acc, ExtR D A1 H1 A H ∧ Rel Z P A S H ∧ Cn A H acc ∧ compL j turn m i acc S = .ok accE SE, ⟨f0, A1, S0, acc0, .refl, r0, c0, run⟩, ?_⟩
  rintro i m H ⟨A, S, acc, e, r, hc, heq⟩
  cases m with
  | zero => cases heq
  | succ m =>
    have g : Sg Z P A S H := ⟨r, fun q hq => by have := hP q hq; have := e.len; have := r.len; omega⟩
    have tn := (hj.mono (Z' := Z) (A' := A) (H' := H) fun _ _ h => e.denF hZ h).turn g i
    unfold compL at heq
    cases q : j.at_ i S with
    | none => rw [q] at heq; cases heq
    | some o =>
      cases o with
      | none =>
        rw [q] at heq tn
        cases heq
        exact .inl ⟨tn, stop A H e r hc⟩
      | some d =>
        rw [q] at heq tn
        obtain ⟨acc', S', h1, h2⟩ := bind_ok heq
        refine .inr ⟨tn.1, fun H' => ∃ A S acc, ExtR D A1 H1 A H' ∧ Rel Z P A S H' ∧ Cn A H' acc ∧ compL j turn m (i + 1) acc S = .ok accE SE, fun H' w => ⟨m, Nat.lt_succ_self m, w⟩, fun x H' y => ?_⟩
        obtain ⟨e2, r2, dx⟩ := tn.2 x H' y
        exact step A S H' acc x d acc' S' _ (e.trans (.of e2)) r2 (stab hc (r.res D hZ).2 e2) dx h1 fun A2 H2 e3 r3 c3 => ⟨A2, S', acc', e3, r3, c3, h2⟩
theorem wipe_eq {sl vs : List Nat} {σ σ2 : L2.St} (hl : σ2.length = (wipe σ vs).length) (hs : ∀ i, i ∉ sl → σ2[i]? = (wipe σ vs)[i]?) (hsub : ∀ i ∈ sl, i ∈ vs) : wipe σ2 vs = wipe σ vs := by
  have hlen : (wipe σ2 vs).length = (wipe σ vs).length := by rw [wipe_length, hl]
  refine List.ext_getElem? fun i => ?_
  by_cases hi : i ∈ vs
  · by_cases h : i < (wipe σ vs).length
    · have n1 : ∀ {τ : L2.St}, i < (wipe τ vs).length → (wipe τ vs)[i]? = some none := fun {τ} hτ => by
        cases q : (wipe τ vs)[i]? with
        | none => rw [List.getElem?_eq_none_iff] at q; omega
        | some o =>
          cases o with
          | none => rfl
          | some x => exact absurd hi (wipe_some q).2
      rw [n1 h, n1 (by rw [hlen]; exact h)]
    · rw [List.getElem?_eq_none_iff.mpr (by omega), List.getElem?_eq_none_iff.mpr (by omega)]
  · rw [wipe_out hi, hs i fun q => hi (hsub i q)]
/-- the new list's content -/
def cnL (Z : Addr → Prop) (D : Addr) (A : List Addr) (H : Hp) (acc : List DD) : Prop := ∃ us, H D = some (.lst us) ∧ DenLF Z A H us acc
theorem cnL_stab {Z : Addr → Prop} {D : Addr} {A A' : List Addr} {H H' : Hp} {acc : List DD} (h : cnL Z D A H acc) (hn : D ∉ A) (e : Ext A H A' H') : cnL Z D A' H' acc := by
  obtain ⟨us, h1, h2⟩ := h
  exact ⟨us, e.keep D _ hn h1, e.denLF h2⟩
abbrev W0 : WX := fun _ _ _ _ => False
theorem addL_ok {acc acc' : List DD} {y : DD} {S S' : Sto} (h : addL acc y S = .ok acc' S') : acc.length < lenMax ∧ acc' = acc ++ [y] ∧ S' = S := by
  unfold addL at h
  split at h
  · cases h; exact ⟨by assumption, rfl, rfl⟩
  · cases h
theorem lc_read {K : PySem.W.Frag} {cc : Bool} {own : List (Str × Nat)} {it tv ifs elt : VE} (hsub : ∀ i ∈ tgSlots tv, i ∈ own.map (·.2)) (σ : L2.St) (H : Hp) (Q : VK) (h : tE F k ca W (.lc cc own tv it ifs elt) σ H Q) :
    tLc (tI F k ca W K it) (tG F k tv) (tT F k ca W0 ifs) (tE F k ca W0 elt) (own.map (·.2)) σ H Q := by
  obtain ⟨Z, P, A, env, S, t, h⟩ := h
  refine rdE.mk t (post.bind h fun A1 H1 J j S1 e1 r1 dj h1 => fun D hD => ?_)
  have t1 := t.next e1 r1
  cases hrun : compL j (fun x acc S => ((asg F k none tv x (wipeE env (own.map (·.2))) S).bind fun env2 S => (evT F k none ifs env2 S).bind fun t S =>
        if t = true then (ev F k none elt env2 S).bind fun y S => addL acc y S else .ok acc S).calm) fuelW 0 [] S1 with
  | stuck => rw [hrun] at h1; exact h1.elim
  | exc c x S' => exact (compL_exc (fun h => calm_exc h) hrun).elim
  | ok accE SE =>
    rw [hrun] at h1
    have h1 : post Z P (DenF Z) (wE ca (WE W σ)) A1 H1 (alloc cc accE SE) Q := h1
    refine comp_loop (K := K) (D := D) (Z := zD Z D) (P := P) (A1 := A1) (Cn := cnL (zD Z D) D) zD_self (fun q hq => by have := t1.g.hP q hq; rw [r1.len]; exact this) (dj.mono fun _ _ h => den_new hD h) (r1.new_D hD) ⟨[], upd_same, .nil⟩ cnL_stab hrun ?_ ?_
    · intro A2 H2 e2 r2 ⟨us, hu, du⟩
      have e3 := e2.back hD
      have hz : ¬ Z D := fun z => (r1.res D z).1 hD
      cases cc with
      | false =>
        refine h1 A2 H2 _ e3 r2.free_D (.lst (fun q => ?_) hu (denL_free du))
        exact q.elim (fun q => (r2.res D zD_self).2 q) hz
      | true =>
        refine h1 (A2 ++ [D]) H2 _ (e3.snoc hD) (r2.cell_D hu du hz fun q hq => ?_) (.cel (by simp [r2.len]) ?_)
        · have := t1.g.hP q hq; have := e2.len; have := r1.len; have := r2.len; omega
        · rw [← r2.len, List.getElem?_append_right (Nat.le_refl _)]
          simp
    · intro A2 S2 H2 acc x d acc' S' Nx e2 r2 c2 dx hturn nx
      have hturn := calm_ok hturn
      obtain ⟨env2, S3, q1, hturn⟩ := bind_ok hturn
      obtain ⟨b, S4, q2, hturn⟩ := bind_ok hturn
      have en : EnvR (zD Z D) A2 H2 (wipe σ (own.map (·.2))) (wipeE env (own.map (·.2))) := (e2.env zD_self (t1.en.new_D hD)).wipe _
      have hP2 : ∀ q, P q → q ≤ A2.length := fun q hq => by have := t1.g.hP q hq; have := e2.len; have := r1.len; omega
      refine ⟨zD Z D, P, A2, wipeE env (own.map (·.2)), S2, d, ⟨⟨r2, fun q hq => by rw [← r2.len]; exact hP2 q hq⟩, t.hk, en⟩, dx, ?_⟩
      rw [q1]
      intro A3 H3 σ2 e3 r3 dg
      refine ⟨wipe_eq dg.2.1 dg.2.2 hsub, zD Z D, P, A3, env2, S3, ⟨⟨r3, fun q hq => by rw [← r3.len]; exact Nat.le_trans (hP2 q hq) e3.len⟩, t.hk, dg.1⟩, ?_⟩
      rw [q2]
      intro A4 H4 b' e4 r4 hb
      cases (show b' = b from hb)
      have e24 := e3.trans e4
      have c4 := cnL_stab c2 (r2.res D zD_self).2 e24
      cases b with
      | false =>
        simp only [Bool.false_eq_true, if_false] at hturn ⊢
        cases hturn
        exact nx A4 H4 (e2.trans (.of e24)) r4 c4
      | true =>
        simp only [if_true] at hturn ⊢
        obtain ⟨y, S5, q3, hturn⟩ := bind_ok hturn
        obtain ⟨z1, rfl, rfl⟩ := addL_ok hturn
        refine ⟨zD Z D, P, A4, env2, S4, ⟨⟨r4, fun q hq => by rw [← r4.len]; exact Nat.le_trans (hP2 q hq) e24.len⟩, t.hk, dg.1.ext e4⟩, ?_⟩
        rw [q3]
        intro A5 H5 yv e5 r5 dy
        have e25 := e24.trans e5
        obtain ⟨us, hu, du⟩ := cnL_stab c2 (r2.res D zD_self).2 e25
        refine ⟨us, hu, by have := du.length; have := lenMax_le; omega, nx A5 _ ((e2.trans (.of e25)).trans (.at_D (by rw [hu]; simp))) (r5.at_D zD_self) ⟨us ++ [yv], upd_same, denL_D zD_self (du.snoc dy)⟩⟩
theorem lc2_read {K : PySem.W.Frag} {cc : Bool} {own : List (Str × Nat)} {own2 : List Nat} {it tv it2 tv2 ifs elt : VE} (hsub : ∀ i ∈ tgSlots tv, i ∈ own.map (·.2)) (hsub2 : ∀ i ∈ tgSlots tv2, i ∈ own2) (σ : L2.St) (H : Hp) (Q : VK) (h : tE F k ca W (.lc2 cc own own2 tv it tv2 it2 ifs elt) σ H Q) :
    tLc2 (tI F k ca W K it) (tG F k tv) tYes (tI F k ca W0 K it2) (tG F k tv2) (tT F k ca W0 ifs) (tE F k ca W0 elt) (own.map (·.2)) own2 σ H Q := by
  obtain ⟨Z, P, A, env, S, t, h⟩ := h
  refine rdE.mk t (post.bind h fun A1 H1 J j S1 e1 r1 dj h1 => fun D hD => ?_)
  have t1 := t.next e1 r1
  cases hrun : compL j (fun x acc S => ((asg F k none tv x (wipeE env (own.map (·.2))) S).bind fun env2 S => (evI F k none it2 env2 S).bind fun j2 S =>
        compL j2 (fun x2 acc S => ((asg F k none tv2 x2 (wipeE env2 own2) S).bind fun env3 S => (evT F k none ifs env3 S).bind fun t S =>
          if t = true then (ev F k none elt env3 S).bind fun y S => addL acc y S else .ok acc S)) fuelW 0 acc S).calm) fuelW 0 [] S1 with
  | stuck => rw [hrun] at h1; exact h1.elim
  | exc c x S' => exact (compL_exc (fun h => calm_exc h) hrun).elim
  | ok accE SE =>
    rw [hrun] at h1
    have h1 : post Z P (DenF Z) (wE ca (WE W σ)) A1 H1 (alloc cc accE SE) Q := h1
    refine comp_loop (K := K) (D := D) (Z := zD Z D) (P := P) (A1 := A1) (Cn := cnL (zD Z D) D) zD_self (fun q hq => by have := t1.g.hP q hq; rw [r1.len]; exact this) (dj.mono fun _ _ h => den_new hD h) (r1.new_D hD) ⟨[], upd_same, .nil⟩ cnL_stab hrun ?_ ?_
    · intro A2 H2 e2 r2 ⟨us, hu, du⟩
      have e3 := e2.back hD
      have hz : ¬ Z D := fun z => (r1.res D z).1 hD
      cases cc with
      | false =>
        refine h1 A2 H2 _ e3 r2.free_D (.lst (fun q => ?_) hu (denL_free du))
        exact q.elim (fun q => (r2.res D zD_self).2 q) hz
      | true =>
        refine h1 (A2 ++ [D]) H2 _ (e3.snoc hD) (r2.cell_D hu du hz fun q hq => ?_) (.cel (by simp [r2.len]) ?_)
        · have := t1.g.hP q hq; have := e2.len; have := r1.len; have := r2.len; omega
        · rw [← r2.len, List.getElem?_append_right (Nat.le_refl _)]
          simp
    · intro A2 S2 H2 acc x d acc' S' Nx e2 r2 c2 dx hturn nx
      have hturn := calm_ok hturn
      obtain ⟨env2, S3, q1, hturn⟩ := bind_ok hturn
      obtain ⟨j2, S4, q2, hturn⟩ := bind_ok hturn
      have en : EnvR (zD Z D) A2 H2 (wipe σ (own.map (·.2))) (wipeE env (own.map (·.2))) := (e2.env zD_self (t1.en.new_D hD)).wipe _
      have hP2 : ∀ q, P q → q ≤ A2.length := fun q hq => by have := t1.g.hP q hq; have := e2.len; have := r1.len; omega
      refine ⟨zD Z D, P, A2, wipeE env (own.map (·.2)), S2, d, ⟨⟨r2, fun q hq => by rw [← r2.len]; exact hP2 q hq⟩, t.hk, en⟩, dx, ?_⟩
      rw [q1]
      intro A3 H3 σ2 e3 r3 dg
      refine ⟨wipe_eq dg.2.1 dg.2.2 hsub, ?_⟩
      show tI F k ca W0 K it2 σ2 H3 _
      refine ⟨zD Z D, P, A3, env2, S3, ⟨⟨r3, fun q hq => by rw [← r3.len]; exact Nat.le_trans (hP2 q hq) e3.len⟩, t.hk, dg.1⟩, ?_⟩
      rw [q2]
      intro A4 H4 J2 e4 r4 dj2
      have e24 := e3.trans e4
      have hP4 : ∀ q, P q → q ≤ A4.length := fun q hq => Nat.le_trans (hP2 q hq) e24.len
      refine comp_loop (K := K) (D := D) (Z := zD Z D) (P := P) (A1 := A4) (Cn := cnL (zD Z D) D) zD_self hP4 dj2 r4 (cnL_stab c2 (r2.res D zD_self).2 e24) cnL_stab hturn ?_ ?_
      · exact fun A5 H5 e5 r5 c5 => nx A5 H5 ((e2.trans (.of e24)).trans e5) r5 c5
      · intro A5 S5 H5 acc5 x5 d5 acc6 S6 Nx1 e5 r5 c5 dx5 hturn nx1
        obtain ⟨env6, S7, q6, hturn⟩ := bind_ok hturn
        obtain ⟨b, S8, q7, hturn⟩ := bind_ok hturn
        have hP5 : ∀ q, P q → q ≤ A5.length := fun q hq => Nat.le_trans (hP4 q hq) e5.len
        have en5 : EnvR (zD Z D) A5 H5 (wipe σ2 own2) (wipeE env2 own2) := (e5.env zD_self (dg.1.ext e4)).wipe _
        refine ⟨zD Z D, P, A5, wipeE env2 own2, S5, d5, ⟨⟨r5, fun q hq => by rw [← r5.len]; exact hP5 q hq⟩, t.hk, en5⟩, dx5, ?_⟩
        rw [q6]
        intro A6 H6 σ6 e6 r6 dg6
        refine ⟨wipe_eq dg6.2.1 dg6.2.2 hsub2, zD Z D, P, A6, env6, S7, ⟨⟨r6, fun q hq => by rw [← r6.len]; exact Nat.le_trans (hP5 q hq) e6.len⟩, t.hk, dg6.1⟩, ?_⟩
        rw [q7]
        intro A7 H7 b' e7 r7 hb
        cases (show b' = b from hb)
        have e57 := e6.trans e7
        cases b with
        | false =>
          simp only [Bool.false_eq_true, if_false] at hturn ⊢
          cases hturn
          exact nx1 A7 H7 (e5.trans (.of e57)) r7 (cnL_stab c5 (r5.res D zD_self).2 e57)
        | true =>
          simp only [if_true] at hturn ⊢
          obtain ⟨y, S9, q9, hturn⟩ := bind_ok hturn
          obtain ⟨z1, rfl, rfl⟩ := addL_ok hturn
          refine ⟨zD Z D, P, A7, env6, S8, ⟨⟨r7, fun q hq => by rw [← r7.len]; exact Nat.le_trans (hP5 q hq) e57.len⟩, t.hk, dg6.1.ext e7⟩, ?_⟩
          rw [q9]
          intro A8 H8 yv e8 r8 dy
          have e58 := e57.trans e8
          obtain ⟨us, hu, du⟩ := cnL_stab c5 (r5.res D zD_self).2 e58
          refine ⟨us, hu, by have := du.length; have := lenMax_le; omega, nx1 A8 _ ((e5.trans (.of e58)).trans (.at_D (by rw [hu]; simp))) (r8.at_D zD_self) ⟨us ++ [yv], upd_same, denL_D zD_self (du.snoc dy)⟩⟩
end
end VI

set_option Elab.async false
set_option linter.all false
set_option maxRecDepth 100000
set_option maxHeartbeats 4000000
/-! VI: a dict made by a comprehension, its keys tuples. -/
namespace VI
open PySem PySem.Spec PyProof.Rows L2

section
variable {X : Cx}
/-- a pair goes into a new dict, its key a tuple -/
theorem put_T {pins : List (Addr × Obj)} {σ : L2.St} {H : Hp} {s : Shared} {E : Value → Shared → Prop} {D b : Addr} {kvs : List (List Key × V)} {ks : List Key} {v : V} {u r : Value} {Q : Unit → Shared → Prop} (hu : X.A.units + 1 < cLine) (I : Inv X pins σ H s) (hD : H D = some (.dT kvs)) (hz : kvs.length < sizeLine)
    (hb : H b = some (.tup (ks.map kV))) (ry : RelV (.ref b) u) (rv : RelV v r) (h : ∀ s', Inv X pins σ (upd H D (.dT (putK kvs ks v))) s' → Q () s') : wpAny (model X.prog X.w) X.A (dictSet D u r) Q E s := by
  cases (show u = Value.ref b from ry)
  obtain ⟨z, low, xs, rel, dd⟩ := dt_of I.hok hD
  have fit : (putK kvs ks v).length ≤ sizeLine := by have := length_putK kvs ks v; omega
  refine wpAny_dictSet_heap (hsz := by rw [← Paired.length rel]; exact z) (show X.A.units < cLine by omega) (key_of I.hok hb) dd fun h' dd' hs => h _ ?_
  obtain ⟨q, es, ep, g1, g2, g3, g4, _, g5⟩ := dd'
  refine d_write I (by rw [hD]; exact True.intro) hs ⟨q, g1⟩ ⟨fit, low, _, (rel.put ks hb rv).keeps fun c ys ec => ?_, q, es, ep, g1, g2, g3, g4, g5⟩
  rw [upd_ne (ne_of ec hD (fun z => nomatch z))]
  exact ec
/-- {k: v for target in iter}, the keys tuples: D the new dict -/
def tDcT (wi : TI) (g : TG) (tk tv : TE) (vs : List Nat) : TE := fun σ H Q => wi σ H fun J H1 => ∀ D, H1 D = none → ∃ W : Nat → Nat → Hp → Prop, (∃ m, W 0 m (upd H1 D (.dT []))) ∧ ∀ i m H, W i m H →
  (J.stop i H ∧ Q (.ref D) H) ∨ (J.go i H ∧ ∃ Nx : Hp → Prop, (∀ H', Nx H' → ∃ m', m' < m ∧ W (i + 1) m' H') ∧ ∀ x H', J.yld i H x H' → g x (wipe σ vs) H' fun σ2 H2 => wipe σ2 vs = wipe σ vs ∧
    tk σ2 H2 fun y H4 => tv σ2 H4 fun z H5 => ∃ kvs ks b, y = .ref b ∧ H5 b = some (.tup (ks.map kV)) ∧ H5 D = some (.dT kvs) ∧ kvs.length < sizeLine ∧ Nx (upd H5 D (.dT (putK kvs ks z))))
theorem pe_dcT {kx vx tg iter : Expr} {scope : Scope} {own : List (Str × Nat)} {pos : Pos} {wi : TI} {g : TG} {tk tv : TE} (hc : X.calm = true) (hu : X.A.units + 1 < cLine) (hN : X.N.Nodup) (hi : PI X tg iter wi) (ok : BlkOk X.N X.env.scope scope own)
    (hg : ∀ (s : Shared) (H : Hp) (C : Addr) (cl : List (Str × Addr)) (fp : List Addr), PG (X.blk s H scope (compEnvC scope cl C X.env) fp) tg g)
    (hk : ∀ (s : Shared) (H : Hp) (C : Addr) (cl : List (Str × Addr)) (fp : List Addr), PE (X.blk s H scope (compEnvC scope cl C X.env) fp) kx tk)
    (he : ∀ (s : Shared) (H : Hp) (C : Addr) (cl : List (Str × Addr)) (fp : List Addr), PE (X.blk s H scope (compEnvC scope cl C X.env) fp) vx tv) (hs : ∀ x, foldedSetIterable iter X.env x = pure x) :
    PE X (.DictComp kx vx [⟨tg, iter, [], 0⟩] scope pos) (tDcT wi g tk tv (own.map (·.2))) := by
  refine ⟨fun pins s σ H Q I h => ?_⟩
  rw [arm_eval_DictComp]
  have clo : ∀ y ∈ scope.names, y.2 = .free → ∃ c, X.env.cells.lookup y.1 = some c := fun y hy e => (ok.free y hy e).elim (fun k => I.ok.has _ (.inl k)) fun k => I.ok.has _ (.inr k)
  refine wpAny_comprehension_free (use := none) rfl hs (closure_ok clo) ok.kind (fun y hy e => by rw [ok.uniq y hy, e])
    (thn (hi.run pins s σ H _ I h) fun xv s1 hx => thn hx fun itv s2 h2 => ?_)
  obtain ⟨it, fp, tn, J, H2, rfl, I2, T, st2, f2, q⟩ := h2
  refine wpAny_newObj_type (newEnv_comp ?_)
  generalize hD : s2.heap.objs.size = D
  obtain ⟨W, ⟨m0, w0⟩, turn⟩ := q D (I2.hok.fresh (Nat.le_of_eq hD))
  -- the dict, still empty
  generalize hs3 : ({ s2 with heap := s2.heap.push { cls := .type "dict", data := .dict #[] } } : Shared) = s3
  have h3 : s3.heap = s2.heap.push { cls := .type "dict", data := .dict #[] } := by rw [← hs3]
  have I3 : Inv X pins σ (upd H2 D (.dT [])) s3 := by
    rw [← hs3]
    refine I2.laid (t' := s2.toks) (fun b o e => Heap.get?_push_of_some _ e) (Nat.le_of_eq hD) ?_
    rw [← hD]
    exact dt_empty s2.heap I2.big
  have f3 : ∀ b ∈ fp, FpOk X pins (upd H2 D (.dT [])) b ∧ b < s3.heap.objs.size := fun b hb => by
    obtain ⟨o, e, _⟩ := T.obj _ _ st2 b hb
    have hlt := Heap.lt_size e
    refine ⟨⟨?_, (f2 b hb).2⟩, by rw [h3, Heap.size_push]; exact Nat.lt_succ_of_lt hlt⟩
    rw [upd_ne (by rw [← hD]; exact Nat.ne_of_lt hlt)]
    exact (f2 b hb).1
  have st3 : tn 0 s3.heap := T.keep _ _ _ st2 fun b _ o e => by rw [h3]; exact Heap.get?_push_of_some _ e
  have I4 := block_start I3 ok hN f3
  have nfp : ∀ b ∈ fp, (upd H2 D (.dT [])) b = none := fun b hb => (f3 b hb).1.1
  have pg := hg s3 (upd H2 D (.dT [])) s3.heap.objs.size (cellsFrom (s3.heap.objs.size + 1) scope.names (cloFrom X.env.cells scope.names [])) fp
  have pk := hk s3 (upd H2 D (.dT [])) s3.heap.objs.size (cellsFrom (s3.heap.objs.size + 1) scope.names (cloFrom X.env.cells scope.names [])) fp
  have pe := he s3 (upd H2 D (.dT [])) s3.heap.objs.size (cellsFrom (s3.heap.objs.size + 1) scope.names (cloFrom X.env.cells scope.names [])) fp
  let done : Value → Shared → Prop := EP X pins σ Q
  show codeAny _ _ (.compStart (.DictComp kx vx [⟨tg, iter, [], 0⟩] scope pos) 0 (.ref it) (.ref D) (compEnvC scope (cellsFrom (s3.heap.objs.size + 1) scope.names (cloFrom X.env.cells scope.names [])) s3.heap.objs.size X.env)) (compPost (model X.prog X.w) X.A X.xe none done (.ref D) s3.heap.objs.size) { s3 with heap := pushCells (s3.heap.push { cls := .type "dict", data := .dict #[] }) scope.names }
  generalize hce : compEnvC scope (cellsFrom (s3.heap.objs.size + 1) scope.names (cloFrom X.env.cells scope.names [])) s3.heap.objs.size X.env = ce at I4 pg pk pe ⊢
  have cL : ce.locals = s3.heap.objs.size := by subst hce; rfl
  generalize hH3 : upd H2 D (.dT []) = H3 at I3 I4 pg pk pe w0 nfp f3
  generalize hs4 : ({ s3 with heap := pushCells (s3.heap.push { cls := .type "dict", data := .dict #[] }) scope.names } : Shared) = s4 at I4 ⊢
  have st4 : tn 0 s4.heap := T.keep _ _ _ st3 fun b _ o e => by rw [← hs4]; exact pushCells_keeps _ _ _ _ (Heap.get?_push_of_some _ e)
  have stat : ∀ {σ' : L2.St} {H' : Hp} {s' : Shared}, Inv (X.blk s3 H3 scope ce fp) [] σ' H' s' → (∀ b ∈ fp, H' b = none) → ∀ b ∈ fp, FpOk (X.blk s3 H3 scope ce fp) [] H' b := fun {σ' H' s'} I' hn b hb =>
    ⟨hn b hb, (I'.ok.exf b hb).1, I'.ok.exfs b hb, .inl hb, fun x c e => (I'.ok.exf b hb).2 x c e, fun p hp => absurd (show p ∈ ([] : List (Addr × Obj)) ++ [] from hp) (by simp)⟩
  have loop : codeAny (model X.prog X.w) X.A (.compLoop (.DictComp kx vx [⟨tg, iter, [], 0⟩] scope pos) 0 (.ref it) (.ref D) ce) (compPost (model X.prog X.w) X.A X.xe none done (.ref D) s3.heap.objs.size) s4 := by
    refine compLoop_anyD (fun n s' => ∃ i H', Inv (X.blk s3 H3 scope ce fp) [] (wipe σ (own.map (·.2))) H' s' ∧ tn i s'.heap ∧ (∀ b ∈ fp, H' b = none) ∧ W i n H') ?_ m0 ⟨0, H3, I4, st4, nfp, w0⟩
    rintro n s5 ⟨i, H5, I5, st5, n5, w5⟩
    rcases turn i n H5 w5 with ⟨stop, qq⟩ | ⟨go, Nx, hNx, step⟩
    · refine thnF (T.done (X.blk s3 H3 scope ce fp) rfl rfl rfl hc i [] s5 _ H5 (fun _ _ => False) I5 (stat I5 n5) st5 stop) fun r s6 ⟨hr, I6⟩ => ?_
      subst hr
      have I7 : Inv X pins σ H5 s6 := I3.call' (ch := fp) I6.os I6.base I6.hok I6.bare fun b hb => ⟨(f3 b hb).1.2.2.2.1, (f3 b hb).1.2.1, (f3 b hb).1.2.2.2.2.1, (f3 b hb).1.2.2.2.2.2⟩
      have nC : H5 s3.heap.objs.size = none := by
        have z : H5 ce.locals = none := I6.free
        rw [cL] at z
        exact z
      obtain ⟨mm, hn, _⟩ := I6.loc
      have hn : s6.heap.Ns ce.locals mm := hn
      rw [cL] at hn
      refine ⟨mm, hn, fun h'' sb => ?_⟩
      obtain ⟨k0, k1, k2, k3, k4, k5⟩ := I3.fpOk (Nat.le_refl _) nC
      exact ⟨.ref D, H5, I7.turned (t' := s6.toks) (fun b o hb e => (sb.2 b hb).trans e) k0 k1 k3 k4 k5, rfl, qq⟩
    · refine thnF (T.item (X.blk s3 H3 scope ce fp) rfl rfl rfl hc i [] s5 _ H5 (fun _ _ => False) I5 (stat I5 n5) st5 go) fun r s6 ⟨u, hr, h6⟩ => ?_
      subst hr
      refine thnF h6 fun _ s7 ⟨x, H7, I7, r7, y7, st7, n7⟩ => ?_
      refine thnF (pg.run _ s7 _ H7 x u _ (I7.pinned (stat I7 n7) (T.obj _ _ st7)) r7 (step x H7 y7)) fun _ s8 ⟨σ8, H8, I8, hw8, q8⟩ => ?_
      refine wpAny_tests_nil ?_
      show if true = true then _ else _
      simp only [if_true]
      refine thnF (pk.run _ s8 σ8 H8 _ I8 q8) fun z s10 ⟨yk, H10, I10, r10, q10⟩ => ?_
      refine thnF (pe.run _ s10 σ8 H10 _ I10 q10) fun z2 s11 ⟨yv, H11, I11, r11, kvs, ks, b, ek, hb, hD11, hz11, nx⟩ => ?_
      subst ek
      refine put_T (X := X.blk s3 H3 scope ce fp) hu I11 hD11 hz11 hb r10 r11 fun s12 I12 => ?_
      obtain ⟨m', hm, w'⟩ := hNx _ nx
      have pin' : ∀ b ∈ fp, ∀ o, s7.heap.get? b = some o → s12.heap.get? b = some o ∧ (upd H11 D (.dT (putK kvs ks yv))) b = none := fun b hb o e =>
        let z := I12.pin (b, o) (List.mem_append_right _ (List.mem_append_right _ (mem_pinsAt hb e)))
        ⟨z.1, z.2.1⟩
      have hl : (wipe σ (own.map (·.2))).length = σ8.length := by rw [← hw8, wipe_length]
      refine ⟨m', hm, i + 1, _, (I12.unpinned (pins := [])).weak hl (fun j v e => ?_), T.keep _ _ _ st7 fun b hb o e => (pin' b hb o e).1, fun b hb => ?_, w'⟩
      · rw [← hw8] at e
        exact (wipe_some e).1
      · obtain ⟨o, e, _⟩ := T.obj _ _ st7 b hb
        exact (pin' b hb o e).2
  exact codeAny_compStart_dict loop (T.self X.A 0 _ _ _ st4 loop)
end

/-! ### its length -/
def keyO (d : DD) : Option (List Int) := match d with
  | .tup zs => intsOf zs
  | _ => none
/-- the new dict's keys -/
def cnT (D : Addr) (_ : List Addr) (H : Hp) (acc : List DD) : Prop := ∃ (kvs : List (List Key × V)) (ms : List (List Int)), H D = some (.dT kvs) ∧ mapO keyO acc = some ms ∧ kvs.map (·.1) = ms.map fun ns => ns.map Sum.inl
theorem mapO_len {α β : Type} {f : α → Option β} : ∀ {l : List α} {m : List β}, mapO f l = some m → m.length = l.length
  | [], m, h => by cases h; rfl
  | a :: l, m, h => by
    obtain ⟨b, r, _, h2, rfl⟩ := mapO_cons h
    rw [List.length_cons, List.length_cons, mapO_len h2]
theorem mapO_snoc {α β : Type} {f : α → Option β} {a : α} {b : β} (ha : f a = some b) : ∀ {l : List α} {m : List β}, mapO f l = some m → mapO f (l ++ [a]) = some (m ++ [b])
  | [], m, h => by cases h; simp [mapO, ha]
  | c :: l, m, h => by
    obtain ⟨d, r, h1, h2, rfl⟩ := mapO_cons h
    have := mapO_snoc ha h2
    simp only [List.cons_append, mapO, h1, this, Option.map_some]
theorem cnT_stab {D : Addr} {A A' : List Addr} {H H' : Hp} {acc : List DD} (h : cnT D A H acc) (hn : D ∉ A) (e : Ext A H A' H') : cnT D A' H' acc := by
  obtain ⟨kvs, ms, h1, h2⟩ := h
  exact ⟨kvs, ms, e.keep D _ hn h1, h2⟩
theorem inl_inj : ∀ {a b : List Int}, a.map (Sum.inl : Int → Key) = b.map Sum.inl → a = b
  | [], [], _ => rfl
  | [], _ :: _, h => by simp at h
  | _ :: _, [], h => by simp at h
  | x :: a, y :: b, h => by
    simp only [List.map_cons, List.cons.injEq] at h
    rw [Sum.inl.inj h.1, inl_inj h.2]
theorem any_keys {kvs : List (List Key × V)} {ms : List (List Int)} {ns : List Int} (h : kvs.map (·.1) = ms.map fun ns => ns.map Sum.inl) : (kvs.any fun kv => decide (kv.1 = ns.map Sum.inl)) = ms.contains ns := by
  induction kvs generalizing ms with
  | nil => cases ms with
    | nil => rfl
    | cons _ _ => simp at h
  | cons p kvs ih =>
    cases ms with
    | nil => simp at h
    | cons m ms =>
      simp only [List.map_cons, List.cons.injEq] at h
      rw [List.any_cons, ih h.2, List.contains_cons, h.1]
      congr 1
      by_cases q : m = ns
      · subst q; simp
      · rw [decide_eq_false (fun z => q (inl_inj z))]
        exact (beq_eq_false_iff_ne.mpr (Ne.symm q)).symm
theorem put_same {kvs : List (List Key × V)} {ks : List Key} {v : V} (h : (kvs.any fun kv => decide (kv.1 = ks)) = true) : (putK kvs ks v).map (·.1) = kvs.map (·.1) := by
  unfold putK
  rw [if_pos h, List.map_map]
  refine List.map_congr_left fun x _ => ?_
  show (if x.1 = ks then (x.1, v) else x).1 = x.1
  split <;> rfl
theorem put_more {kvs : List (List Key × V)} {ks : List Key} {v : V} (h : (kvs.any fun kv => decide (kv.1 = ks)) = false) : (putK kvs ks v).map (·.1) = kvs.map (·.1) ++ [ks] := by
  unfold putK
  rw [h]
  simp
section
variable {F : FT} {k : Nat} {ca : Nat → Addr} {W : WX} {X : Cx}
theorem len_boot : bootBuiltins (Str.ofString "len") = some (.builtin "len") ∧ Str.ofString "len" ≠ Str.ofString "__name__" ∧ (Str.ofString "len" == Str.ofString "__debug__") = false := by decide +kernel
theorem keyL_ok {acc acc' : List DD} {y : DD} {S S' : Sto} (h : keyL acc y S = .ok acc' S') : ∃ xs ns ms, y = .tup xs ∧ intsOf xs = some ns ∧ mapO keyO acc = some ms ∧ S' = S ∧ acc.length < lenMax ∧ ((ms.contains ns = true ∧ acc' = acc) ∨ (ms.contains ns = false ∧ acc' = acc ++ [y])) := by
  cases y with
  | tup xs =>
    have h : (match intsOf xs, mapO keyO acc with
      | some ns, some ms => if xs.length ≤ 8 ∧ acc.length < lenMax then (if ms.contains ns = true then .ok acc S else addL acc (.tup xs) S) else .stuck
      | _, _ => .stuck) = R.ok acc' S' := h
    cases q1 : intsOf xs with
    | none => rw [q1] at h; cases h
    | some ns =>
      cases q2 : mapO keyO acc with
      | none => rw [q1, q2] at h; cases h
      | some ms =>
        rw [q1, q2] at h
        have h : (if xs.length ≤ 8 ∧ acc.length < lenMax then (if ms.contains ns = true then .ok acc S else addL acc (.tup xs) S) else .stuck) = R.ok acc' S' := h
        by_cases c : xs.length ≤ 8 ∧ acc.length < lenMax
        · rw [if_pos c] at h
          cases q3 : ms.contains ns with
          | true =>
            rw [q3] at h
            simp only [if_true] at h
            cases h
            exact ⟨xs, ns, ms, rfl, q1, rfl, rfl, c.2, .inl ⟨q3, rfl⟩⟩
          | false =>
            rw [q3] at h
            simp only [Bool.false_eq_true, if_false] at h
            obtain ⟨h1, rfl, rfl⟩ := addL_ok h
            exact ⟨xs, ns, ms, rfl, q1, rfl, rfl, h1, .inr ⟨q3, rfl⟩⟩
        · rw [if_neg c] at h; cases h
  | _ => cases h
theorem dln_read {K : PySem.W.Frag} {own : List (Str × Nat)} {it tv kx vx : VE} (hsub : ∀ i ∈ tgSlots tv, i ∈ own.map (·.2)) (σ : L2.St) (H : Hp) (Q : VK) (h : tE F k ca W (.dln own tv it kx vx) σ H Q) :
    tDcT (tI F k ca W K it) (tG F k tv) (tE F k ca W0 kx) (tE F k ca W0 vx) (own.map (·.2)) σ H fun x H' => rLenT [x] H' Q := by
  obtain ⟨Z, P, A, env, S, t, h⟩ := h
  refine rdE.mk t (post.bind h fun A1 H1 J j S1 e1 r1 dj h1 => fun D hD => ?_)
  have t1 := t.next e1 r1
  cases hrun : compL j (fun x acc S => ((asg F k none tv x (wipeE env (own.map (·.2))) S).bind fun env2 S => (ev F k none kx env2 S).bind fun y S => (ev F k none vx env2 S).bind fun _ S =>
        keyL acc y S).calm) fuelW 0 [] S1 with
  | stuck => rw [hrun] at h1; exact h1.elim
  | exc c x S' => exact (compL_exc (fun h => calm_exc h) hrun).elim
  | ok accE SE =>
    rw [hrun] at h1
    have h1 : post Z P (DenF Z) (wE ca (WE W σ)) A1 H1 (.ok (.int accE.length) SE) Q := h1
    refine comp_loop (K := K) (D := D) (Z := zD Z D) (P := P) (A1 := A1) (Cn := cnT D) zD_self (fun q hq => by have := t1.g.hP q hq; rw [r1.len]; exact this) (dj.mono fun _ _ h => den_new hD h) (r1.new_D hD) ⟨[], [], upd_same, rfl, rfl⟩ cnT_stab hrun ?_ ?_
    · intro A2 H2 e2 r2 ⟨kvs, ms, hu, hm, hk⟩
      refine ⟨D, kvs, rfl, hu, ?_⟩
      have hl : kvs.length = accE.length := by
        have := congrArg List.length hk
        simp only [List.length_map] at this
        rw [this, mapO_len hm]
      rw [hl]
      exact h1 A2 H2 _ (e2.back hD) r2.free_D (.int _)
    · intro A2 S2 H2 acc x d acc' S' Nx e2 r2 c2 dx hturn nx
      have hturn := calm_ok hturn
      obtain ⟨env2, S3, q1, hturn⟩ := bind_ok hturn
      obtain ⟨y, S4, q2, hturn⟩ := bind_ok hturn
      obtain ⟨y2, S5, q3, hturn⟩ := bind_ok hturn
      obtain ⟨xs, ns, ms, rfl, hns, hms, rfl, hacc, hcase⟩ := keyL_ok hturn
      have en : EnvR (zD Z D) A2 H2 (wipe σ (own.map (·.2))) (wipeE env (own.map (·.2))) := (e2.env zD_self (t1.en.new_D hD)).wipe _
      have hP2 : ∀ q, P q → q ≤ A2.length := fun q hq => by have := t1.g.hP q hq; have := e2.len; have := r1.len; omega
      refine ⟨zD Z D, P, A2, wipeE env (own.map (·.2)), S2, d, ⟨⟨r2, fun q hq => by rw [← r2.len]; exact hP2 q hq⟩, t.hk, en⟩, dx, ?_⟩
      rw [q1]
      intro A3 H3 σ2 e3 r3 dg
      refine ⟨wipe_eq dg.2.1 dg.2.2 hsub, zD Z D, P, A3, env2, S3, ⟨⟨r3, fun q hq => by rw [← r3.len]; exact Nat.le_trans (hP2 q hq) e3.len⟩, t.hk, dg.1⟩, ?_⟩
      rw [q2]
      intro A4 H4 yv e4 r4 dy
      have e24 := e3.trans e4
      refine ⟨zD Z D, P, A4, env2, S4, ⟨⟨r4, fun q hq => by rw [← r4.len]; exact Nat.le_trans (hP2 q hq) e24.len⟩, t.hk, dg.1.ext e4⟩, ?_⟩
      rw [q3]
      intro A5 H5 zv e5 r5 dz
      have e25 := e24.trans e5
      obtain ⟨kvs, ms', hu, hm, hk⟩ := cnT_stab c2 (r2.res D zD_self).2 e25
      rw [hms] at hm; cases hm
      cases dy with
      | @tup b us _ hf hb du =>
        have hus := ints_of hns du
        subst hus
        have hkv : (ns.map (Sum.inl : Int → Key)).map kV = ns.map V.int := by rw [List.map_map]; rfl
        have hl : kvs.length = acc.length := by
          have := congrArg List.length hk
          simp only [List.length_map] at this
          rw [this, mapO_len hms]
        have hlt : kvs.length < sizeLine := by
          have := lenMax_le; omega
        refine ⟨kvs, ns.map Sum.inl, b, rfl, by rw [hkv]; exact e5.keep b _ (fun q => hf (.inl q)) hb, hu, hlt, nx A5 _ ((e2.trans (.of e25)).trans (.at_D (by rw [hu]; simp))) (r5.at_D zD_self) ?_⟩
        rcases hcase with ⟨hc, rfl⟩ | ⟨hc, rfl⟩
        · exact ⟨_, ms, upd_same, hms, by rw [put_same (by rw [any_keys hk]; exact hc), hk]⟩
        · refine ⟨_, ms ++ [ns], upd_same, mapO_snoc (show keyO (.tup xs) = some ns from hns) hms, ?_⟩
          rw [put_more (by rw [any_keys hk]; exact hc), hk, List.map_append]
          rfl
theorem e_dln {g i kf vf : Expr} {sc : Scope} {own : List (Str × Nat)} {it tv kx vx : VE} {n : Nat} {p q pos : Pos} (hc : X.calm = true) (hr : Room n X.A) (hN : X.N.Nodup) (hg : Gl X (Str.ofString "len")) (hm : X.mg (Str.ofString "len") = none) (hsub : ∀ i ∈ tgSlots tv, i ∈ own.map (·.2))
    (hi : PI X g i (tI F k ca W X.K it)) (ok : BlkOk X.N X.env.scope sc own)
    (h1 : ∀ (s : Shared) (H : Hp) (C : Addr) (cl : List (Str × Addr)) (fp : List Addr), PG (X.blk s H sc (compEnvC sc cl C X.env) fp) g (tG F k tv))
    (h2 : ∀ (s : Shared) (H : Hp) (C : Addr) (cl : List (Str × Addr)) (fp : List Addr), PE (X.blk s H sc (compEnvC sc cl C X.env) fp) kf (tE F k ca W0 kx))
    (h3 : ∀ (s : Shared) (H : Hp) (C : Addr) (cl : List (Str × Addr)) (fp : List Addr), PE (X.blk s H sc (compEnvC sc cl C X.env) fp) vf (tE F k ca W0 vx)) (hs : isSet i = false) :
    PE X (.Call (.Name "len" p) [.DictComp kf vf [⟨g, i, [], 0⟩] sc q] [] pos) (tE F k ca W (.dln own tv it kx vx)) := by
  have hu := hr.un
  have m := pe_dcT (pos := q) hc (by omega) hN hi ok h1 h2 h3 (folded1 hs)
  exact pe_imp (pe_callB call_len_dT hg hm len_boot.1 (pa_cons m pa_nil rfl) len_boot.2.1 len_boot.2.2 rfl rfl) fun σ H Q h => dln_read hsub σ H Q h
end
end VI

set_option Elab.async false
set_option linter.all false
set_option maxRecDepth 100000
set_option maxHeartbeats 4000000
/-! VI, part 10: a checked expression is what its compact form is. -/
namespace VI
open PySem PySem.Spec PyProof.Rows L2

/-- the top's facts -/
structure Gm (T : Tab) (F : FT) (ca : Nat → Addr) (m : Nat) (X : Cx) : Prop where
  nums : ∀ x i, (x, i) ∈ T.nums → ∃ u, X.mg x = some u ∧ RelV (.int i) u
  txts : ∀ x i, (x, i) ∈ T.txts → ∃ u, X.mg x = some u ∧ RelV (.str i) u
  free : ∀ x, x ∈ T.free → X.mg x = none
  funs : ∀ (f : Nat) x ps, T.funs[f]? = some (x, ps) → ∃ fa fd, FnAt F ca m X f x ps fa fd ∧ ∀ np ks pm, (f, np, ks, pm) ∈ T.kws → KwAt X fd ps np ks pm
/-- where an expression is evaluated -/
structure EOk (T : Tab) (F : FT) (ca : Nat → Addr) (m : Nat) (X : Cx) (W : WX) (C : CC) : Prop where
  N : X.N = C.N
  sc : X.env.scope = C.sc
  fn : X.fn = C.fn
  nd : X.N.Nodup
  calm : X.calm = true
  room : Room m X.A
  tk : Takes X W
  gm : Gm T F ca m X
section
variable {T : Tab} {F : FT} {k m : Nat} {ca : Nat → Addr} {W : WX} {X : Cx} {C : CC}
theorem EOk.blk (o : EOk T F ca m X W C) (s : Shared) (H : Hp) (scope : Scope) (cl : List (Str × Addr)) (D : Addr) (fp : List Addr) : EOk T F ca m (X.blk s H scope (compEnvC scope cl D X.env) fp) W0 (inC C scope) where
  N := o.N
  sc := by
    show relS scope X.env.scope = relS scope C.sc
    rw [o.sc]
  fn := rfl
  nd := o.nd
  calm := o.calm
  room := o.room
  tk := takes0
  gm := ⟨o.gm.nums, o.gm.txts, o.gm.free, fun f x ps h => by
    obtain ⟨fa, fd, h1, h2⟩ := o.gm.funs f x ps h
    exact ⟨fa, fd, ⟨h1.mg, h1.keep, h1.bind, h1.ok⟩, h2⟩⟩
theorem EOk.at_ (o : EOk T F ca m X W C) {i : Nat} {x : Str} (h : C.N[i]? = some x) : X.N[i]? = some x := by rw [o.N]; exact h
theorem EOk.vis (o : EOk T F ca m X W C) {x : Str} (h : visB C.sc x = true) : Vis X.env.scope x := by
  rw [o.sc]
  unfold visB at h
  unfold Vis
  split at h <;> simp_all
theorem EOk.gl (o : EOk T F ca m X W C) {x : Str} (h : glB C.sc x = true) : Gl X x := by
  show X.env.scope.names.lookup x = _
  rw [o.sc]
  unfold glB at h
  split at h <;> simp_all
theorem EOk.loc (o : EOk T F ca m X W C) {x : Str} (h : locB C x = true) : L2.Loc X.env.scope x ∧ (X.fn x = true ∨ X.env.scope.names.lookup x = some .local) := by
  rw [o.sc, o.fn]
  unfold locB at h
  unfold L2.Loc
  split at h <;> simp_all
theorem okN_d {x : Str} (h : okN x = true) : (x == Str.ofString "__debug__") = false ∧ (x == Str.ofString "__classdict__") = false := by
  unfold okN at h
  simp only [Bool.and_eq_true, Bool.not_eq_true'] at h
  exact ⟨h.1, h.2.1⟩
theorem EOk.free1 (o : EOk T F ca m X W C) {x : Str} (h : free1 T C.sc x = true) : Gl X x ∧ X.mg x = none := by
  unfold VI.free1 at h
  simp only [Bool.and_eq_true] at h
  exact ⟨o.gl h.1, o.gm.free x (List.contains_iff_mem.mp h.2.1)⟩
theorem chkEs_stars : ∀ (ve : VE) {es : List Expr}, chkEs T ve C es = true → noStars es = true := by
  intro ve
  induction ve with
  | nil => intro es h; cases es with
    | nil => rfl
    | cons _ _ => exact absurd h (by simp [chkEs])
  | cons a r _ ih =>
    intro es h
    cases es with
    | nil => rfl
    | cons e es =>
      simp only [chkEs, Bool.and_eq_true] at h
      simp only [noStars, Bool.and_eq_true]
      exact ⟨h.1, ih h.2.2⟩
  | _ => intro es h; exact absurd h (by simp [chkEs])
theorem chkGs_stars : ∀ (ve : VE) {es : List Expr}, chkGs T ve C es = true → noStars es = true ∧ lenV ve = es.length := by
  intro ve
  induction ve with
  | nil => intro es h; cases es with
    | nil => exact ⟨rfl, rfl⟩
    | cons _ _ => exact absurd h (by simp [chkGs])
  | cons a r _ ih =>
    intro es h
    cases es with
    | nil => exact absurd h (by simp [chkGs])
    | cons e es =>
      simp only [chkGs, Bool.and_eq_true] at h
      obtain ⟨h1, h2⟩ := ih h.2.2
      refine ⟨?_, by show lenV r + 1 = es.length + 1; rw [h2]⟩
      simp only [noStars, Bool.and_eq_true]
      exact ⟨h.1, h1⟩
  | _ => intro es h; exact absurd h (by simp [chkGs])
theorem pt_pw {op : BoolOp} {es : List Expr} {pos : Pos} {t : TT} (p : PT X (.BoolOp op es pos) t) : PW X (.BoolOp op es pos) t := ⟨fun _ pins s σ H Q I h => p.run pins s σ H Q I h⟩
theorem pw_pt {e : Expr} {t : TT} (p : PW X e t) : PT X e t := ⟨fun pins s σ H Q I h => p.run _ pins s σ H Q I h⟩
theorem str_of {x : Str} {t : String} (h : x = Str.ofString t) : x = Str.ofString t := h
theorem tyB_ok (o : EOk T F ca m X W C) {t : String} {e : Expr} (h : tyB T C.sc t e = true) : TyN X t e := by
  unfold tyB at h
  split at h
  · simp only [Bool.and_eq_true, decide_eq_true_eq] at h
    obtain ⟨rfl, h1, h2, h3⟩ := h
    exact tyn_of (List.contains_iff_mem.mp h1) (o.gl h2) (o.gm.free _ (List.contains_iff_mem.mp h3))
  · cases h
theorem tysB_ok (o : EOk T F ca m X W C) : ∀ {ts : List String} {es : List Expr}, tysB T C.sc ts es = true → TyNs X ts es
  | [], [], _ => .nil
  | [], _ :: _, h => by cases h
  | _ :: _, [], h => by cases h
  | t :: ts, e :: es, h => by
    simp only [tysB, Bool.and_eq_true, Bool.not_eq_true'] at h
    exact .cons h.2.1 (tyB_ok o h.1) (tysB_ok o h.2.2)
theorem pts_imp {e : List Expr} {t t' : TT} (p : PTs X e t) (im : ∀ σ H Q, t' σ H Q → t σ H Q) : PTs X e t' := ⟨fun pins s σ H Q I h => p.run pins s σ H Q I (im σ H Q h)⟩
theorem tE_mono {ve : VE} {σ : L2.St} {H : Hp} {Q Q' : VK} (h : tE F k ca W ve σ H Q) (im : ∀ x H', Q x H' → Q' x H') : tE F k ca W ve σ H Q' := by
  obtain ⟨Z, P, A, env, S, t, h⟩ := h
  refine ⟨Z, P, A, env, S, t, ?_⟩
  cases q : ev F k none ve env S with
  | ok d S' => rw [q] at h; exact fun A' H' v e r dv => im _ _ (h A' H' v e r dv)
  | exc c d S' => rw [q] at h; exact h
  | stuck => rw [q] at h; exact h
variable {e f g : Expr}
/-- one form of a def's call, checked -/
theorem fun_of (o : EOk T F ca m X W C) {n : Nat} {x : Str} (h : (match T.funs[n]? with
      | some (y, ps) => decide (x = y)
      | none => false) = true) : ∃ ps fa fd, FnAt F ca m X n x ps fa fd ∧ ∀ np ks pm, (n, np, ks, pm) ∈ T.kws → KwAt X fd ps np ks pm := by
  split at h
  · rename_i y ps q
    simp only [decide_eq_true_eq] at h
    subst h
    obtain ⟨fa, fd, h1, h2⟩ := o.gm.funs n x ps q
    exact ⟨ps, fa, fd, h1, h2⟩
  · cases h
end
section
variable {T : Tab} {F : FT} {k m : Nat} {ca : Nat → Addr}
mutual
theorem sndE : ∀ (ve : VE) {X : Cx} {W : WX} {C : CC} {e : Expr}, EOk T F ca m X W C → chk T ve false C e = true → PE X e (tE F k ca W ve)
  | .loc i, X, W, C, e, o, h => by
    simp only [chk] at h
    split at h
    · simp only [Bool.and_eq_true, decide_eq_true_eq] at h
      exact e_loc (o.at_ h.1) (o.vis h.2.1) (okN_d h.2.2).1 (okN_d h.2.2).2
    · cases h
  | .non, X, W, C, e, o, h => by
    simp only [chk] at h
    split at h
    · exact e_non
    · cases h
  | .bl b, X, W, C, e, o, h => by
    simp only [chk] at h
    split at h
    · cases (beq_iff_eq.mp h); exact e_bl
    · cases h
  | .int i, X, W, C, e, o, h => by
    simp only [chk] at h
    split at h
    · simp only [decide_eq_true_eq] at h; subst h; exact e_int
    · cases h
  | .str i, X, W, C, e, o, h => by
    simp only [chk] at h
    split at h
    · simp only [decide_eq_true_eq] at h; subst h; exact e_str
    · cases h
  | .gint x i, X, W, C, e, o, h => by
    simp only [chk] at h
    split at h
    · simp only [Bool.and_eq_true, decide_eq_true_eq] at h
      obtain ⟨rfl, h1, h2, h3⟩ := h
      obtain ⟨u, h4, h5⟩ := o.gm.nums _ _ (List.contains_iff_mem.mp h3)
      exact e_gint (o.gl h1) h4 h5 (okN_d h2).1
    · cases h
  | .gstr x i, X, W, C, e, o, h => by
    simp only [chk] at h
    split at h
    · simp only [Bool.and_eq_true, decide_eq_true_eq] at h
      obtain ⟨rfl, h1, h2, h3⟩ := h
      obtain ⟨u, h4, h5⟩ := o.gm.txts _ _ (List.contains_iff_mem.mp h3)
      exact e_gstr (o.gl h1) h4 h5 (okN_d h2).1
    · cases h
  | .tup es, X, W, C, e, o, h => by
    simp only [chk] at h
    split at h
    · exact e_tup (sndEs es o h)
    · cases h
  | .lst c es, X, W, C, e, o, h => by
    simp only [chk] at h
    split at h
    · exact e_lst (sndEs es o h)
    · cases h
  | .emp, X, W, C, e, o, h => by
    simp only [chk] at h
    split at h
    · exact e_emp
    · cases h
  | .bin op c a b, X, W, C, e, o, h => by
    simp only [chk] at h
    split at h
    · simp only [Bool.and_eq_true, decide_eq_true_eq] at h
      obtain ⟨rfl, h1, h2⟩ := h
      exact e_bin op c (sndE a o h1) (sndE b o h2)
    · cases h
  | .neg a, X, W, C, e, o, h => by
    simp only [chk] at h
    split at h
    · exact e_neg (sndE a o h)
    · cases h
  | .cmp op a b, X, W, C, e, o, h => by
    simp only [chk] at h
    split at h
    · simp only [Bool.and_eq_true, decide_eq_true_eq, Bool.not_eq_true'] at h
      obtain ⟨rfl, h0, h1, h2⟩ := h
      exact e_cmp op o.room h0 (sndE a o h1) (sndE b o h2)
    · cases h
  | .chn op p a b c, X, W, C, e, o, h => by
    simp only [chk] at h
    split at h
    · simp only [Bool.and_eq_true, decide_eq_true_eq, Bool.not_eq_true'] at h
      obtain ⟨rfl, rfl, h0, h1, h2, h3⟩ := h
      exact e_chn op p o.room h0 (sndE a o h1) (sndE b o h2) (sndE c o h3)
    · cases h
  | .andv a b, X, W, C, e, o, h => by
    simp only [chk] at h
    split at h
    · simp only [Bool.and_eq_true] at h
      exact e_and (sndE a o h.1) (pe_one (sndE b o h.2))
    · simp only [Bool.and_eq_true] at h
      exact e_and (sndE a o h.1) (sndE b o h.2)
    · cases h
  | .orv a b, X, W, C, e, o, h => by
    simp only [chk] at h
    split at h
    · simp only [Bool.and_eq_true] at h
      exact e_or (sndE a o h.1) (pe_one (sndE b o h.2))
    · simp only [Bool.and_eq_true] at h
      exact e_or (sndE a o h.1) (sndE b o h.2)
    · cases h
  | .notv a, X, W, C, e, o, h => by
    simp only [chk] at h
    split at h
    · exact e_not (sndE a o h)
    · cases h
  | .itev t a b, X, W, C, e, o, h => by
    simp only [chk] at h
    split at h
    · simp only [Bool.and_eq_true] at h
      exact e_ite (sndT t o h.1) (sndE a o h.2.1) (sndE b o h.2.2)
    · cases h
  | .ix a i, X, W, C, e, o, h => by
    simp only [chk] at h
    split at h
    · simp only [Bool.and_eq_true, Bool.not_eq_true'] at h
      exact e_ix h.2.2 (sndE a o h.1) (sndE i o h.2.1)
    · cases h
  | .sl c a lo hi, X, W, C, e, o, h => by
    simp only [chk] at h
    split at h
    · simp only [Bool.and_eq_true] at h
      exact e_sl c (sndE a o h.1) (sndO lo o h.2.1) (sndO hi o h.2.2)
    · cases h
  | .call n es, X, W, C, e, o, h => by
    simp only [chk] at h
    split at h
    · simp only [Bool.and_eq_true] at h
      obtain ⟨h1, h2, h3, h4⟩ := h
      obtain ⟨ps, fa, fd, hf, _⟩ := fun_of o h3
      exact e_call o.room o.tk hf (o.gl h1) (okN_d h2).1 (chkEs_stars es h4) (sndEs es o h4)
    · cases h
  | .callk n es pm, X, W, C, e, o, h => by
    simp only [chk] at h
    split at h
    · simp only [Bool.and_eq_true] at h
      obtain ⟨h1, h2, h3, h4, h5, h6⟩ := h
      obtain ⟨ps, fa, fd, hf, hk⟩ := fun_of o h3
      have hk' := hk _ _ _ (List.contains_iff_mem.mp h4)
      obtain ⟨⟨t1, t2, p1, p2, p3, p4⟩, p5⟩ := sndKs es o h6
      rename_i gs kws pos
      cases gs with
      | nil =>
        obtain ⟨t2, q1, q2⟩ := p5 rfl
        exact e_callk0 o.room o.tk hf hk' (o.gl h1) (okN_d h2).1 h5 q1 fun σ H Q q => q2 σ H Q _ (fun ws H l z => ⟨l, z⟩) q
      | cons e0 gs => exact e_callk o.room o.tk hf hk' (o.gl h1) (okN_d h2).1 p3 h5 p1 p2 fun σ H Q q => p4 σ H Q (fun vs ws H => vs.length = _ ∧ ws.length = _ ∧ Q (vs ++ ws) H) (fun vs ws H l1 l2 z => ⟨l1, l2, z⟩) q
    · cases h
  | .bi n c es, X, W, C, e, o, h => by
    simp only [chk] at h
    split at h
    · simp only [Bool.and_eq_true, decide_eq_true_eq] at h
      obtain ⟨rfl, h1, h2⟩ := h
      exact e_bi n c o.calm (o.free1 h1).1 (o.free1 h1).2 (chkEs_stars es h2) (sndEs es o h2)
    · cases h
  | .isi a ts, X, W, C, e, o, h => by
    simp only [chk] at h
    split at h
    · simp only [Bool.and_eq_true, decide_eq_true_eq, Bool.not_eq_true'] at h
      obtain ⟨rfl, h1, h2, h3, h4, h5⟩ := h
      split at h5
      · exact e_isi1 (o.free1 h1).1 (o.free1 h1).2 h3 h4 (sndE a o h2) (tyB_ok o h5)
      · simp only [Bool.and_eq_true, decide_eq_true_eq] at h5
        exact e_isiT (o.free1 h1).1 (o.free1 h1).2 h3 h5.1 (sndE a o h2) (tysB_ok o h5.2)
      · cases h5
    · cases h
  | .mt n a es, X, W, C, e, o, h => by
    simp only [chk] at h
    split at h
    · simp only [Bool.and_eq_true, decide_eq_true_eq, Bool.not_eq_true'] at h
      obtain ⟨rfl, h1, h2, h3, h4, h5⟩ := h
      refine e_mt n h2 h3 h4 (fun q => ?_) (chkEs_stars es h5) (sndE a o h1) (sndEs es o h5)
      subst q
      cases es <;> first | rfl | (simp [chkEs] at h5)
    · cases h
  | .lc c own tg it ifs elt, X, W, C, e, o, h => by
    simp only [chk] at h
    split at h
    · rename_i f g i cs sc pos
      simp only [Bool.and_eq_true, Bool.not_eq_true'] at h
      obtain ⟨h1, h2, h3, h4, h5, h6, h7⟩ := h
      rw [← o.N, ← o.sc] at h1
      refine pe_imp (pe_lc o.calm o.nd (sndI it o h3) (blkOk_by h1) (fun s H D cl fp => sndG tg (o.blk s H sc cl D fp) h5) (fun s H D cl fp => ?_) (fun s H D cl fp => sndE elt (o.blk s H sc cl D fp) h7) (folded1 h2)) (lc_read fun i hi => List.contains_iff_mem.mp (List.all_eq_true.mp h4 i hi))
      split at h6
      · cases ifs <;> first | (simp [isNil] at h6; done) | skip
        exact (pts_imp pts_nil fun σ H Q ⟨Z, P, A, env, S, t, h⟩ => here_ok (v := true) t.g.rel rfl h)
      · exact pts_one (sndT ifs (o.blk s H sc cl D fp) h6)
      · cases h6
    · cases h
  | .lc2 c own own2 tg it tg2 it2 ifs elt, X, W, C, e, o, h => by
    simp only [chk] at h
    split at h
    · rename_i f g i g2 i2 cs sc pos
      simp only [Bool.and_eq_true, Bool.not_eq_true'] at h
      obtain ⟨h1, h2, h3, h4, h5, h6, h7, h8, h9, h10, h11, h12⟩ := h
      rw [← o.N, ← o.sc] at h1
      refine pe_imp (pe_lc2 o.calm o.nd (sndI it o h3) (blkOk_by h1) (fun i hi => List.contains_iff_mem.mp (List.all_eq_true.mp h5 i hi)) (fun s H D cl fp => sndG tg (o.blk s H sc cl D fp) h7) (fun s H D cl fp => pts_nil) (fun s H D cl fp => sndI it2 (o.blk s H sc cl D fp) h9) (fun s H D cl fp => sndG tg2 (o.blk s H sc cl D fp) h10) (fun s H D cl fp => ?_) (fun s H D cl fp => sndE elt (o.blk s H sc cl D fp) h12) (folded1 h2) (fun env => folded1 h8))
        (lc2_read (fun i hi => List.contains_iff_mem.mp (List.all_eq_true.mp h4 i hi)) (fun i hi => List.contains_iff_mem.mp (List.all_eq_true.mp h6 i hi)))
      split at h11
      · cases ifs <;> first | (simp [isNil] at h11; done) | skip
        exact (pts_imp pts_nil fun σ H Q ⟨Z, P, A, env, S, t, h⟩ => here_ok (v := true) t.g.rel rfl h)
      · exact pts_one (sndT ifs (o.blk s H sc cl D fp) h11)
      · cases h11
    · cases h
  | .dln own tg it kx vx, X, W, C, e, o, h => by
    simp only [chk] at h
    split at h
    · rename_i x p kf vf g i sc q pos
      simp only [Bool.and_eq_true, decide_eq_true_eq, Bool.not_eq_true'] at h
      obtain ⟨rfl, h0, h1, h2, h3, h4, h5, h6, h7⟩ := h
      rw [← o.N, ← o.sc] at h1
      exact e_dln o.calm o.room o.nd (o.free1 h0).1 (o.free1 h0).2 (fun i hi => List.contains_iff_mem.mp (List.all_eq_true.mp h4 i hi)) (sndI it o h3) (blkOk_by h1) (fun s H D cl fp => sndG tg (o.blk s H sc cl D fp) h5) (fun s H D cl fp => sndE kx (o.blk s H sc cl D fp) h6) (fun s H D cl fp => sndE vx (o.blk s H sc cl D fp) h7) h2
    · cases h
  | .given, _, _, _, _, _, h => absurd h (by simp [chk])
  | .nil, _, _, _, _, _, h => absurd h (by simp [chk])
  | .cons _ _, _, _, _, _, _, h => absurd h (by simp [chk])
  | .tloc _, _, _, _, _, _, h => absurd h (by simp [chk])
  | .ttup _, _, _, _, _, _, h => absurd h (by simp [chk])
  | .tsub _ _, _, _, _, _, _, h => absurd h (by simp [chk])
  | .iseq _, _, _, _, _, _, h => absurd h (by simp [chk])
  | .irg1 _, _, _, _, _, _, h => absurd h (by simp [chk])
  | .irg2 _ _, _, _, _, _, _, h => absurd h (by simp [chk])
  | .irg3 _ _ _, _, _, _, _, _, h => absurd h (by simp [chk])
  | .ienm _, _, _, _, _, _, h => absurd h (by simp [chk])
  | .izip _ _, _, _, _, _, _, h => absurd h (by simp [chk])
theorem sndT : ∀ (ve : VE) {X : Cx} {W : WX} {C : CC} {e : Expr}, EOk T F ca m X W C → chk T ve true C e = true → PT X e (tT F k ca W ve)
  | .loc i, X, W, C, e, o, h => by
    simp only [chk] at h
    split at h
    · simp only [Bool.and_eq_true, decide_eq_true_eq] at h
      exact t_loc (o.at_ h.1) (o.vis h.2.1) (okN_d h.2.2).1 (okN_d h.2.2).2
    · cases h
  | .bl b, X, W, C, e, o, h => by
    simp only [chk] at h
    split at h
    · cases (beq_iff_eq.mp h); exact t_bl
    · cases h
  | .cmp op a b, X, W, C, e, o, h => by
    simp only [chk] at h
    split at h
    · simp only [Bool.and_eq_true, decide_eq_true_eq, Bool.not_eq_true'] at h
      obtain ⟨rfl, h0, h1, h2⟩ := h
      exact t_cmp op o.room h0 (sndE a o h1) (sndE b o h2)
    · cases h
  | .chn op p a b c, X, W, C, e, o, h => by
    simp only [chk] at h
    split at h
    · simp only [Bool.and_eq_true, decide_eq_true_eq, Bool.not_eq_true'] at h
      obtain ⟨rfl, rfl, h0, h1, h2, h3⟩ := h
      exact t_chn op p o.room h0 (sndE a o h1) (sndE b o h2) (sndE c o h3)
    · cases h
  | .andv a b, X, W, C, e, o, h => by
    simp only [chk] at h
    split at h
    · simp only [Bool.and_eq_true] at h
      exact pw_pt (w_and (sndT a o h.1) (pw_and1 (sndT b o h.2)))
    · simp only [Bool.and_eq_true] at h
      exact pw_pt (w_and (sndT a o h.1) (pt_pw (sndT b o h.2)))
    · cases h
  | .orv a b, X, W, C, e, o, h => by
    simp only [chk] at h
    split at h
    · simp only [Bool.and_eq_true] at h
      exact pw_pt (w_or (sndT a o h.1) (pw_or1 (sndT b o h.2)))
    · simp only [Bool.and_eq_true] at h
      exact pw_pt (w_or (sndT a o h.1) (pt_pw (sndT b o h.2)))
    · cases h
  | .notv a, X, W, C, e, o, h => by
    simp only [chk] at h
    split at h
    · exact t_not (sndT a o h)
    · cases h
  | .ix a i, X, W, C, e, o, h => by
    simp only [chk] at h
    split at h
    · simp only [Bool.and_eq_true, Bool.not_eq_true'] at h
      exact t_ix h.2.2 (sndE a o h.1) (sndE i o h.2.1)
    · cases h
  | .call n es, X, W, C, e, o, h => by
    simp only [chk] at h
    split at h
    · simp only [Bool.and_eq_true] at h
      obtain ⟨h1, h2, h3, h4⟩ := h
      obtain ⟨ps, fa, fd, hf, _⟩ := fun_of o h3
      exact t_call o.room o.tk hf (o.gl h1) (okN_d h2).1 (chkEs_stars es h4) (sndEs es o h4)
    · cases h
  | .callk n es pm, X, W, C, e, o, h => by
    simp only [chk] at h
    split at h
    · simp only [Bool.and_eq_true] at h
      obtain ⟨h1, h2, h3, h4, h5, h6⟩ := h
      obtain ⟨ps, fa, fd, hf, hk⟩ := fun_of o h3
      have hk' := hk _ _ _ (List.contains_iff_mem.mp h4)
      obtain ⟨⟨t1, t2, p1, p2, p3, p4⟩, p5⟩ := sndKs es o h6
      rename_i gs kws pos
      cases gs with
      | nil =>
        obtain ⟨t2, q1, q2⟩ := p5 rfl
        exact t_callk (e_callk0 o.room o.tk hf hk' (o.gl h1) (okN_d h2).1 h5 q1 fun σ H Q q => q2 σ H Q _ (fun ws H l z => ⟨l, z⟩) q)
      | cons e0 gs => exact t_callk (e_callk o.room o.tk hf hk' (o.gl h1) (okN_d h2).1 p3 h5 p1 p2 fun σ H Q q => p4 σ H Q (fun vs ws H => vs.length = _ ∧ ws.length = _ ∧ Q (vs ++ ws) H) (fun vs ws H l1 l2 z => ⟨l1, l2, z⟩) q)
    · cases h
  | .bi n c es, X, W, C, e, o, h => by
    simp only [chk] at h
    split at h
    · simp only [Bool.and_eq_true, decide_eq_true_eq] at h
      obtain ⟨rfl, h1, h2⟩ := h
      exact t_bi n c o.calm (o.free1 h1).1 (o.free1 h1).2 (chkEs_stars es h2) (sndEs es o h2)
    · cases h
  | .isi a ts, X, W, C, e, o, h => by
    simp only [chk] at h
    split at h
    · simp only [Bool.and_eq_true, decide_eq_true_eq, Bool.not_eq_true'] at h
      obtain ⟨rfl, h1, h2, h3, h4, h5⟩ := h
      split at h5
      · exact t_of rfl (e_isi1 (o.free1 h1).1 (o.free1 h1).2 h3 h4 (sndE a o h2) (tyB_ok o h5)) t_isi0
      · simp only [Bool.and_eq_true, decide_eq_true_eq] at h5
        exact t_of rfl (e_isiT (o.free1 h1).1 (o.free1 h1).2 h3 h5.1 (sndE a o h2) (tysB_ok o h5.2)) t_isi0
      · cases h5
    · cases h
  | .non, _, _, _, _, _, _ => pt_false fun σ H Q ⟨_, _, _, _, _, _, h⟩ => h
  | .int _, _, _, _, _, _, _ => pt_false fun σ H Q ⟨_, _, _, _, _, _, h⟩ => h
  | .str _, _, _, _, _, _, _ => pt_false fun σ H Q ⟨_, _, _, _, _, _, h⟩ => h
  | .gint _ _, _, _, _, _, _, _ => pt_false fun σ H Q ⟨_, _, _, _, _, _, h⟩ => h
  | .gstr _ _, _, _, _, _, _, _ => pt_false fun σ H Q ⟨_, _, _, _, _, _, h⟩ => h
  | .tup _, _, _, _, _, _, _ => pt_false fun σ H Q ⟨_, _, _, _, _, _, h⟩ => h
  | .lst _ _, _, _, _, _, _, _ => pt_false fun σ H Q ⟨_, _, _, _, _, _, h⟩ => h
  | .emp, _, _, _, _, _, _ => pt_false fun σ H Q ⟨_, _, _, _, _, _, h⟩ => h
  | .bin _ _ _ _, _, _, _, _, _, _ => pt_false fun σ H Q ⟨_, _, _, _, _, _, h⟩ => h
  | .neg _, _, _, _, _, _, _ => pt_false fun σ H Q ⟨_, _, _, _, _, _, h⟩ => h
  | .itev _ _ _, _, _, _, _, _, _ => pt_false fun σ H Q ⟨_, _, _, _, _, _, h⟩ => h
  | .sl _ _ _ _, _, _, _, _, _, _ => pt_false fun σ H Q ⟨_, _, _, _, _, _, h⟩ => h
  | .mt _ _ _, _, _, _, _, _, _ => pt_false fun σ H Q ⟨_, _, _, _, _, _, h⟩ => h
  | .lc _ _ _ _ _ _, _, _, _, _, _, _ => pt_false fun σ H Q ⟨_, _, _, _, _, _, h⟩ => h
  | .lc2 _ _ _ _ _ _ _ _ _, _, _, _, _, _, _ => pt_false fun σ H Q ⟨_, _, _, _, _, _, h⟩ => h
  | .dln _ _ _ _ _, _, _, _, _, _, _ => pt_false fun σ H Q ⟨_, _, _, _, _, _, h⟩ => h
  | .given, _, _, _, _, _, _ => pt_false fun σ H Q ⟨_, _, _, _, _, _, h⟩ => h
  | .cons _ _, _, _, _, _, _, _ => pt_false fun σ H Q ⟨_, _, _, _, _, _, h⟩ => h
  | .tloc _, _, _, _, _, _, _ => pt_false fun σ H Q ⟨_, _, _, _, _, _, h⟩ => h
  | .ttup _, _, _, _, _, _, _ => pt_false fun σ H Q ⟨_, _, _, _, _, _, h⟩ => h
  | .tsub _ _, _, _, _, _, _, _ => pt_false fun σ H Q ⟨_, _, _, _, _, _, h⟩ => h
  | .iseq _, _, _, _, _, _, _ => pt_false fun σ H Q ⟨_, _, _, _, _, _, h⟩ => h
  | .irg1 _, _, _, _, _, _, _ => pt_false fun σ H Q ⟨_, _, _, _, _, _, h⟩ => h
  | .irg2 _ _, _, _, _, _, _, _ => pt_false fun σ H Q ⟨_, _, _, _, _, _, h⟩ => h
  | .irg3 _ _ _, _, _, _, _, _, _ => pt_false fun σ H Q ⟨_, _, _, _, _, _, h⟩ => h
  | .ienm _, _, _, _, _, _, _ => pt_false fun σ H Q ⟨_, _, _, _, _, _, h⟩ => h
  | .izip _ _, _, _, _, _, _, _ => pt_false fun σ H Q ⟨_, _, _, _, _, _, h⟩ => h
  | .nil, _, _, _, _, _, h => absurd h (by simp [chk])
theorem sndEs : ∀ (ve : VE) {X : Cx} {W : WX} {C : CC} {es : List Expr}, EOk T F ca m X W C → chkEs T ve C es = true → PA X es (tA F k ca W ve)
  | .nil, X, W, C, es, o, h => by
    cases es with
    | nil => exact a_nil
    | cons _ _ => exact absurd h (by simp [chkEs])
  | .cons a r, X, W, C, es, o, h => by
    cases es with
    | nil => exact absurd h (by simp [chkEs])
    | cons e es =>
      simp only [chkEs, Bool.and_eq_true, Bool.not_eq_true'] at h
      exact a_cons h.1 (sndE a o h.2.1) (sndEs r o h.2.2)
  | .loc _, _, _, _, _, _, h => absurd h (by simp [chkEs])
  | .non, _, _, _, _, _, h => absurd h (by simp [chkEs])
  | .bl _, _, _, _, _, _, h => absurd h (by simp [chkEs])
  | .int _, _, _, _, _, _, h => absurd h (by simp [chkEs])
  | .str _, _, _, _, _, _, h => absurd h (by simp [chkEs])
  | .gint _ _, _, _, _, _, _, h => absurd h (by simp [chkEs])
  | .gstr _ _, _, _, _, _, _, h => absurd h (by simp [chkEs])
  | .tup _, _, _, _, _, _, h => absurd h (by simp [chkEs])
  | .lst _ _, _, _, _, _, _, h => absurd h (by simp [chkEs])
  | .emp, _, _, _, _, _, h => absurd h (by simp [chkEs])
  | .bin _ _ _ _, _, _, _, _, _, h => absurd h (by simp [chkEs])
  | .neg _, _, _, _, _, _, h => absurd h (by simp [chkEs])
  | .cmp _ _ _, _, _, _, _, _, h => absurd h (by simp [chkEs])
  | .chn _ _ _ _ _, _, _, _, _, _, h => absurd h (by simp [chkEs])
  | .andv _ _, _, _, _, _, _, h => absurd h (by simp [chkEs])
  | .orv _ _, _, _, _, _, _, h => absurd h (by simp [chkEs])
  | .notv _, _, _, _, _, _, h => absurd h (by simp [chkEs])
  | .itev _ _ _, _, _, _, _, _, h => absurd h (by simp [chkEs])
  | .ix _ _, _, _, _, _, _, h => absurd h (by simp [chkEs])
  | .sl _ _ _ _, _, _, _, _, _, h => absurd h (by simp [chkEs])
  | .call _ _, _, _, _, _, _, h => absurd h (by simp [chkEs])
  | .callk _ _ _, _, _, _, _, _, h => absurd h (by simp [chkEs])
  | .bi _ _ _, _, _, _, _, _, h => absurd h (by simp [chkEs])
  | .isi _ _, _, _, _, _, _, h => absurd h (by simp [chkEs])
  | .mt _ _ _, _, _, _, _, _, h => absurd h (by simp [chkEs])
  | .lc _ _ _ _ _ _, _, _, _, _, _, h => absurd h (by simp [chkEs])
  | .lc2 _ _ _ _ _ _ _ _ _, _, _, _, _, _, h => absurd h (by simp [chkEs])
  | .dln _ _ _ _ _, _, _, _, _, _, h => absurd h (by simp [chkEs])
  | .given, _, _, _, _, _, h => absurd h (by simp [chkEs])
  | .tloc _, _, _, _, _, _, h => absurd h (by simp [chkEs])
  | .ttup _, _, _, _, _, _, h => absurd h (by simp [chkEs])
  | .tsub _ _, _, _, _, _, _, h => absurd h (by simp [chkEs])
  | .iseq _, _, _, _, _, _, h => absurd h (by simp [chkEs])
  | .irg1 _, _, _, _, _, _, h => absurd h (by simp [chkEs])
  | .irg2 _ _, _, _, _, _, _, h => absurd h (by simp [chkEs])
  | .irg3 _ _ _, _, _, _, _, _, h => absurd h (by simp [chkEs])
  | .ienm _, _, _, _, _, _, h => absurd h (by simp [chkEs])
  | .izip _ _, _, _, _, _, _, h => absurd h (by simp [chkEs])
theorem sndKs : ∀ (ve : VE) {X : Cx} {W : WX} {C : CC} {es : List Expr} {kws : List Keyword}, EOk T F ca m X W C → chkKs T ve C es kws = true →
    (∃ t1 t2, PA X es t1 ∧ PK X kws t2 ∧ noStars es = true ∧ ∀ σ H (Q0 : List V → Hp → Prop) (Q : List V → List V → Hp → Prop), (∀ vs ws H, vs.length = es.length → ws.length = kws.length → Q0 (vs ++ ws) H → Q vs ws H) → tA F k ca W ve σ H Q0 → t1 σ H fun vs H1 => t2 σ H1 fun ws H2 => Q vs ws H2) ∧
    (es = [] → ∃ t2, PK X kws t2 ∧ ∀ σ H (Q0 Q : List V → Hp → Prop), (∀ ws H, ws.length = kws.length → Q0 ws H → Q ws H) → tA F k ca W ve σ H Q0 → t2 σ H Q)
  | .nil, X, W, C, es, kws, o, h => by
    cases es with
    | cons _ _ => exact absurd h (by simp [chkKs])
    | nil =>
      cases kws with
      | cons _ _ => exact absurd h (by simp [chkKs])
      | nil =>
        have rd : ∀ σ H Q, tA F k ca W .nil σ H Q → Q [] H := fun σ H Q ⟨Z, P, A, env, S, t, h⟩ => here_ok t.g.rel DenL.nil h
        exact ⟨⟨tNil, tNil, pa_nil, pk_nil, rfl, fun σ H Q0 Q im q => im [] [] H rfl rfl (rd σ H Q0 q)⟩, fun _ => ⟨tNil, pk_nil, fun σ H Q0 Q im q => im [] H rfl (rd σ H Q0 q)⟩⟩
  | .cons a r, X, W, C, es, kws, o, h => by
    have rd : ∀ σ H Q, tA F k ca W (.cons a r) σ H Q → tE F k ca W a σ H fun x H1 => tA F k ca W r σ H1 fun xs H2 => Q (x :: xs) H2 := fun σ H Q ⟨Z, P, A, env, S, t, h⟩ =>
      rdE.mk t (post.bind h fun A1 H1 x d S1 e1 r1 dx h1 => rdE.mk (t.next e1 r1) (post.bind h1 fun A2 H2 xs ds S2 e2 r2 dxs h2 => here_ok r2 (DenL.cons (e2.denF dx) dxs) h2))
    cases es with
    | cons e es =>
      simp only [chkKs, Bool.and_eq_true, Bool.not_eq_true'] at h
      obtain ⟨⟨t1, t2, p1, p2, p3, p4⟩, _⟩ := sndKs r o h.2.2
      have pa := sndE a o h.2.1
      refine ⟨⟨tCons (tE F k ca W a) t1, t2, pa_cons pa p1 (star1 h.1), p2, by simp [noStars, h.1, p3], fun σ H Q0 Q im q => ?_⟩, fun q => by cases q⟩
      exact tE_mono (rd σ H Q0 q) fun x H1 q1 => p4 σ H1 _ (fun vs ws H => Q (x :: vs) ws H) (fun vs ws H l1 l2 z => im (x :: vs) ws H (by simp [l1]) l2 z) q1
    | nil =>
      cases kws with
      | nil => exact absurd h (by simp [chkKs])
      | cons w kws =>
        obtain ⟨nm, e, wp⟩ := w
        simp only [chkKs, Bool.and_eq_true] at h
        obtain ⟨_, p5⟩ := sndKs r o h.2
        obtain ⟨t2, q1, q2⟩ := p5 rfl
        have pa := sndE a o h.1
        have main : ∀ σ H (Q0 Q : List V → Hp → Prop), (∀ ws H, ws.length = (⟨nm, e, wp⟩ :: kws : List Keyword).length → Q0 ws H → Q ws H) → tA F k ca W (.cons a r) σ H Q0 → tCons (tE F k ca W a) t2 σ H Q := fun σ H Q0 Q im q =>
          tE_mono (rd σ H Q0 q) fun x H1 z => q2 σ H1 _ (fun ws H => Q (x :: ws) H) (fun ws H l z => im (x :: ws) H (by simp [l]) z) z
        refine ⟨⟨tNil, tCons (tE F k ca W a) t2, pa_nil, pk_cons pa q1, rfl, fun σ H Q0 Q im q => ?_⟩, fun _ => ⟨tCons (tE F k ca W a) t2, pk_cons pa q1, main⟩⟩
        exact main σ H Q0 (fun ws H => Q [] ws H) (fun ws H l z => im [] ws H rfl l z) q
  | .loc _, _, _, _, _, _, _, h => absurd h (by simp [chkKs])
  | .non, _, _, _, _, _, _, h => absurd h (by simp [chkKs])
  | .bl _, _, _, _, _, _, _, h => absurd h (by simp [chkKs])
  | .int _, _, _, _, _, _, _, h => absurd h (by simp [chkKs])
  | .str _, _, _, _, _, _, _, h => absurd h (by simp [chkKs])
  | .gint _ _, _, _, _, _, _, _, h => absurd h (by simp [chkKs])
  | .gstr _ _, _, _, _, _, _, _, h => absurd h (by simp [chkKs])
  | .tup _, _, _, _, _, _, _, h => absurd h (by simp [chkKs])
  | .lst _ _, _, _, _, _, _, _, h => absurd h (by simp [chkKs])
  | .emp, _, _, _, _, _, _, h => absurd h (by simp [chkKs])
  | .bin _ _ _ _, _, _, _, _, _, _, h => absurd h (by simp [chkKs])
  | .neg _, _, _, _, _, _, _, h => absurd h (by simp [chkKs])
  | .cmp _ _ _, _, _, _, _, _, _, h => absurd h (by simp [chkKs])
  | .chn _ _ _ _ _, _, _, _, _, _, _, h => absurd h (by simp [chkKs])
  | .andv _ _, _, _, _, _, _, _, h => absurd h (by simp [chkKs])
  | .orv _ _, _, _, _, _, _, _, h => absurd h (by simp [chkKs])
  | .notv _, _, _, _, _, _, _, h => absurd h (by simp [chkKs])
  | .itev _ _ _, _, _, _, _, _, _, h => absurd h (by simp [chkKs])
  | .ix _ _, _, _, _, _, _, _, h => absurd h (by simp [chkKs])
  | .sl _ _ _ _, _, _, _, _, _, _, h => absurd h (by simp [chkKs])
  | .call _ _, _, _, _, _, _, _, h => absurd h (by simp [chkKs])
  | .callk _ _ _, _, _, _, _, _, _, h => absurd h (by simp [chkKs])
  | .bi _ _ _, _, _, _, _, _, _, h => absurd h (by simp [chkKs])
  | .isi _ _, _, _, _, _, _, _, h => absurd h (by simp [chkKs])
  | .mt _ _ _, _, _, _, _, _, _, h => absurd h (by simp [chkKs])
  | .lc _ _ _ _ _ _, _, _, _, _, _, _, h => absurd h (by simp [chkKs])
  | .lc2 _ _ _ _ _ _ _ _ _, _, _, _, _, _, _, h => absurd h (by simp [chkKs])
  | .dln _ _ _ _ _, _, _, _, _, _, _, h => absurd h (by simp [chkKs])
  | .given, _, _, _, _, _, _, h => absurd h (by simp [chkKs])
  | .tloc _, _, _, _, _, _, _, h => absurd h (by simp [chkKs])
  | .ttup _, _, _, _, _, _, _, h => absurd h (by simp [chkKs])
  | .tsub _ _, _, _, _, _, _, _, h => absurd h (by simp [chkKs])
  | .iseq _, _, _, _, _, _, _, h => absurd h (by simp [chkKs])
  | .irg1 _, _, _, _, _, _, _, h => absurd h (by simp [chkKs])
  | .irg2 _ _, _, _, _, _, _, _, h => absurd h (by simp [chkKs])
  | .irg3 _ _ _, _, _, _, _, _, _, h => absurd h (by simp [chkKs])
  | .ienm _, _, _, _, _, _, _, h => absurd h (by simp [chkKs])
  | .izip _ _, _, _, _, _, _, _, h => absurd h (by simp [chkKs])
theorem sndO : ∀ (ve : VE) {X : Cx} {W : WX} {C : CC} {e : Option Expr}, EOk T F ca m X W C → chkO T ve C e = true → PO X e (tO F k ca W ve)
  | .nil, X, W, C, e, o, h => by
    cases e with
    | none => exact o_nil
    | some _ => exact absurd h (by simp [chkO])
  | .cons a r, X, W, C, e, o, h => by
    cases e with
    | none => exact absurd h (by simp [chkO])
    | some e =>
      simp only [chkO, Bool.and_eq_true] at h
      have hr : r = .nil := by
        have := h.2
        cases r <;> first | rfl | (cases this)
      subst hr
      exact o_one (sndE a o h.1)
  | .loc _, _, _, _, _, _, h => absurd h (by simp [chkO])
  | .non, _, _, _, _, _, h => absurd h (by simp [chkO])
  | .bl _, _, _, _, _, _, h => absurd h (by simp [chkO])
  | .int _, _, _, _, _, _, h => absurd h (by simp [chkO])
  | .str _, _, _, _, _, _, h => absurd h (by simp [chkO])
  | .gint _ _, _, _, _, _, _, h => absurd h (by simp [chkO])
  | .gstr _ _, _, _, _, _, _, h => absurd h (by simp [chkO])
  | .tup _, _, _, _, _, _, h => absurd h (by simp [chkO])
  | .lst _ _, _, _, _, _, _, h => absurd h (by simp [chkO])
  | .emp, _, _, _, _, _, h => absurd h (by simp [chkO])
  | .bin _ _ _ _, _, _, _, _, _, h => absurd h (by simp [chkO])
  | .neg _, _, _, _, _, _, h => absurd h (by simp [chkO])
  | .cmp _ _ _, _, _, _, _, _, h => absurd h (by simp [chkO])
  | .chn _ _ _ _ _, _, _, _, _, _, h => absurd h (by simp [chkO])
  | .andv _ _, _, _, _, _, _, h => absurd h (by simp [chkO])
  | .orv _ _, _, _, _, _, _, h => absurd h (by simp [chkO])
  | .notv _, _, _, _, _, _, h => absurd h (by simp [chkO])
  | .itev _ _ _, _, _, _, _, _, h => absurd h (by simp [chkO])
  | .ix _ _, _, _, _, _, _, h => absurd h (by simp [chkO])
  | .sl _ _ _ _, _, _, _, _, _, h => absurd h (by simp [chkO])
  | .call _ _, _, _, _, _, _, h => absurd h (by simp [chkO])
  | .callk _ _ _, _, _, _, _, _, h => absurd h (by simp [chkO])
  | .bi _ _ _, _, _, _, _, _, h => absurd h (by simp [chkO])
  | .isi _ _, _, _, _, _, _, h => absurd h (by simp [chkO])
  | .mt _ _ _, _, _, _, _, _, h => absurd h (by simp [chkO])
  | .lc _ _ _ _ _ _, _, _, _, _, _, h => absurd h (by simp [chkO])
  | .lc2 _ _ _ _ _ _ _ _ _, _, _, _, _, _, h => absurd h (by simp [chkO])
  | .dln _ _ _ _ _, _, _, _, _, _, h => absurd h (by simp [chkO])
  | .given, _, _, _, _, _, h => absurd h (by simp [chkO])
  | .tloc _, _, _, _, _, _, h => absurd h (by simp [chkO])
  | .ttup _, _, _, _, _, _, h => absurd h (by simp [chkO])
  | .tsub _ _, _, _, _, _, _, h => absurd h (by simp [chkO])
  | .iseq _, _, _, _, _, _, h => absurd h (by simp [chkO])
  | .irg1 _, _, _, _, _, _, h => absurd h (by simp [chkO])
  | .irg2 _ _, _, _, _, _, _, h => absurd h (by simp [chkO])
  | .irg3 _ _ _, _, _, _, _, _, h => absurd h (by simp [chkO])
  | .ienm _, _, _, _, _, _, h => absurd h (by simp [chkO])
  | .izip _ _, _, _, _, _, _, h => absurd h (by simp [chkO])
theorem sndI : ∀ (ve : VE) {X : Cx} {W : WX} {C : CC} {t e : Expr}, EOk T F ca m X W C → chkI T ve C t e = true → PI X t e (tI F k ca W X.K ve)
  | .iseq a, X, W, C, t, e, o, h => by
    simp only [chkI] at h
    exact i_seq (sndE a o h)
  | .irg1 a, X, W, C, t, e, o, h => by
    simp only [chkI] at h
    split at h
    · simp only [Bool.and_eq_true, decide_eq_true_eq, Bool.not_eq_true'] at h
      obtain ⟨rfl, h1, h2, h3⟩ := h
      exact i_rg1 (o.free1 h1).1 (o.free1 h1).2 h2 (sndE a o h3)
    · cases h
  | .irg2 a b, X, W, C, t, e, o, h => by
    simp only [chkI] at h
    split at h
    · simp only [Bool.and_eq_true, decide_eq_true_eq, Bool.not_eq_true'] at h
      obtain ⟨rfl, h1, h2, h3, h4, h5⟩ := h
      exact i_rg2 (o.free1 h1).1 (o.free1 h1).2 h2 h3 (sndE a o h4) (sndE b o h5)
    · cases h
  | .ienm a, X, W, C, t, e, o, h => by
    simp only [chkI] at h
    split at h
    · simp only [Bool.and_eq_true, decide_eq_true_eq, Bool.not_eq_true'] at h
      obtain ⟨rfl, h1, h2, h3, h4⟩ := h
      cases t <;> first | (exact i_enm (o.free1 h1).1 (o.free1 h1).2 h2 (sndE a o h4)) | (simp [isTupE] at h3)
    · cases h
  | .izip a b, X, W, C, t, e, o, h => by
    simp only [chkI] at h
    split at h
    · simp only [Bool.and_eq_true, decide_eq_true_eq, Bool.not_eq_true'] at h
      obtain ⟨rfl, h1, h2, h3, h4, h5, h6⟩ := h
      cases t <;> first | (exact i_zip (o.free1 h1).1 (o.free1 h1).2 h2 h3 (sndE a o h5) (sndE b o h6)) | (simp [isTupE] at h4)
    · cases h
  | .loc _, _, _, _, _, _, _, h => absurd h (by simp [chkI])
  | .non, _, _, _, _, _, _, h => absurd h (by simp [chkI])
  | .bl _, _, _, _, _, _, _, h => absurd h (by simp [chkI])
  | .int _, _, _, _, _, _, _, h => absurd h (by simp [chkI])
  | .str _, _, _, _, _, _, _, h => absurd h (by simp [chkI])
  | .gint _ _, _, _, _, _, _, _, h => absurd h (by simp [chkI])
  | .gstr _ _, _, _, _, _, _, _, h => absurd h (by simp [chkI])
  | .tup _, _, _, _, _, _, _, h => absurd h (by simp [chkI])
  | .lst _ _, _, _, _, _, _, _, h => absurd h (by simp [chkI])
  | .emp, _, _, _, _, _, _, h => absurd h (by simp [chkI])
  | .bin _ _ _ _, _, _, _, _, _, _, h => absurd h (by simp [chkI])
  | .neg _, _, _, _, _, _, _, h => absurd h (by simp [chkI])
  | .cmp _ _ _, _, _, _, _, _, _, h => absurd h (by simp [chkI])
  | .chn _ _ _ _ _, _, _, _, _, _, _, h => absurd h (by simp [chkI])
  | .andv _ _, _, _, _, _, _, _, h => absurd h (by simp [chkI])
  | .orv _ _, _, _, _, _, _, _, h => absurd h (by simp [chkI])
  | .notv _, _, _, _, _, _, _, h => absurd h (by simp [chkI])
  | .itev _ _ _, _, _, _, _, _, _, h => absurd h (by simp [chkI])
  | .ix _ _, _, _, _, _, _, _, h => absurd h (by simp [chkI])
  | .sl _ _ _ _, _, _, _, _, _, _, h => absurd h (by simp [chkI])
  | .call _ _, _, _, _, _, _, _, h => absurd h (by simp [chkI])
  | .callk _ _ _, _, _, _, _, _, _, h => absurd h (by simp [chkI])
  | .bi _ _ _, _, _, _, _, _, _, h => absurd h (by simp [chkI])
  | .isi _ _, _, _, _, _, _, _, h => absurd h (by simp [chkI])
  | .mt _ _ _, _, _, _, _, _, _, h => absurd h (by simp [chkI])
  | .lc _ _ _ _ _ _, _, _, _, _, _, _, h => absurd h (by simp [chkI])
  | .lc2 _ _ _ _ _ _ _ _ _, _, _, _, _, _, _, h => absurd h (by simp [chkI])
  | .dln _ _ _ _ _, _, _, _, _, _, _, h => absurd h (by simp [chkI])
  | .given, _, _, _, _, _, _, h => absurd h (by simp [chkI])
  | .nil, _, _, _, _, _, _, h => absurd h (by simp [chkI])
  | .cons _ _, _, _, _, _, _, _, h => absurd h (by simp [chkI])
  | .tloc _, _, _, _, _, _, _, h => absurd h (by simp [chkI])
  | .ttup _, _, _, _, _, _, _, h => absurd h (by simp [chkI])
  | .tsub _ _, _, _, _, _, _, _, h => absurd h (by simp [chkI])
  | .irg3 _ _ _, _, _, _, _, _, _, h => absurd h (by simp [chkI])
theorem sndG : ∀ (ve : VE) {X : Cx} {W : WX} {C : CC} {e : Expr}, EOk T F ca m X W C → chkG T ve C e = true → PG X e (tG F k ve)
  | .tloc i, X, W, C, e, o, h => by
    simp only [chkG] at h
    split at h
    · simp only [Bool.and_eq_true, decide_eq_true_eq] at h
      exact g_loc o.nd (o.at_ h.1) (o.loc h.2).1 (o.loc h.2).2
    · cases h
  | .ttup ts, X, W, C, e, o, h => by
    simp only [chkG] at h
    split at h
    · exact g_tup o.calm (chkGs_stars ts h).1 (chkGs_stars ts h).2 (sndGs ts o h)
    · cases h
  | .tsub a i, X, W, C, e, o, h => by
    simp only [chkG] at h
    split at h
    · simp only [Bool.and_eq_true, Bool.not_eq_true'] at h
      exact g_sub h.2.2 (sndE a o h.1) (sndE i o h.2.1)
    · cases h
  | .loc _, _, _, _, _, _, h => absurd h (by simp [chkG])
  | .non, _, _, _, _, _, h => absurd h (by simp [chkG])
  | .bl _, _, _, _, _, _, h => absurd h (by simp [chkG])
  | .int _, _, _, _, _, _, h => absurd h (by simp [chkG])
  | .str _, _, _, _, _, _, h => absurd h (by simp [chkG])
  | .gint _ _, _, _, _, _, _, h => absurd h (by simp [chkG])
  | .gstr _ _, _, _, _, _, _, h => absurd h (by simp [chkG])
  | .tup _, _, _, _, _, _, h => absurd h (by simp [chkG])
  | .lst _ _, _, _, _, _, _, h => absurd h (by simp [chkG])
  | .emp, _, _, _, _, _, h => absurd h (by simp [chkG])
  | .bin _ _ _ _, _, _, _, _, _, h => absurd h (by simp [chkG])
  | .neg _, _, _, _, _, _, h => absurd h (by simp [chkG])
  | .cmp _ _ _, _, _, _, _, _, h => absurd h (by simp [chkG])
  | .chn _ _ _ _ _, _, _, _, _, _, h => absurd h (by simp [chkG])
  | .andv _ _, _, _, _, _, _, h => absurd h (by simp [chkG])
  | .orv _ _, _, _, _, _, _, h => absurd h (by simp [chkG])
  | .notv _, _, _, _, _, _, h => absurd h (by simp [chkG])
  | .itev _ _ _, _, _, _, _, _, h => absurd h (by simp [chkG])
  | .ix _ _, _, _, _, _, _, h => absurd h (by simp [chkG])
  | .sl _ _ _ _, _, _, _, _, _, h => absurd h (by simp [chkG])
  | .call _ _, _, _, _, _, _, h => absurd h (by simp [chkG])
  | .callk _ _ _, _, _, _, _, _, h => absurd h (by simp [chkG])
  | .bi _ _ _, _, _, _, _, _, h => absurd h (by simp [chkG])
  | .isi _ _, _, _, _, _, _, h => absurd h (by simp [chkG])
  | .mt _ _ _, _, _, _, _, _, h => absurd h (by simp [chkG])
  | .lc _ _ _ _ _ _, _, _, _, _, _, h => absurd h (by simp [chkG])
  | .lc2 _ _ _ _ _ _ _ _ _, _, _, _, _, _, h => absurd h (by simp [chkG])
  | .dln _ _ _ _ _, _, _, _, _, _, h => absurd h (by simp [chkG])
  | .given, _, _, _, _, _, h => absurd h (by simp [chkG])
  | .nil, _, _, _, _, _, h => absurd h (by simp [chkG])
  | .cons _ _, _, _, _, _, _, h => absurd h (by simp [chkG])
  | .iseq _, _, _, _, _, _, h => absurd h (by simp [chkG])
  | .irg1 _, _, _, _, _, _, h => absurd h (by simp [chkG])
  | .irg2 _ _, _, _, _, _, _, h => absurd h (by simp [chkG])
  | .irg3 _ _ _, _, _, _, _, _, h => absurd h (by simp [chkG])
  | .ienm _, _, _, _, _, _, h => absurd h (by simp [chkG])
  | .izip _ _, _, _, _, _, _, h => absurd h (by simp [chkG])
theorem sndGs : ∀ (ve : VE) {X : Cx} {W : WX} {C : CC} {es : List Expr}, EOk T F ca m X W C → chkGs T ve C es = true → PGs X es (tGs F k ve)
  | .nil, X, W, C, es, o, h => by
    cases es with
    | nil => exact gs_nil
    | cons _ _ => exact absurd h (by simp [chkGs])
  | .cons a r, X, W, C, es, o, h => by
    cases es with
    | nil => exact absurd h (by simp [chkGs])
    | cons e es =>
      simp only [chkGs, Bool.and_eq_true, Bool.not_eq_true'] at h
      exact gs_cons h.1 (sndG a o h.2.1) (sndGs r o h.2.2)
  | .loc _, _, _, _, _, _, h => absurd h (by simp [chkGs])
  | .non, _, _, _, _, _, h => absurd h (by simp [chkGs])
  | .bl _, _, _, _, _, _, h => absurd h (by simp [chkGs])
  | .int _, _, _, _, _, _, h => absurd h (by simp [chkGs])
  | .str _, _, _, _, _, _, h => absurd h (by simp [chkGs])
  | .gint _ _, _, _, _, _, _, h => absurd h (by simp [chkGs])
  | .gstr _ _, _, _, _, _, _, h => absurd h (by simp [chkGs])
  | .tup _, _, _, _, _, _, h => absurd h (by simp [chkGs])
  | .lst _ _, _, _, _, _, _, h => absurd h (by simp [chkGs])
  | .emp, _, _, _, _, _, h => absurd h (by simp [chkGs])
  | .bin _ _ _ _, _, _, _, _, _, h => absurd h (by simp [chkGs])
  | .neg _, _, _, _, _, _, h => absurd h (by simp [chkGs])
  | .cmp _ _ _, _, _, _, _, _, h => absurd h (by simp [chkGs])
  | .chn _ _ _ _ _, _, _, _, _, _, h => absurd h (by simp [chkGs])
  | .andv _ _, _, _, _, _, _, h => absurd h (by simp [chkGs])
  | .orv _ _, _, _, _, _, _, h => absurd h (by simp [chkGs])
  | .notv _, _, _, _, _, _, h => absurd h (by simp [chkGs])
  | .itev _ _ _, _, _, _, _, _, h => absurd h (by simp [chkGs])
  | .ix _ _, _, _, _, _, _, h => absurd h (by simp [chkGs])
  | .sl _ _ _ _, _, _, _, _, _, h => absurd h (by simp [chkGs])
  | .call _ _, _, _, _, _, _, h => absurd h (by simp [chkGs])
  | .callk _ _ _, _, _, _, _, _, h => absurd h (by simp [chkGs])
  | .bi _ _ _, _, _, _, _, _, h => absurd h (by simp [chkGs])
  | .isi _ _, _, _, _, _, _, h => absurd h (by simp [chkGs])
  | .mt _ _ _, _, _, _, _, _, h => absurd h (by simp [chkGs])
  | .lc _ _ _ _ _ _, _, _, _, _, _, h => absurd h (by simp [chkGs])
  | .lc2 _ _ _ _ _ _ _ _ _, _, _, _, _, _, h => absurd h (by simp [chkGs])
  | .dln _ _ _ _ _, _, _, _, _, _, h => absurd h (by simp [chkGs])
  | .given, _, _, _, _, _, h => absurd h (by simp [chkGs])
  | .tloc _, _, _, _, _, _, h => absurd h (by simp [chkGs])
  | .ttup _, _, _, _, _, _, h => absurd h (by simp [chkGs])
  | .tsub _ _, _, _, _, _, _, h => absurd h (by simp [chkGs])
  | .iseq _, _, _, _, _, _, h => absurd h (by simp [chkGs])
  | .irg1 _, _, _, _, _, _, h => absurd h (by simp [chkGs])
  | .irg2 _ _, _, _, _, _, _, h => absurd h (by simp [chkGs])
  | .irg3 _ _ _, _, _, _, _, _, h => absurd h (by simp [chkGs])
  | .ienm _, _, _, _, _, _, h => absurd h (by simp [chkGs])
  | .izip _ _, _, _, _, _, _, h => absurd h (by simp [chkGs])
end
end
end VI

set_option Elab.async false
set_option linter.all false
set_option maxRecDepth 100000
set_option maxHeartbeats 4000000
/-! VI, part 11: statements. -/
namespace VI
open PySem PySem.Spec PyProof.Rows L2

/-! ### checks -/
/-- the stores of a tuple's names, swapped or not -/
def swS (sc : Scope) (ts vs : List Expr) : Option (Option (List Str)) :=
  if (!(ts.length == 2 || ts.length == 3) || vs.length != ts.length || (if sc.kind.isAnnotationScope then ScopeKind.function else sc.kind) != .function) = true then some none else
  if (vs.any fun | .Starred .. => true | _ => false) = true then some none else
  let line := (ts.head?.map (·.pos.line)).getD 0
  let names := ts.filterMap fun
    | .Name id pos => if sc.names.lookup id == some .local && pos.line == line then some id else none
    | _ => none
  if (names.length != ts.length || names.eraseDups.length != names.length) = true then some none else
  if vs.all (foldedForSure 8) = true then some none else
  if vs.all (constantsAlone 8) = true then none else
  some (some names)
theorem swS_ok {ts vs : List Expr} {a b : Nat} {c d : Pos} {env : Env} {r : Option (List Str)} (h : swS env.scope ts vs = some r) : swappedStores [.Tuple ts a c] (.Tuple vs b d) env = pure r := by
  show (if (!(ts.length == 2 || ts.length == 3) || vs.length != ts.length || env.blockKind != .function) = true then pure none else
  if (vs.any fun | .Starred .. => true | _ => false) = true then pure none else
  let line := (ts.head?.map (·.pos.line)).getD 0
  let names := ts.filterMap fun
    | .Name id pos => if env.kindOf id == some .local && pos.line == line then some id else none
    | _ => none
  if (names.length != ts.length || names.eraseDups.length != names.length) = true then pure none else
  if vs.all (foldedForSure 8) = true then pure none else
  if vs.all (constantsAlone 8) = true then unsupported "assign.tuple-of-constant-expressions:order-of-the-stores" else
  pure (some names)) = pure r
  have h' : (if (!(ts.length == 2 || ts.length == 3) || vs.length != ts.length || env.blockKind != .function) = true then some none else
  if (vs.any fun | .Starred .. => true | _ => false) = true then some none else
  let line := (ts.head?.map (·.pos.line)).getD 0
  let names := ts.filterMap fun
    | .Name id pos => if env.kindOf id == some .local && pos.line == line then some id else none
    | _ => none
  if (names.length != ts.length || names.eraseDups.length != names.length) = true then some none else
  if vs.all (foldedForSure 8) = true then some none else
  if vs.all (constantsAlone 8) = true then none else
  some (some names)) = some r := h
  split at h'
  · cases h'; rw [if_pos (by assumption)]
  · rw [if_neg (by assumption)]
    split at h'
    · cases h'; rw [if_pos (by assumption)]
    · rw [if_neg (by assumption)]
      dsimp only at h' ⊢
      split at h'
      · cases h'; rw [if_pos (by assumption)]
      · rw [if_neg (by assumption)]
        split at h'
        · cases h'; rw [if_pos (by assumption)]
        · rw [if_neg (by assumption)]
          split at h'
          · cases h'
          · cases h'; rw [if_neg (by assumption)]
/-- a comprehension that is stored into a local name on its own line -/
def swapB (sc : Scope) (x : Str) (px p : Pos) (csc : Scope) : Bool :=
  (if sc.kind.isAnnotationScope then ScopeKind.function else sc.kind) == .function && sc.names.lookup x == some .local && px.line == p.line && !(csc.names.any fun (n, k) => n == x && (k == .local || k == .cell))
theorem swap1 {e : Expr} {t : Option Expr} {n : Nat} {env : Env} (h : isComp e = false) : swapsWith e t n env = pure false := by
  cases e <;> first | rfl | (simp [isComp] at h)
theorem sole1 {e t : Expr} {n : Nat} {env : Env} (h : isComp e = false) : swapsWithSole [t] e n env = pure false := swap1 h
theorem swap2 {e : Expr} {ts : List Expr} {j : Nat} {p : Pos} {n : Nat} {env : Env} : swapsWith e (some (.Tuple ts j p)) n env = pure false := by
  cases e <;> rfl
theorem sole2 {e : Expr} {ts : List Expr} {j : Nat} {p : Pos} {n : Nat} {env : Env} : swapsWithSole [.Tuple ts j p] e n env = pure false := swap2 (ts := ts) (j := j) (p := p) (n := n) (env := env)
def locL (C : CC) (x : Str) : Bool := C.sc.names.lookup x == some .local
section
variable (T : Tab)
def chkP (C : CC) : VE → List Expr → List Expr → Bool
  | .cons (.tloc i) (.cons (.tloc j) .nil), [.Name x _, .Name y _], [_, _] => decide (C.N[i]? = some x) && (decide (C.N[j]? = some y) && (decide (i ≠ j) && (locL C x && locL C y)))
  | .cons (.tloc i) (.cons (.tloc j) (.cons (.tloc l) .nil)), [.Name x _, .Name y _, .Name z _], [_, _, _] => decide (C.N[i]? = some x) && (decide (C.N[j]? = some y) && (decide (C.N[l]? = some z) && (decide (i ≠ j) && (decide (i ≠ l) && (decide (j ≠ l) && (locL C x && (locL C y && locL C z)))))))
  | _, _, _ => false
/-- the expressions of a handler's suite -/
def chkX (C : CC) (v : Str) : VE → Expr → Bool
  | .given, .Attribute (.Name x _) a _ => decide (x = v) && (okN x && decide (a = "given"))
  | .str s, .Constant (.str t) _ _ => decide (s = t)
  | .int s, .Constant (.int t) _ _ => decide (s = t)
  | .bl s, .Constant (.bool t) _ _ => s == t
  | .non, .Constant .none _ _ => true
  | .lst _ es, .List fs _ => chkXs C v es fs
  | .tup es, .Tuple fs _ _ => chkXs C v es fs
  | _, _ => false
where chkXs (C : CC) (v : Str) : VE → List Expr → Bool
  | .nil, [] => true
  | .cons a r, e :: es => !isStar e && (chkX C v a e && chkXs C v r es)
  | _, _ => false
/-- a handler's suite -/
def chkU (C : CC) (v : Str) : VS → List Stmt → Bool
  | .seq (.ret e) .skip, [.Return (some f) _] => chkX C v e f
  | _, _ => false
mutual
def chkS : VS → CC → Stmt → Bool
  | .asg t e, C, s => match s with
    | .Assign [.Name x px] f pos => chkG T t C (.Name x px) && (chk T e false C f && (match f with
      | .ListComp a gs csc p => if swapB C.sc x px p csc = true then locL C x && (match gs with
          | [⟨_, i, _, 0⟩] => true
          | [⟨_, i, [], 0⟩, ⟨_, i2, _, 0⟩] => true
          | _ => false) else true
      | f => !isComp f))
    | .Assign [.Tuple ts j p] f _ => chkG T t C (.Tuple ts j p) && (chk T e false C f && (match f with
      | .Tuple .. => false
      | _ => true))
    | .Assign [.Subscript o i p] f _ => chkG T t C (.Subscript o i p) && (chk T e false C f && !isComp f)
    | _ => false
  | .par ts es, C, s => match s with
    | .Assign [.Tuple fs j p] (.Tuple gs l q) _ => chkGs T ts C fs && (chkEs T es C gs && (decide (lenV ts ≤ 1000) && (match swS C.sc fs gs with
      | some none => true
      | some (some ns) => chkP C ts fs gs && decide (fs.filterMap (fun e => match e with | .Name x _ => some x | _ => none) = ns)
      | none => false)))
    | _ => false
  | .exp e, C, s => match s with
    | .Expr f _ => chk T e false C f && !isComp f
    | _ => false
  | .ret e, C, s => match s with
    | .Return (some f) _ => chk T e false C f
    | _ => false
  | .retn, _, s => match s with
    | .Return none _ => true
    | _ => false
  | .ite c a b, C, s => match s with
    | .If f p q _ => chk T c true C f && (chkSs a C p && chkSs b C q)
    | _ => false
  | .fr t it b, C, s => match s with
    | .For f g p [] _ => chkG T t C f && (!isSet g && (chkI T it C f g && chkSs b C p))
    | _ => false
  | .wh c b, C, s => match s with
    | .While f p [] _ => chk T c true C f && chkSs b C p
    | _ => false
  | .brk, _, s => match s with
    | .Break _ => true
    | _ => false
  | .cnt, _, s => match s with
    | .Continue _ => true
    | _ => false
  | .rais c e, C, s => match s with
    | .Raise (some (.Call (.Name x _) [f] [] _)) none _ => decide (c ≠ 0) && (decide (T.excs[c]? = some x) && (glB C.sc x && (okN x && (!isStar f && chk T e false C f))))
    | _ => false
  | .tr b hs, C, s => match s with
    | .Try p [.ExceptHandler (some (.Name x _)) (some v) (b₀ :: bs) _] [] [] _ => chkSs b C p && (match hs with
      | .hcons n c (some i) u .hnil => decide (n = T.excs.length) && (decide (T.excs[c]? = some x) && (glB C.sc x && (okN x && (decide (C.N[i]? = some v) && (locL C v && (okN v && chkU C v u (b₀ :: bs)))))))
      | _ => false)
    | _ => false
  | _, _, _ => false
def chkSs : VS → CC → List Stmt → Bool
  | .skip, _, s => s.isEmpty
  | .seq a b, C, s => match s with
    | s :: r => chkS a C s && chkSs b C r
    | [] => false
  | _, _, _ => false
end
end
end VI

set_option Elab.async false
set_option linter.all false
set_option maxRecDepth 100000
set_option maxHeartbeats 4000000
/-! VI, part 12: statements are sound. -/
namespace VI
open PySem PySem.Spec PyProof.Rows L2

/-- what is wanted of a statement's run -/
def postS (Z : Addr → Prop) (P : Nat → Prop) (ca : Nat → Addr) (W : WX) (A : List Addr) (H : Hp) (r : RS) (D : Ends) : Prop := match r with
  | .go .nx env S => ∀ A' H' σ, Ext A H A' H' → Rel Z P A' S H' → EnvR Z A' H' σ env → D.nx σ H'
  | .go .bk env S => ∀ A' H' σ, Ext A H A' H' → Rel Z P A' S H' → EnvR Z A' H' σ env → D.bk σ H'
  | .go .ct env S => ∀ A' H' σ, Ext A H A' H' → Rel Z P A' S H' → EnvR Z A' H' σ env → D.ct σ H'
  | .go (.rt d) _ S => ∀ A' H' v, Ext A H A' H' → Rel Z P A' S H' → DenF Z A' H' v d → D.rt v H'
  | .exc c d env S => ∀ A' H' σ v, Ext A H A' H' → Rel Z P A' S H' → EnvR Z A' H' σ env → DenF Z A' H' v d → wE ca (WE W σ) c v H'
  | .stuck => False
section
variable {F : FT} {k : Nat} {ca : Nat → Addr} {W : WX} {Z : Addr → Prop} {P : Nat → Prop} {A A' : List Addr} {H H' : Hp} {D : Ends} {env : VEnv} {S : Sto} {σ : L2.St}
theorem postS.ext {r : RS} (h : postS Z P ca W A H r D) (e : Ext A H A' H') : postS Z P ca W A' H' r D := by
  cases r with
  | go f env S =>
    cases f with
    | nx => exact fun A2 H2 s e2 r d => h A2 H2 s (e.trans e2) r d
    | bk => exact fun A2 H2 s e2 r d => h A2 H2 s (e.trans e2) r d
    | ct => exact fun A2 H2 s e2 r d => h A2 H2 s (e.trans e2) r d
    | rt x => exact fun A2 H2 s e2 r d => h A2 H2 s (e.trans e2) r d
  | exc c d env S => exact fun A2 H2 s v e2 r d d2 => h A2 H2 s v (e.trans e2) r d d2
  | stuck => exact h
theorem postS.stm {α β : Type} {Dd : List Addr → Hp → β → α → Prop} {r : R α} {f : α → Sto → RS} {Q : β → Hp → Prop} (t : At k Z P A env S σ H) (h : postS Z P ca W A H (r.stm env f) D)
    (g : ∀ A1 H1 v d S1, Ext A H A1 H1 → Rel Z P A1 S1 H1 → Dd A1 H1 v d → postS Z P ca W A1 H1 (f d S1) D → Q v H1) : post Z P Dd (wE ca (WE W σ)) A H r Q := by
  cases r with
  | ok d S' => exact fun A' H' v e r dv => g A' H' v d S' e r dv (postS.ext (show postS Z P ca W A H (f d S') D from h) e)
  | exc c d S' => exact fun A' H' v e r dv => (show postS Z P ca W A H (.exc c d env S') D from h) A' H' σ v e r (t.en.ext e) dv
  | stuck => exact h
/-- a target's store, in a statement -/
theorem postS.tgt {sl : List Nat} {r : R VEnv} {f : VEnv → Sto → RS} {Q : L2.St → Hp → Prop} (hx : ∀ {c z S'}, r = .exc c z S' → False) (h : postS Z P ca W A H (r.stm env f) D)
    (g : ∀ A1 H1 σ1 env1 S1, Ext A H A1 H1 → Rel Z P A1 S1 H1 → dG sl σ Z A1 H1 σ1 env1 → postS Z P ca W A1 H1 (f env1 S1) D → Q σ1 H1) : post Z P (dG sl σ Z) (fun _ _ _ => False) A H r Q := by
  cases r with
  | ok d S' => exact fun A' H' v e r dv => g A' H' v d S' e r dv (postS.ext (show postS Z P ca W A H (f d S') D from h) e)
  | exc c d S' => exact (hx rfl).elim
  | stuck => exact h
end
/-- what a statement is asked for -/
def rdS (k : Nat) (ca : Nat → Addr) (W : WX) (f : VEnv → Sto → RS) : TS := fun D σ H => ∃ (Z : Addr → Prop) (P : Nat → Prop) (A : List Addr) (env : VEnv) (S : Sto), At k Z P A env S σ H ∧ postS Z P ca W A H (f env S) D
abbrev tS (F : FT) (k : Nat) (ca : Nat → Addr) (W : WX) (vs : VS) : TS := rdS k ca W (run F k vs)
section
variable {F : FT} {k : Nat} {ca : Nat → Addr} {W : WX} {X : Cx}
theorem rdS.mk {Z : Addr → Prop} {P : Nat → Prop} {A : List Addr} {env : VEnv} {S : Sto} {σ : L2.St} {H : Hp} {f : VEnv → Sto → RS} {D : Ends} (t : At k Z P A env S σ H) (h : postS Z P ca W A H (f env S) D) : rdS k ca W f D σ H := ⟨Z, P, A, env, S, t, h⟩
theorem ps_imp {s : Stmt} {t t' : TS} (p : PS X s t) (im : ∀ D σ H, t' D σ H → t D σ H) : PS X s t' := ⟨fun pins s σ H D I h => p.run pins s σ H D I (im D σ H h)⟩
theorem pss_imp {s : List Stmt} {t t' : TS} (p : PSs X s t) (im : ∀ D σ H, t' D σ H → t D σ H) : PSs X s t' := ⟨fun pins s σ H D I h => p.run pins s σ H D I (im D σ H h)⟩
theorem At.dg {Z : Addr → Prop} {P : Nat → Prop} {A A1 : List Addr} {env env1 : VEnv} {S S1 : Sto} {σ σ1 : L2.St} {H H1 : Hp} {sl : List Nat} (t : At k Z P A env S σ H) (e : Ext A H A1 H1) (r : Rel Z P A1 S1 H1) (d : dG sl σ Z A1 H1 σ1 env1) : At k Z P A1 env1 S1 σ1 H1 := ⟨t.g.ext e r, t.hk, d.1⟩
/-- a store -/
theorem asg_read {t e : VE} (D : Ends) (σ : L2.St) (H : Hp) (h : tS F k ca W (.asg t e) D σ H) : tAsg (tE F k ca W e) (tG F k t) D σ H := by
  obtain ⟨Z, P, A, env, S, t', h⟩ := h
  exact rdE.mk t' (postS.stm t' h fun A1 H1 v d S1 e1 r1 dv h1 => ⟨Z, P, A1, env, S1, d, t'.next e1 r1, dv, postS.tgt (fun q => (asg_exc t).1 q) h1 fun A2 H2 σ2 env2 S2 e2 r2 dg h2 => h2 A2 H2 σ2 (Ext.refl _ _) r2 dg.1⟩)
theorem seq_read {a b : VS} (D : Ends) (σ : L2.St) (H : Hp) (h : tS F k ca W (.seq a b) D σ H) : tSeq (tS F k ca W a) (tS F k ca W b) D σ H := by
  obtain ⟨Z, P, A, env, S, t, h⟩ := h
  refine rdS.mk t ?_
  have h : postS Z P ca W A H ((run F k a env S).andThen fun env S => run F k b env S) D := h
  cases q : run F k a env S with
  | go f env1 S1 =>
    rw [q] at h
    cases f with
    | nx => exact fun A1 H1 σ1 e1 r1 en1 => rdS.mk ⟨t.g.ext e1 r1, t.hk, en1⟩ (postS.ext (show postS Z P ca W A H (run F k b env1 S1) D from h) e1)
    | bk => exact h
    | ct => exact h
    | rt d => exact h
  | exc c d env1 S1 => rw [q] at h; exact h
  | stuck => rw [q] at h; exact h.elim
theorem skip_read (D : Ends) (σ : L2.St) (H : Hp) (h : tS F k ca W .skip D σ H) : tNext D σ H := by
  obtain ⟨Z, P, A, env, S, t, h⟩ := h
  exact h A H σ (Ext.refl _ _) t.g.rel t.en
theorem for_read {K : PySem.W.Frag} {t it : VE} {b : VS} (D : Ends) (σ : L2.St) (H : Hp) (h : tS F k ca W (.fr t it b) D σ H) : tFor (tI F k ca W K it) (tG F k t) (tS F k ca W b) D σ H := by
  obtain ⟨Z, P, A, env, S, t0, h⟩ := h
  refine rdE.mk t0 (postS.stm t0 h fun A1 H1 J j S1 e1 r1 dj h1 => ?_)
  refine ⟨fun i m σ H => ∃ A env S, At k Z P A env S σ H ∧ Ext A1 H1 A H ∧ postS Z P ca W A H (forL j (fun x env S => (asg F k none t x env S).stm env fun env S => run F k b env S) m i env S) D, ⟨fuelW, A1, env, S1, t0.next e1 r1, Ext.refl _ _, h1⟩, ?_⟩
  rintro i m σ H ⟨A2, env2, S2, t2, e2, h2⟩
  cases m with
  | zero => exact h2.elim
  | succ m =>
    have tn := (dj.mono (Z' := Z) (A' := A2) (H' := H) fun _ _ h => e2.denF h).turn t2.g i
    unfold forL at h2
    cases q : j.at_ i S2 with
    | none => rw [q] at h2; exact h2.elim
    | some o =>
      cases o with
      | none =>
        rw [q] at h2 tn
        exact .inl ⟨tn, h2 A2 H σ (Ext.refl _ _) t2.g.rel t2.en⟩
      | some d =>
        rw [q] at h2 tn
        refine .inr ⟨tn.1, fun σ' H' => ∃ A env S, At k Z P A env S σ' H' ∧ Ext A1 H1 A H' ∧ postS Z P ca W A H' (forL j (fun x env S => (asg F k none t x env S).stm env fun env S => run F k b env S) m (i + 1) env S) D, fun σ' H' w => ⟨m, Nat.lt_succ_self m, w⟩, fun x H' y => ?_⟩
        obtain ⟨e3, r3, dx⟩ := tn.2 x H' y
        refine ⟨Z, P, A2, env2, S2, d, t2.next e3 r3, dx, ?_⟩
        have h2 : postS Z P ca W A2 H (match (asg F k none t d env2 S2).stm env2 fun env S => run F k b env S with
          | .go .nx env S => forL j (fun x env S => (asg F k none t x env S).stm env fun env S => run F k b env S) m (i + 1) env S
          | .go .ct env S => forL j (fun x env S => (asg F k none t x env S).stm env fun env S => run F k b env S) m (i + 1) env S
          | .go .bk env S => .go .nx env S
          | r => r) D := h2
        cases q2 : asg F k none t d env2 S2 with
        | exc c z S' => exact ((asg_exc t).1 q2).elim
        | stuck => rw [q2] at h2; exact h2.elim
        | ok env3 S3 =>
          rw [q2] at h2
          have h2 := h2.ext e3
          intro A4 H4 σ4 e4 r4 dg
          refine rdS.mk ((t2.next e3 r3).dg e4 r4 dg) ?_
          have h2 := h2.ext e4
          have e24 : Ext A1 H1 A4 H4 := (e2.trans e3).trans e4
          have h2 : postS Z P ca W A4 H4 (match run F k b env3 S3 with
            | .go .nx env S => forL j (fun x env S => (asg F k none t x env S).stm env fun env S => run F k b env S) m (i + 1) env S
            | .go .ct env S => forL j (fun x env S => (asg F k none t x env S).stm env fun env S => run F k b env S) m (i + 1) env S
            | .go .bk env S => .go .nx env S
            | r => r) D := h2
          have g4 := (t2.g.ext e3 r3).ext e4 r4
          cases q3 : run F k b env3 S3 with
          | stuck => rw [q3] at h2; exact h2.elim
          | exc c z env5 S5 => rw [q3] at h2; exact h2
          | go f env5 S5 =>
            rw [q3] at h2
            cases f with
            | nx => exact fun A5 H5 σ5 e5 r5 en5 => ⟨A5, env5, S5, ⟨g4.ext e5 r5, t2.hk, en5⟩, e24.trans e5, postS.ext h2 e5⟩
            | ct => exact fun A5 H5 σ5 e5 r5 en5 => ⟨A5, env5, S5, ⟨g4.ext e5 r5, t2.hk, en5⟩, e24.trans e5, postS.ext h2 e5⟩
            | bk => exact h2
            | rt z => exact h2
theorem while_read {c : VE} {b : VS} (D : Ends) (σ : L2.St) (H : Hp) (h : tS F k ca W (.wh c b) D σ H) : tWhile (tT F k ca W c) (tS F k ca W b) D σ H := by
  obtain ⟨Z, P, A, env, S, t0, h⟩ := h
  refine ⟨fun m σ H => ∃ A env S, At k Z P A env S σ H ∧ postS Z P ca W A H (whL (fun env S => evT F k none c env S) (fun env S => run F k b env S) m env S) D, ⟨fuelW, A, env, S, t0, h⟩, ?_⟩
  rintro m σ H ⟨A2, env2, S2, t2, h2⟩
  cases m with
  | zero => exact h2.elim
  | succ m =>
    refine rdE.mk t2 (postS.stm t2 h2 fun A3 H3 b3 t3 S3 e3 r3 hb h3 => ?_)
    cases (show b3 = t3 from hb)
    cases b3 with
    | false => exact h3 A3 H3 σ (Ext.refl _ _) r3 (t2.next e3 r3).en
    | true =>
      refine ⟨fun σ' H' => ∃ A env S, At k Z P A env S σ' H' ∧ postS Z P ca W A H' (whL (fun env S => evT F k none c env S) (fun env S => run F k b env S) m env S) D, fun σ' H' w => ⟨m, Nat.lt_succ_self m, w⟩, rdS.mk (t2.next e3 r3) ?_⟩
      have h3 : postS Z P ca W A3 H3 (match run F k b env2 S3 with
          | .go .nx env S => whL (fun env S => evT F k none c env S) (fun env S => run F k b env S) m env S
          | .go .ct env S => whL (fun env S => evT F k none c env S) (fun env S => run F k b env S) m env S
          | .go .bk env S => .go .nx env S
          | r => r) D := h3
      have g3 := t2.g.ext e3 r3
      cases q3 : run F k b env2 S3 with
      | stuck => rw [q3] at h3; exact h3.elim
      | exc c z env5 S5 => rw [q3] at h3; exact h3
      | go f env5 S5 =>
        rw [q3] at h3
        cases f with
        | nx => exact fun A5 H5 σ5 e5 r5 en5 => ⟨A5, env5, S5, ⟨g3.ext e5 r5, t2.hk, en5⟩, postS.ext h3 e5⟩
        | ct => exact fun A5 H5 σ5 e5 r5 en5 => ⟨A5, env5, S5, ⟨g3.ext e5 r5, t2.hk, en5⟩, postS.ext h3 e5⟩
        | bk => exact h3
        | rt z => exact h3
theorem ite_read {c : VE} {a b : VS} (D : Ends) (σ : L2.St) (H : Hp) (h : tS F k ca W (.ite c a b) D σ H) : tIfS (tT F k ca W c) (tS F k ca W a) (tS F k ca W b) D σ H := by
  obtain ⟨Z, P, A, env, S, t0, h⟩ := h
  refine rdE.mk t0 (postS.stm t0 h fun A3 H3 b3 t3 S3 e3 r3 hb h3 => ?_)
  cases (show b3 = t3 from hb)
  cases b3 with
  | false => exact rdS.mk (t0.next e3 r3) h3
  | true => exact rdS.mk (t0.next e3 r3) h3
theorem ret_read {e : VE} (D : Ends) (σ : L2.St) (H : Hp) (h : tS F k ca W (.ret e) D σ H) : tRet (tE F k ca W e) D σ H := by
  obtain ⟨Z, P, A, env, S, t0, h⟩ := h
  exact rdE.mk t0 (postS.stm t0 h fun A3 H3 v d S3 e3 r3 dv h3 => h3 A3 H3 v (Ext.refl _ _) r3 dv)
theorem retn_read (D : Ends) (σ : L2.St) (H : Hp) (h : tS F k ca W .retn D σ H) : tRetN D σ H := by
  obtain ⟨Z, P, A, env, S, t0, h⟩ := h
  exact h A H _ (Ext.refl _ _) t0.g.rel .non
theorem exp_read {e : VE} (D : Ends) (σ : L2.St) (H : Hp) (h : tS F k ca W (.exp e) D σ H) : tDrop (tE F k ca W e) D σ H := by
  obtain ⟨Z, P, A, env, S, t0, h⟩ := h
  exact rdE.mk t0 (postS.stm t0 h fun A3 H3 v d S3 e3 r3 dv h3 => h3 A3 H3 σ (Ext.refl _ _) r3 (t0.next e3 r3).en)
theorem brk_read (D : Ends) (σ : L2.St) (H : Hp) (h : tS F k ca W .brk D σ H) : tBreak D σ H := by
  obtain ⟨Z, P, A, env, S, t0, h⟩ := h
  exact h A H σ (Ext.refl _ _) t0.g.rel t0.en
theorem cnt_read (D : Ends) (σ : L2.St) (H : Hp) (h : tS F k ca W .cnt D σ H) : tCont D σ H := by
  obtain ⟨Z, P, A, env, S, t0, h⟩ := h
  exact h A H σ (Ext.refl _ _) t0.g.rel t0.en
/-- several targets, a fresh tuple between -/
theorem par_read {ts es : VE} (hl : lenV ts ≤ 1000) (D : Ends) (σ : L2.St) (H : Hp) (h : tS F k ca W (.par ts es) D σ H) : tAsg (tE F k ca W (.tup es)) (tG F k (.ttup ts)) D σ H := by
  obtain ⟨Z, P, A, env, S, t', h⟩ := h
  have h : postS Z P ca W A H ((evs F k none es env S).stm env fun ds S => (asgs F k none ts ds env S).stm env fun env S => .go .nx env S) D := h
  have fit : ∀ {ds S1}, evs F k none es env S = .ok ds S1 → ds.length ≤ lenMax := fun {ds S1} q => by
    rw [q] at h
    have h : postS Z P ca W A H ((asgs F k none ts ds env S1).stm env fun env S => .go .nx env S) D := h
    cases q2 : asgs F k none ts ds env S1 with
    | ok env2 S2 => rw [asgs_len ts q2]; exact Nat.le_trans hl (by decide)
    | exc c z S2 => exact ((asg_exc ts).2 q2).elim
    | stuck => rw [q2] at h; exact h.elim
  refine rdE.mk t' ?_
  have hev : ev F k none (.tup es) env S = (evs F k none es env S).bind fun ds S => if ds.length ≤ lenMax then .ok (.tup ds) S else .stuck := rfl
  rw [hev]
  cases q : evs F k none es env S with
  | stuck => rw [q] at h; exact h.elim
  | exc c z S1 => rw [q] at h; exact fun A' H' v e r dv => h A' H' σ v e r (t'.en.ext e) dv
  | ok ds S1 =>
    rw [q] at h
    show post Z P (DenF Z) (wE ca (WE W σ)) A H (if ds.length ≤ lenMax then .ok (.tup ds) S1 else .stuck) _
    rw [if_pos (fit q)]
    intro A1 H1 v e1 r1 dv
    exact ⟨Z, P, A1, env, S1, .tup ds, t'.next e1 r1, dv, postS.tgt (fun q => (asg_exc ts).2 q) (postS.ext (show postS Z P ca W A H ((asgs F k none ts ds env S1).stm env fun env S => .go .nx env S) D from h) e1) fun A2 H2 σ2 env2 S2 e2 r2 dg h2 => h2 A2 H2 σ2 (Ext.refl _ _) r2 dg.1⟩
theorem par2_read {i j : Nat} {es : VE} (D : Ends) (σ : L2.St) (H : Hp) (h : tS F k ca W (.par (.cons (.tloc i) (.cons (.tloc j) .nil)) es) D σ H) : tPar i j (tA F k ca W es) D σ H := by
  obtain ⟨Z, P, A, env, S, t', h⟩ := h
  refine rdE.mk t' (postS.stm t' h fun A1 H1 vs ds S1 e1 r1 dv h1 => ?_)
  cases dv with
  | nil => exact h1.elim
  | cons d1 dr =>
    cases dr with
    | nil => exact h1.elim
    | cons d2 dr =>
      cases dr with
      | cons _ _ => exact h1.elim
      | nil => exact ⟨_, _, rfl, h1 A1 H1 _ (Ext.refl _ _) r1 (((t'.next e1 r1).en.set i d1).set j d2)⟩
theorem par3_read {i j l : Nat} {es : VE} (D : Ends) (σ : L2.St) (H : Hp) (h : tS F k ca W (.par (.cons (.tloc i) (.cons (.tloc j) (.cons (.tloc l) .nil))) es) D σ H) : tPar3 i j l (tA F k ca W es) D σ H := by
  obtain ⟨Z, P, A, env, S, t', h⟩ := h
  refine rdE.mk t' (postS.stm t' h fun A1 H1 vs ds S1 e1 r1 dv h1 => ?_)
  cases dv with
  | nil => exact h1.elim
  | cons d1 dr =>
    cases dr with
    | nil => exact h1.elim
    | cons d2 dr =>
      cases dr with
      | nil => exact h1.elim
      | cons d3 dr =>
        cases dr with
        | cons _ _ => exact h1.elim
        | nil => exact ⟨_, _, _, rfl, h1 A1 H1 _ (Ext.refl _ _) r1 ((((t'.next e1 r1).en.set i d1).set j d2).set l d3)⟩
end
end VI

set_option Elab.async false
set_option linter.all false
set_option maxRecDepth 100000
set_option maxHeartbeats 4000000
/-! VI, part 13: a checked statement is what its compact form is. -/
namespace VI
open PySem PySem.Spec PyProof.Rows L2

/-- an exception is made -/
def RzAt (X : Cx) (ca : Nat → Addr) (c : Nat) (x : Str) : Prop := ∀ {f : Expr} {te : TE} {p pos : Pos}, Gl X x → (x == Str.ofString "__debug__") = false → isStar f = false → PE X f te →
  PMk X (.Call (.Name x p) [f] [] pos) (fun σ H Q => te σ H fun v H1 => ∀ dx, H1 dx = none → Q (.ref (ca c)) (some dx) (upd H1 dx (.xd [(("given" : Str), v)])))
structure SOk (T : Tab) (F : FT) (ca : Nat → Addr) (m : Nat) (X : Cx) (W : WX) (C : CC) : Prop where
  e : EOk T F ca m X W C
  own : PassesOwn (model X.prog X.w) X.A X.env X.xe
  stk : X.stack = X.env :: X.outer
  fr : X.env.frame = some X.env.locals
  rz : ∀ (c : Nat) x, T.excs[c]? = some x → X.mg x = some (.ref (ca c)) ∧ XfC X.K (ca c) ∧ PySem.W.findIn X.K (.ref (ca c)) "given" = some none ∧ (c ≠ 0 → ∀ pn xe, RzAt (X.tr pn xe) ca c x)
  exm : ∀ c h, c < T.excs.length → h < T.excs.length → PySem.W.exmOne X.K (.ref (ca c)) (.ref (ca h)) = some (takesC c h)
section
variable {T : Tab} {F : FT} {k m : Nat} {ca : Nat → Addr} {W : WX} {X : Cx} {C : CC}
theorem SOk.tr (o : SOk T F ca m X W C) {pn : List (Addr × Obj)} {xe : Value → Shared → Prop} {W' : WX} (tk : Takes (X.tr pn xe) W') (own : PassesOwn (model X.prog X.w) X.A X.env xe) : SOk T F ca m (X.tr pn xe) W' C where
  e := ⟨o.e.N, o.e.sc, o.e.fn, o.e.nd, o.e.calm, o.e.room, tk, ⟨o.e.gm.nums, o.e.gm.txts, o.e.gm.free, fun f x ps h => by
    obtain ⟨fa, fd, h1, h2⟩ := o.e.gm.funs f x ps h
    exact ⟨fa, fd, ⟨h1.mg, h1.keep, h1.bind, h1.ok⟩, h2⟩⟩⟩
  own := own
  stk := o.stk
  fr := o.fr
  rz := fun c x h => let ⟨h1, h2, h3, h4⟩ := o.rz c x h; ⟨h1, h2, h3, fun h0 p q => h4 h0 p q⟩
  exm := o.exm
theorem SOk.rzat (o : SOk T F ca m X W C) {c : Nat} {x : Str} (h0 : c ≠ 0) (h : T.excs[c]? = some x) : RzAt X ca c x := (o.rz c x h).2.2.2 h0 X.pn X.xe
theorem rais_read {c : Nat} {e : VE} (D : Ends) (σ : L2.St) (H : Hp) (h : tS F k ca W (.rais c e) D σ H) : tE F k ca W e σ H fun v H1 => ∀ dx, H1 dx = none → W (.ref (ca c)) (some dx) σ (upd H1 dx (.xd [(("given" : Str), v)])) := by
  obtain ⟨Z, P, A, env, S, t0, h⟩ := h
  refine rdE.mk t0 (postS.stm t0 h fun A3 H3 v d S3 e3 r3 dv h3 dx hdx => ?_)
  have e4 := Ext.laid A3 (o := HO.xd [(("given" : Str), v)]) hdx
  exact h3 A3 _ σ v e4 (r3.laid hdx) ((t0.next e3 r3).en.ext e4) (e4.denF dv) dx upd_same
/-! ### a handler's suite -/
/-- at a handler: i the exception's name, its class and its dict -/
def rdX (n k : Nat) (ca : Nat → Addr) (i : Nat) (a : Addr) (cls : Value) (d : Option Addr) {α β : Type} (Dd : (Addr → Prop) → List Addr → Hp → β → α → Prop) (f : Option DD → VEnv → Sto → R α) : L2.St → Hp → (β → Hp → Prop) → Prop := fun σ H Q =>
  ∃ (Z : Addr → Prop) (P : Nat → Prop) (A : List Addr) (env : VEnv) (S : Sto) (c : Nat) (dd : Addr) (v : V) (g : DD), At k Z P A env S σ H ∧ σ[i]? = some (some (.ref a)) ∧ c < n ∧ cls = .ref (ca c) ∧ d = some dd ∧ H dd = some (.xd [(("given" : Str), v)]) ∧ DenF Z A H v g ∧
    post Z P (Dd Z) (fun _ _ _ => False) A H (f (some g) env S) Q
theorem xd_keep {Z : Addr → Prop} {P : Nat → Prop} {A A' : List Addr} {S : Sto} {H H' : Hp} {dd : Addr} {fs : List (Str × V)} (r : Rel Z P A S H) (h : H dd = some (.xd fs)) (e : Ext A H A' H') : H' dd = some (.xd fs) := by
  refine e.keep dd _ (fun q => ?_) h
  obtain ⟨xs, hx⟩ := r.mem_some q
  rw [h] at hx; cases hx
variable {a : Addr} {oe : Obj} {cls : Value} {d : Option Addr} {pn : List (Addr × Obj)} {i n : Nat} {v : Str}
mutual
theorem sndX (hN : X.N[i]? = some v) (hv : Vis X.env.scope v) (hd : (v == Str.ofString "__debug__") = false ∧ (v == Str.ofString "__classdict__") = false) (hx : ∀ c, c < n → XfC X.K (ca c) ∧ PySem.W.findIn X.K (.ref (ca c)) "given" = some none) (hz : Zc cls d oe) (hf : ∃ vs, oe.data = Data.fields vs) :
    ∀ (ve : VE) (e : Expr), chkX C v ve e = true → PE (X.suite a ((a, oe) :: pn)) e (rdX n k ca i a cls d DenF (fun gv => ev F k gv ve))
  | ve, e, h => by
    unfold chkX at h
    split at h
    · simp only [Bool.and_eq_true, decide_eq_true_eq] at h
      obtain ⟨rfl, h1, rfl⟩ := h
      refine ⟨fun pins s σ H Q I ⟨Z, P, A, env, S, c, dd, w, g, t, hi, hc, e1, e2, hdd, dg, h⟩ => ?_⟩
      exact (pe_xf (te := tVar i) (hx c hc).1 (hx c hc).2 hz hf (pe_var hN hv hd.1 hd.2) rfl).run pins s σ H Q I ⟨.ref a, hi, rfl, e1, dd, _, w, e2, hdd, rfl, here_ok t.g.rel dg h⟩
    · simp only [decide_eq_true_eq] at h
      subst h
      exact pe_imp pe_str fun σ H Q ⟨Z, P, A, env, S, c, dd, w, g, t, hi, hc, e1, e2, hdd, dg, h⟩ => here_ok t.g.rel (.str _) h
    · simp only [decide_eq_true_eq] at h
      subst h
      exact pe_imp pe_int fun σ H Q ⟨Z, P, A, env, S, c, dd, w, g, t, hi, hc, e1, e2, hdd, dg, h⟩ => here_ok t.g.rel (.int _) h
    · cases (beq_iff_eq.mp h)
      exact pe_imp pe_bl fun σ H Q ⟨Z, P, A, env, S, c, dd, w, g, t, hi, hc, e1, e2, hdd, dg, h⟩ => here_ok t.g.rel (.bl _) h
    · exact pe_imp pe_non fun σ H Q ⟨Z, P, A, env, S, c, dd, w, g, t, hi, hc, e1, e2, hdd, dg, h⟩ => here_ok t.g.rel .non h
    · rename_i b es fs q
      refine pe_imp (pe_lst (sndXs hN hv hd hx hz hf es fs h)) fun σ H Q ⟨Z, P, A, env, S, c, dd, w, g, t, hi, hc, e1, e2, hdd, dg, h⟩ => ?_
      refine ⟨Z, P, A, env, S, c, dd, w, g, t, hi, hc, e1, e2, hdd, dg, post.bind h fun A1 H1 xs ds S1 e1 r1 dx h1 => ?_⟩
      obtain ⟨hc, h2⟩ := if_post h1
      refine ⟨?_, fun p hp => alloc_ok r1 (t.next e1 r1).g.hP dx h2 p hp⟩
      have := dx.length; have := lenMax_le; omega
    · rename_i es fs j q
      refine pe_imp (pe_tup (sndXs hN hv hd hx hz hf es fs h)) fun σ H Q ⟨Z, P, A, env, S, c, dd, w, g, t, hi, hc, e1, e2, hdd, dg, h⟩ => ?_
      refine ⟨Z, P, A, env, S, c, dd, w, g, t, hi, hc, e1, e2, hdd, dg, post.bind h fun A1 H1 xs ds S1 e1 r1 dx h1 => ?_⟩
      obtain ⟨hc, h2⟩ := if_post h1
      refine ⟨?_, fun p hp => tup_ok r1 dx h2 p hp⟩
      have := dx.length; have := lenMax_le; omega
    · cases h
theorem sndXs (hN : X.N[i]? = some v) (hv : Vis X.env.scope v) (hd : (v == Str.ofString "__debug__") = false ∧ (v == Str.ofString "__classdict__") = false) (hx : ∀ c, c < n → XfC X.K (ca c) ∧ PySem.W.findIn X.K (.ref (ca c)) "given" = some none) (hz : Zc cls d oe) (hf : ∃ vs, oe.data = Data.fields vs) :
    ∀ (ve : VE) (es : List Expr), chkX.chkXs C v ve es = true → PA (X.suite a ((a, oe) :: pn)) es (rdX n k ca i a cls d DenLF (fun gv => evs F k gv ve))
  | ve, es, h => by
    unfold chkX.chkXs at h
    split at h
    · exact pa_imp pa_nil fun σ H Q ⟨Z, P, A, env, S, c, dd, w, g, t, hi, hc, e1, e2, hdd, dg, h⟩ => here_ok t.g.rel DenL.nil h
    · rename_i b r e es
      simp only [Bool.and_eq_true, Bool.not_eq_true'] at h
      refine pa_imp (pa_cons (sndX hN hv hd hx hz hf b e h.2.1) (sndXs hN hv hd hx hz hf r es h.2.2) (star1 h.1)) fun σ H Q ⟨Z, P, A, env, S, c, dd, w, g, t, hi, hc, e1, e2, hdd, dg, h⟩ => ?_
      refine ⟨Z, P, A, env, S, c, dd, w, g, t, hi, hc, e1, e2, hdd, dg, post.bind h fun A1 H1 x dx S1 f1 r1 vx h1 => ?_⟩
      exact ⟨Z, P, A1, env, S1, c, dd, w, g, t.next f1 r1, hi, hc, e1, e2, xd_keep t.g.rel hdd f1, f1.denF dg, post.bind h1 fun A2 H2 xs ds S2 f2 r2 dxs h2 => here_ok r2 (DenL.cons (f2.denF vx) dxs) h2⟩
    · cases h
end
end
section
variable {T : Tab} {F : FT} {k m : Nat} {ca : Nat → Addr}
theorem swap_bl {a : Expr} {gs : List Comprehension} {csc : Scope} {p px pos : Pos} {x : Str} {env : Env} : swapsWith (.ListComp a gs csc p) (some (.Name x px)) pos.line env = pure (env.blockKind == .function && env.kindOf x == some .local && px.line == p.line && !(csc.names.any fun (n, k) => n == x && (k == .local || k == .cell))) := rfl
theorem try_read {K : PySem.W.Frag} {i n h : Nat} {b : VS} {e : VE} {W : WX} (hK : ∀ c, c < n → PySem.W.exmOne K (.ref (ca c)) (.ref (ca h)) = some (takesC c h)) (D : Ends) (σ : L2.St) (H : Hp) (q : tS F k ca W (.tr b (.hcons n h (some i) (.seq (.ret e) .skip) .hnil)) D σ H) :
    tS F k ca (wAs K (.ref (ca h)) i (fun a cls d => tRet (rdX n k ca i a cls d DenF (fun gv => ev F k gv e))) W D) b D σ H := by
  obtain ⟨Z, P, A, env, S, t, q⟩ := q
  refine rdS.mk t ?_
  have q : postS Z P ca W A H (match run F k b env S with
    | .exc c d env S => hand F k (.hcons n h (some i) (.seq (.ret e) .skip) .hnil) c d env S
    | r => r) D := q
  cases q1 : run F k b env S with
  | stuck => rw [q1] at q; exact q.elim
  | go f env1 S1 =>
    rw [q1] at q
    cases f with
    | nx => exact q
    | bk => exact q
    | ct => exact q
    | rt d => exact q
  | exc c d env1 S1 =>
    rw [q1] at q
    have q : postS Z P ca W A H (if c < n then (if takesC c h = true then (if i < env1.length then (match suite F k (.seq (.ret e) .skip) d (env1.set i none) S1 with
        | .go f env S => .go f (env.set i none) S
        | r => r) else .stuck) else .exc c d env1 S1) else .stuck) D := q
    by_cases hc : c < n
    · rw [if_pos hc] at q
      intro A1 H1 σ1 v e1 r1 en1 dv dx hdx
      refine ⟨takesC c h, hK c hc, fun ht a ha => ?_, fun ht => ?_⟩
      · rw [if_pos ht] at q
        by_cases hi : i < env1.length
        · rw [if_pos hi] at q
          refine ⟨Z, P, A1, env1.set i none, S1, c, dx, v, d, ⟨t.g.ext e1 r1, t.hk, en1.none i _⟩, ?_, hc, rfl, rfl, hdx, dv, ?_⟩
          · rw [List.getElem?_set_self (by rw [en1.1]; exact hi)]
          · have q : postS Z P ca W A H (match ((ev F k (some d) e (env1.set i none) S1).calm.stm (env1.set i none) fun x S => .go (.rt x) (env1.set i none) S).andThen (fun env S => suite F k .skip d env S) with
              | .go f env S => .go f (env.set i none) S
              | r => r) D := q
            cases q2 : ev F k (some d) e (env1.set i none) S1 with
            | stuck => rw [q2] at q; exact q.elim
            | exc _ _ _ => rw [q2] at q; exact q.elim
            | ok x S2 =>
              rw [q2] at q
              show post Z P (DenF Z) (fun _ _ _ => False) A1 H1 (ev F k (some d) e (env1.set i none) S1) D.rt
              rw [q2]
              exact fun A2 H2 w e2 r2 dw => q A2 H2 w (e1.trans e2) r2 dw
        · rw [if_neg hi] at q; exact q.elim
      · rw [ht] at q
        exact q A1 H1 σ1 v e1 r1 en1 dv dx hdx
    · rw [if_neg hc] at q; exact q.elim
theorem chkU_ok {C : CC} {v : Str} {u : VS} {bs : List Stmt} (h : chkU C v u bs = true) : ∃ e f p, u = .seq (.ret e) .skip ∧ bs = [.Return (some f) p] ∧ chkX C v e f = true := by
  unfold chkU at h
  split at h
  · exact ⟨_, _, _, rfl, rfl, h⟩
  · cases h
theorem SOk.lcl {X : Cx} {W : WX} {C : CC} (o : SOk T F ca m X W C) {x : Str} (h : locL C x = true) : X.env.scope.names.lookup x = some .local := by
  rw [o.e.sc]
  exact beq_iff_eq.mp h
theorem gname_read {i : Nat} {v : V} {σ : L2.St} {H : Hp} {Q : L2.St → Hp → Prop} (h : tG F k (.tloc i) v σ H Q) : gName i v σ H Q := by
  obtain ⟨Z, P, A, env, S, d, t, dv, h⟩ := h
  refine h A H _ (Ext.refl _ _) t.g.rel ⟨t.en.set i dv, by simp, fun j hj => ?_⟩
  have : i ≠ j := fun q => hj (by rw [← q]; exact List.mem_singleton.mpr rfl)
  rw [List.getElem?_set_ne this]
mutual
theorem sndS : ∀ (vs : VS) {X : Cx} {W : WX} {C : CC} {s : Stmt}, SOk T F ca m X W C → chkS T vs C s = true → PS X s (tS F k ca W vs)
  | .asg t e, X, W, C, s, o, h => by
    simp only [chkS] at h
    split at h
    · rename_i x px f pos
      simp only [Bool.and_eq_true] at h
      obtain ⟨h1, h2, h3⟩ := h
      have pe := sndE (k := k) e o.e h2
      have pg := sndG (k := k) t o.e h1
      split at h3
      · rename_i a gs csc p
        cases hb : swapB C.sc x px p csc with
        | false =>
          have hsw : swapsWith (.ListComp a gs csc p) (some (.Name x px)) pos.line X.env = pure false := by
            have hb' : swapB X.env.scope x px p csc = false := by rw [o.e.sc]; exact hb
            rw [swap_bl]
            exact congrArg pure hb'
          exact ps_imp (ps_asg pe pg hsw rfl rfl) asg_read
        | true =>
          rw [hb] at h3
          simp only [if_true, Bool.and_eq_true] at h3
          obtain ⟨h3, h4⟩ := h3
          have hsw : swapsWith (.ListComp a gs csc p) (some (.Name x px)) pos.line X.env = pure true := by
            have hb' : swapB X.env.scope x px p csc = true := by rw [o.e.sc]; exact hb
            rw [swap_bl]
            exact congrArg pure hb'
          have hy := o.lcl h3
          cases t with
          | tloc i =>
            simp only [chkG, Bool.and_eq_true, decide_eq_true_eq] at h1
            cases e with
            | lc c own tg it ifs elt =>
              simp only [chk] at h2
              split at h2
              · rename_i f g i2 cs sc pos2 heq
                cases heq
                simp only [Bool.and_eq_true, Bool.not_eq_true'] at h2
                obtain ⟨g1, g2, g3, g4, g5, g6, g7⟩ := h2
                rw [← o.e.N, ← o.e.sc] at g1
                refine ps_imp (ps_setLc o.e.calm o.e.nd (o.e.at_ h1.1) hy hsw (sndI (k := k) it o.e g3) (blkOk_by g1) (fun s H D cl fp => sndG (k := k) tg (o.e.blk s H csc cl D fp) g5) (fun s H D cl fp => ?_) (fun s H D cl fp => sndE (k := k) elt (o.e.blk s H csc cl D fp) g7) (folded1 g2)) (fun D σ H q => lc_read (fun i hi => List.contains_iff_mem.mp (List.all_eq_true.mp g4 i hi)) σ H _ (tE_mono (asg_read D σ H q) fun x H1 z => gname_read z))
                split at g6
                · cases ifs <;> first | (simp [isNil] at g6; done) | skip
                  exact pts_imp pts_nil fun σ H Q ⟨Z, P, A, env, S, t, h⟩ => here_ok (v := true) t.g.rel rfl h
                · exact pts_one (sndT ifs (o.e.blk s H csc cl D fp) g6)
                · cases g6
              · cases h2
            | lc2 c own own2 tg it tg2 it2 ifs elt =>
              simp only [chk] at h2
              split at h2
              · rename_i f g i1 g2 i2 cs sc pos2 heq
                cases heq
                simp only [Bool.and_eq_true, Bool.not_eq_true'] at h2
                obtain ⟨k1, k2, k3, k4, k5, k6, k7, k8, k9, k10, k11, k12⟩ := h2
                rw [← o.e.N, ← o.e.sc] at k1
                refine ps_imp (ps_setLc2 o.e.calm o.e.nd (o.e.at_ h1.1) hy hsw (sndI (k := k) it o.e k3) (blkOk_by k1) (fun i hi => List.contains_iff_mem.mp (List.all_eq_true.mp k5 i hi)) (fun s H D cl fp => sndG (k := k) tg (o.e.blk s H csc cl D fp) k7) (fun s H D cl fp => pts_nil) (fun s H D cl fp => sndI (k := k) it2 (o.e.blk s H csc cl D fp) k9) (fun s H D cl fp => sndG (k := k) tg2 (o.e.blk s H csc cl D fp) k10) (fun s H D cl fp => ?_) (fun s H D cl fp => sndE (k := k) elt (o.e.blk s H csc cl D fp) k12) (folded1 k2) (fun env => folded1 k8))
                  (fun D σ H q => lc2_read (fun i hi => List.contains_iff_mem.mp (List.all_eq_true.mp k4 i hi)) (fun i hi => List.contains_iff_mem.mp (List.all_eq_true.mp k6 i hi)) σ H _ (tE_mono (asg_read D σ H q) fun x H1 z => gname_read z))
                split at k11
                · cases ifs <;> first | (simp [isNil] at k11; done) | skip
                  exact pts_imp pts_nil fun σ H Q ⟨Z, P, A, env, S, t, h⟩ => here_ok (v := true) t.g.rel rfl h
                · exact pts_one (sndT ifs (o.e.blk s H csc cl D fp) k11)
                · cases k11
              · cases h2
            | _ => exact absurd h2 (by simp [chk])
          | _ => exact absurd h1 (by simp [chkG])
      · have hc : isComp f = false := by
          cases f <;> first | rfl | (simp [isComp] at h3)
        exact ps_imp (ps_asg pe pg (sole1 hc) (by cases f <;> rfl) rfl) asg_read
    · rename_i ts j p f pos
      simp only [Bool.and_eq_true] at h
      obtain ⟨h1, h2, h3⟩ := h
      have pe := sndE (k := k) e o.e h2
      have pg := sndG (k := k) t o.e h1
      exact ps_imp (ps_asg pe pg sole2 (by cases f <;> first | rfl | (simp at h3)) rfl) asg_read
    · rename_i ob i p f pos
      simp only [Bool.and_eq_true, Bool.not_eq_true'] at h
      obtain ⟨h1, h2, h3⟩ := h
      have pe := sndE (k := k) e o.e h2
      have pg := sndG (k := k) t o.e h1
      exact ps_imp (ps_asg pe pg (sole1 h3) (by cases f <;> rfl) rfl) asg_read
    · cases h
  | .par ts es, X, W, C, s, o, h => by
    simp only [chkS] at h
    split at h
    · rename_i fs j p gs l q pos
      simp only [Bool.and_eq_true, decide_eq_true_eq] at h
      obtain ⟨h1, h2, h3, h4⟩ := h
      have pa := sndEs (k := k) es o.e h2
      split at h4
      · rename_i hs
        rw [← o.e.sc] at hs
        have hs' := chkGs_stars ts h1
        exact ps_imp (ps_asg (e_tup pa) (g_tup o.e.calm hs'.1 hs'.2 (sndGs (k := k) ts o.e h1)) sole2 (swS_ok hs) rfl) (par_read h3)
      · rename_i ns hs
        rw [← o.e.sc] at hs
        simp only [Bool.and_eq_true, decide_eq_true_eq] at h4
        obtain ⟨h4, rfl⟩ := h4
        unfold chkP at h4
        split at h4
        · simp only [Bool.and_eq_true, decide_eq_true_eq] at h4
          obtain ⟨c1, c2, c3, c4, c5⟩ := h4
          exact ps_imp (ps_par o.e.calm o.e.nd (o.e.at_ c1) (o.e.at_ c2) c3 (o.lcl c4) (o.lcl c5) pa (swS_ok hs) sole2) par2_read
        · simp only [Bool.and_eq_true, decide_eq_true_eq] at h4
          obtain ⟨c1, c2, c3, c4, c5, c6, c7, c8, c9⟩ := h4
          exact ps_imp (ps_par3 o.e.calm o.e.nd (o.e.at_ c1) (o.e.at_ c2) (o.e.at_ c3) c4 c5 c6 (o.lcl c7) (o.lcl c8) (o.lcl c9) pa (swS_ok hs) sole2) par3_read
        · cases h4
      · cases h4
    · cases h
  | .exp e, X, W, C, s, o, h => by
    simp only [chkS] at h
    split at h
    · simp only [Bool.and_eq_true, Bool.not_eq_true'] at h
      exact ps_imp (ps_expr (sndE e o.e h.1) (swap1 h.2)) exp_read
    · cases h
  | .ret e, X, W, C, s, o, h => by
    simp only [chkS] at h
    split at h
    · exact ps_imp (ps_ret (sndE e o.e h)) ret_read
    · cases h
  | .retn, X, W, C, s, o, h => by
    simp only [chkS] at h
    split at h
    · exact ps_imp ps_retN retn_read
    · cases h
  | .ite c a b, X, W, C, s, o, h => by
    simp only [chkS] at h
    split at h
    · simp only [Bool.and_eq_true] at h
      exact ps_imp (ps_if (sndT c o.e h.1) (sndSs a o h.2.1) (sndSs b o h.2.2)) ite_read
    · cases h
  | .fr t it b, X, W, C, s, o, h => by
    simp only [chkS] at h
    split at h
    · simp only [Bool.and_eq_true, Bool.not_eq_true'] at h
      exact ps_imp (ps_for o.own o.e.calm (sndI it o.e h.2.2.1) (sndG t o.e h.1) (sndSs b o h.2.2.2) (folded1 h.2.1)) for_read
    · cases h
  | .wh c b, X, W, C, s, o, h => by
    simp only [chkS] at h
    split at h
    · simp only [Bool.and_eq_true] at h
      exact ps_imp (ps_while o.own (sndT c o.e h.1) (sndSs b o h.2)) while_read
    · cases h
  | .brk, X, W, C, s, o, h => by
    simp only [chkS] at h
    split at h
    · exact ps_imp ps_break brk_read
    · cases h
  | .cnt, X, W, C, s, o, h => by
    simp only [chkS] at h
    split at h
    · exact ps_imp ps_continue cnt_read
    · cases h
  | .rais c e, X, W, C, s, o, h => by
    simp only [chkS] at h
    split at h
    · simp only [Bool.and_eq_true, decide_eq_true_eq, Bool.not_eq_true'] at h
      obtain ⟨h0, h1, h2, h3, h4, h5⟩ := h
      exact ps_imp (ps_raise o.e.calm o.e.tk (o.rzat h0 h1 (o.e.gl h2) (okN_d h3).1 h4 (sndE (k := k) e o.e h5))) rais_read
    · cases h
  | .tr b hs, X, W, C, s, o, h => by
    simp only [chkS] at h
    split at h
    · rename_i p x np v b₀ bs hp pos
      simp only [Bool.and_eq_true] at h
      obtain ⟨h1, h2⟩ := h
      split at h2
      · rename_i n c i u
        simp only [Bool.and_eq_true, decide_eq_true_eq] at h2
        obtain ⟨rfl, g1, g2, g3, g4, g5, g6, g8⟩ := h2
        obtain ⟨e, f, rp, rfl, eb, g7⟩ := chkU_ok g8
        obtain ⟨f1, f2, f3, f4⟩ := o.rz c x g1
        have hin : ∀ c', c' < T.excs.length → XfC X.K (ca c') ∧ PySem.W.findIn X.K (.ref (ca c')) "given" = some none := fun c' hc' => by
          obtain ⟨_, q2, q3, _⟩ := o.rz c' _ (List.getElem?_eq_getElem hc')
          exact ⟨q2, q3⟩
        have hcl : c < T.excs.length := (List.getElem?_eq_some_iff.mp g1).1
        refine ps_imp (ps_try_as (i := i) (c := .ref (ca c)) (Wout := W) (tb := fun W' => tS F k ca W' b) (ts := fun a cls d => tRet (rdX T.excs.length k ca i a cls d DenF (fun gv => ev F k gv e))) o.stk o.fr o.e.nd (o.e.at_ g4) (o.lcl g5) ⟨o.e.gl g2, (okN_d g3).1, .inl f1⟩ o.e.tk (fun W' pn xe tk own => sndSs b (o.tr tk own) h1) fun a oe cls d pn hz hf => ?_) (try_read fun c' hc' => o.exm c' c hc' hcl)
        rw [eb]
        exact pss_one (ps_ret (sndX (C := C) (o.e.at_ g4) (.inl (o.lcl g5)) (okN_d g6) hin hz hf e f g7))
      · cases h2
    · cases h
  | .skip, _, _, _, _, _, h => absurd h (by simp [chkS])
  | .seq _ _, _, _, _, _, _, h => absurd h (by simp [chkS])
  | .aug _ _ _, _, _, _, _, _, h => absurd h (by simp [chkS])
  | .hnil, _, _, _, _, _, h => absurd h (by simp [chkS])
  | .hcons _ _ _ _ _, _, _, _, _, _, h => absurd h (by simp [chkS])
theorem sndSs : ∀ (vs : VS) {X : Cx} {W : WX} {C : CC} {s : List Stmt}, SOk T F ca m X W C → chkSs T vs C s = true → PSs X s (tS F k ca W vs)
  | .skip, X, W, C, s, o, h => by
    cases s with
    | nil => exact pss_imp pss_nil skip_read
    | cons _ _ => exact absurd h (by simp [chkSs])
  | .seq a b, X, W, C, s, o, h => by
    cases s with
    | nil => exact absurd h (by simp [chkSs])
    | cons s r =>
      simp only [chkSs, Bool.and_eq_true] at h
      exact pss_imp (pss_cons (sndS a o h.1) (sndSs b o h.2)) seq_read
  | .asg _ _, _, _, _, _, _, h => absurd h (by simp [chkSs])
  | .par _ _, _, _, _, _, _, h => absurd h (by simp [chkSs])
  | .aug _ _ _, _, _, _, _, _, h => absurd h (by simp [chkSs])
  | .exp _, _, _, _, _, _, h => absurd h (by simp [chkSs])
  | .ret _, _, _, _, _, _, h => absurd h (by simp [chkSs])
  | .retn, _, _, _, _, _, h => absurd h (by simp [chkSs])
  | .ite _ _ _, _, _, _, _, _, h => absurd h (by simp [chkSs])
  | .fr _ _ _, _, _, _, _, _, h => absurd h (by simp [chkSs])
  | .wh _ _, _, _, _, _, _, h => absurd h (by simp [chkSs])
  | .brk, _, _, _, _, _, h => absurd h (by simp [chkSs])
  | .cnt, _, _, _, _, _, h => absurd h (by simp [chkSs])
  | .rais _ _, _, _, _, _, _, h => absurd h (by simp [chkSs])
  | .tr _ _, _, _, _, _, _, h => absurd h (by simp [chkSs])
  | .hnil, _, _, _, _, _, h => absurd h (by simp [chkSs])
  | .hcons _ _ _ _ _, _, _, _, _, _, h => absurd h (by simp [chkSs])
end
end
end VI

set_option Elab.async false
set_option linter.all false
set_option maxRecDepth 100000
set_option maxHeartbeats 4000000
/-! VI, part 14: defs. -/
namespace VI
open PySem PySem.Spec PyProof.Rows L2

/-! ### a def's own cells are let go -/
section
variable {Z : Addr → Prop} {P : Nat → Prop} {A N : List Addr} {S S1 : Sto} {H H1 : Hp} {k : Nat}
/-- the def's base among the bases -/
def addB (P : Nat → Prop) (k : Nat) : Nat → Prop := fun j => P j ∨ j = k
theorem Rel.base (r : Rel Z P A S H) : Rel Z (addB P S.length) A S H := ⟨r.len, r.nd, r.res, fun n ds h => by
  obtain ⟨a, xs, h1, h2, h3, h4⟩ := r.cell n ds h
  refine ⟨a, xs, h1, h2, h3, fun j hj hn => ?_⟩
  rcases hj with hj | rfl
  · exact h4 j hj hn
  · rw [← r.len]; exact h3⟩
theorem Rel.unbase (r : Rel Z (addB P k) A S H) : Rel Z P A S H := ⟨r.len, r.nd, r.res, fun n ds h => by
  obtain ⟨a, xs, h1, h2, h3, h4⟩ := r.cell n ds h
  exact ⟨a, xs, h1, h2, h3, fun j hj hn => h4 j (.inl hj) hn⟩⟩
theorem forb_cut {a : Addr} (h : ¬ forb (A ++ N) Z a) : ¬ forb A Z a := fun q => h (q.elim (fun z => .inl (List.mem_append_left _ z)) .inr)
theorem denL_cut {j k' : Nat} (hj : j ≤ A.length) (hk : j ≤ k') {xs : List V} {ds : List DD} (h : DenL (forb (A ++ N) Z) (A ++ N) j H xs ds) : DenL (forb A Z) A k' H xs ds :=
  DenL.imp (fun _ _ _ q => forb_cut q) (fun n a h1 h2 => ⟨Nat.lt_of_lt_of_le h1 hk, by rw [List.getElem?_append_left (Nat.lt_of_lt_of_le h1 hj)] at h2; exact h2⟩) (fun _ _ _ q => q) _ _ h
theorem Rel.cut (r : Rel Z (addB P k) (A ++ N) S H) (hk : A.length = k) (hP : ∀ j, P j → j ≤ k) : Rel Z P A (S.take k) H := by
  have hl : k ≤ S.length := by have := r.len; rw [List.length_append] at this; omega
  refine ⟨by rw [List.length_take]; omega, ?_, fun a h => ⟨(r.res a h).1, fun q => (r.res a h).2 (List.mem_append_left _ q)⟩, fun n ds h => ?_⟩
  · exact (List.nodup_append.mp r.nd).1
  · by_cases hn : n < k
    · rw [List.getElem?_take_of_lt hn] at h
      obtain ⟨a, xs, h1, h2, h3, h4⟩ := r.cell n ds h
      rw [List.getElem?_append_left (by omega)] at h1
      exact ⟨a, xs, h1, h2, denL_cut (by omega) (by omega) (h4 k (.inr rfl) hn), fun j hj hn => denL_cut (by have := hP j hj; omega) (Nat.le_refl _) (h4 j (.inl hj) hn)⟩
    · rw [List.getElem?_eq_none (by rw [List.length_take]; omega)] at h
      cases h
theorem snap_list {f : DD → Option DD} (hf : ∀ d e v, f d = some e → DenF Z (A ++ N) H v d → Den (forb A Z) A k H v e) : ∀ {ds es : List DD} {xs : List V}, mapO f ds = some es → DenLF Z (A ++ N) H xs ds → DenL (forb A Z) A k H xs es
  | [], _, _, e, h => by cases e; cases h; exact .nil
  | d :: ds, _, _, e, h => by
    obtain ⟨b, m, h1, h2, rfl⟩ := mapO_cons e
    cases h with
    | cons g1 g2 => exact .cons (hf _ _ _ h1 g1) (snap_list hf h2 g2)
theorem map_some {α β : Type} {o : Option α} {f : α → β} {b : β} (h : o.map f = some b) : ∃ a, o = some a ∧ f a = b := Option.map_eq_some_iff.mp h
theorem snap_den (r : Rel Z P (A ++ N) S H) (hk : A.length = k) : ∀ (n : Nat) (d e : DD) (v : V), snap k S n d = some e → DenF Z (A ++ N) H v d → Den (forb A Z) A k H v e
  | 0, _, _, _, h, _ => by simp [snap] at h
  | n + 1, d, e, v, h, hd => by
    have ih := snap_den r hk n
    cases hd with
    | non => cases h; exact .non
    | bl b => cases h; exact .bl b
    | int i => cases h; exact .int i
    | str s => cases h; exact .str s
    | @lst a xs ds h1 h2 h3 =>
      obtain ⟨es, q, rfl⟩ := map_some (show (mapO (snap k S n) ds).map DD.lst = some e from h)
      exact .lst (forb_cut h1) h2 (snap_list ih q h3)
    | @tup a xs ds h1 h2 h3 =>
      obtain ⟨es, q, rfl⟩ := map_some (show (mapO (snap k S n) ds).map DD.tup = some e from h)
      exact .tup (forb_cut h1) h2 (snap_list ih q h3)
    | emp h1 h2 => cases h; exact .emp (forb_cut h1) h2
    | scr h1 h2 => cases h; exact .scr (forb_cut h1) h2
    | @cel a m h1 h2 =>
      have h : (if m < k then some (DD.cel m) else match S[m]? with
        | some xs => (mapO (snap k S n) xs).map .lst
        | none => none) = some e := h
      by_cases hm : m < k
      · rw [if_pos hm] at h
        cases h
        exact .cel hm (by rw [List.getElem?_append_left (by omega)] at h2; exact h2)
      · rw [if_neg hm] at h
        cases q : S[m]? with
        | none => rw [q] at h; cases h
        | some ds =>
          rw [q] at h
          obtain ⟨es, q2, rfl⟩ := map_some (show (mapO (snap k S n) ds).map DD.lst = some e from h)
          obtain ⟨b, xs, hb, hx, hd, _⟩ := r.cell m ds q
          rw [h2] at hb; cases hb
          refine .lst (fun z => ?_) hx (snap_list ih q2 hd)
          rcases z with z | z
          · obtain ⟨i, hi⟩ := List.getElem?_of_mem z
            have hil := (List.getElem?_eq_some_iff.mp hi).1
            have e1 : (A ++ N)[i]? = some a := by rw [List.getElem?_append_left hil]; exact hi
            have l1 := (List.getElem?_eq_some_iff.mp e1).1
            have l2 := (List.getElem?_eq_some_iff.mp h2).1
            have := (List.getElem_inj r.nd (h₀ := l1) (h₁ := l2)).mp ((List.getElem?_eq_some_iff.mp e1).2.trans (List.getElem?_eq_some_iff.mp h2).2.symm)
            omega
          · exact (r.res a z).2 (List.mem_of_getElem? h2)
theorem Ext.cut {A' : List Addr} (e : Ext A H A' H1) : Ext A H A H1 := ⟨⟨[], by simp, by simp⟩, e.keep, e.dom⟩
theorem fin_ok {D : Bool} {α : Type} {W : Nat → V → Hp → Prop} {d : DD} {q : DD → Sto → R DD} {Q : VK} {A' : List Addr} {v : V} (hk : A.length = k) (hP : ∀ j, P j → j ≤ k) (h : post Z P (DenF Z) W A H (finD D k d S1 q) Q)
    (e : Ext A H A' H1) (r : Rel Z (addB P k) A' S1 H1) (hv : DenF Z A' H1 v d) : ∃ A2 S2 d2, Ext A H A2 H1 ∧ Rel Z P A2 S2 H1 ∧ DenF Z A2 H1 v d2 ∧ post Z P (DenF Z) W A H (q d2 S2) Q := by
  cases D with
  | true => exact ⟨A', S1, d, e, r.unbase, hv, h⟩
  | false =>
    have h : post Z P (DenF Z) W A H (match snap k S1 depthMax d with
      | some e => q e (S1.take k)
      | none => .stuck) Q := h
    cases hs : snap k S1 depthMax d with
    | none => rw [hs] at h; exact h.elim
    | some d2 =>
      rw [hs] at h
      obtain ⟨N, rfl, _⟩ := id e.more
      have := snap_den r hk depthMax d d2 v hs hv
      exact ⟨A, S1.take k, d2, e.cut, r.cut hk hP, by rw [← hk] at this; exact this, h⟩
end
/-! ### the defs of a text -/
/-- a def's facts -/
structure StF (T : Tab) (G : Pg) (K : PySem.W.Frag) (mg : Str → Option Value) (f : Nat) (x : Str) (ps : List Str) (fa : Addr) (fd : FuncData) : Prop where
  mg : mg x = some (.ref fa)
  bind : Binds K fd ps []
  kws : ∀ np ks pm, (f, np, ks, pm) ∈ T.kws → ∀ (s : Shared) (us ws ts : List Value), K.In s.heap → us.length = np → ws.length = ks.length → mapO (fun i : Nat => (us ++ ws)[i]?) pm = some ts → BindsTo s fd ⟨us, ks.zip ws⟩ (ps.zip ts)
  body : ∃ (nm qual : Str) (params : Arguments) (body : List Stmt) (scope : Scope) (D : Df) (N : List Str), FunD K nm qual params body scope [] [] fa fd ∧ FnScope N ps scope ∧ G[f]? = some D ∧ D.ps = ps.length ∧ D.names = N.length ∧ chkSs T D.body ⟨N, scope, fun _ => true⟩ body = true
/-- the text's facts -/
structure Hd (T : Tab) (G : Pg) (ca : Nat → Addr) (P : Program) (w : World) (K : PySem.W.Frag) (mg : Str → Option Value) (base : Heap) : Prop where
  nums : ∀ x i, (x, i) ∈ T.nums → ∃ u, mg x = some u ∧ RelV (.int i) u
  txts : ∀ x i, (x, i) ∈ T.txts → ∃ u, mg x = some u ∧ RelV (.str i) u
  free : ∀ x, x ∈ T.free → mg x = none
  funs : ∀ (f : Nat) x ps, T.funs[f]? = some (x, ps) → ∃ fa fd, StF T G K mg f x ps fa fd
  rz : ∀ (c : Nat) x, T.excs[c]? = some x → mg x = some (.ref (ca c)) ∧ XfC K (ca c) ∧ PySem.W.findIn K (.ref (ca c)) "given" = some none ∧
    (c ≠ 0 → ∀ X : Cx, X.prog = P → X.w = w → X.K = K → X.mg = mg → X.base = base → X.calm = true → Room 3 X.A → RzAt X ca c x)
  exm : ∀ c h, c < T.excs.length → h < T.excs.length → PySem.W.exmOne K (.ref (ca c)) (.ref (ca h)) = some (takesC c h)
theorem room_le {j k : Nat} {A : Around} (h : Room k A) (hj : j ≤ k) : Room j A := ⟨h.hd, by have := h.dp; omega, by have := h.un; omega⟩
theorem run_ok {F : FT} {ca : Nat → Addr} {D : Df} {Z : Addr → Prop} {P : Nat → Prop} {A : List Addr} {S : Sto} {H : Hp} {E : XK} {Q : VK} {r : RS} (g : Sg Z P A S H) (h : post Z P (DenF Z) (wE ca E) A H (endOf D S.length r) Q) :
    postS Z (addB P S.length) ca (fun cls d _ H' => E cls d H') A H r { nx := fun _ H' => Q .non H', rt := Q } := by
  have hk : A.length = S.length := g.rel.len
  cases r with
  | stuck => exact h.elim
  | exc c d env S1 =>
    intro A' H' σ v e r' en dv dx hdx
    obtain ⟨A2, S2, d2, e2, r2, v2, h2⟩ := fin_ok (α := DD) hk g.hP (show post Z P (DenF Z) (wE ca E) A H (finD D.keep S.length d S1 fun d S => .exc c d S) Q from h) e r' dv
    exact h2 A2 H' v e2 r2 v2 dx hdx
  | go f env S1 =>
    cases f with
    | nx =>
      intro A' H' σ e r' en
      obtain ⟨A2, S2, d2, e2, r2, v2, h2⟩ := fin_ok (α := DD) (v := V.non) hk g.hP (show post Z P (DenF Z) (wE ca E) A H (finD D.keep S.length .non S1 .ok) Q from h) e r' .non
      exact h2 A2 H' .non e2 r2 v2
    | rt d =>
      intro A' H' v e r' dv
      obtain ⟨A2, S2, d2, e2, r2, v2, h2⟩ := fin_ok (α := DD) hk g.hP (show post Z P (DenF Z) (wE ca E) A H (finD D.keep S.length d S1 .ok) Q from h) e r' dv
      exact h2 A2 H' v e2 r2 v2
    | bk => exact h.elim
    | ct => exact h.elim
theorem start_env {Z : Addr → Prop} {A : List Addr} {H : Hp} {N : List Str} {vs : List V} {ds : List DD} {n : Nat} (hn : n = N.length) (h : DenLF Z A H vs ds) : EnvR Z A H (L2.start N vs) (ds.map some ++ List.replicate (n - ds.length) none) := by
  have hl := h.length
  unfold L2.start
  refine ⟨by simp [hl, hn], fun i d q => ?_⟩
  by_cases hi : i < ds.length
  · rw [List.getElem?_append_left (by simpa using hi), List.getElem?_map] at q
    obtain ⟨e, q1, q2⟩ := map_some q
    cases q2
    obtain ⟨v, hv, dv⟩ := h.get q1
    refine ⟨v, ?_, dv⟩
    rw [List.getElem?_append_left (by simp; omega), List.getElem?_map, hv]
    rfl
  · rw [List.getElem?_append_right (by simpa using hi), List.getElem?_replicate] at q
    split at q <;> cases q
theorem fns_ok {T : Tab} {G : Pg} {ca : Nat → Addr} {P : Program} {w : World} {K : PySem.W.Frag} {mg : Str → Option Value} {base : Heap} (hd : Hd T G ca P w K mg base) : ∀ (n : Nat) (f : Nat) (x : Str) (ps : List Str) (fa : Addr) (fd : FuncData), StF T G K mg f x ps fa fd →
    PySem.W.keepIn K (.ref fa) = true ∧ FnOk P w K mg base (CX P w) (n + 3) fa fd ps (spF (callF G n) ca f)
  | 0, f, x, ps, fa, fd, st => by
    obtain ⟨nm, qual, params, body, scope, D, N, F, _⟩ := st.body
    refine ⟨F.kp, ⟨fun vs H Q E h => ?_, fun A outer s H args us vs Q E _ _ _ _ h => ?_⟩⟩
    · obtain ⟨_, _, _, _, _, _, _, h⟩ := h; exact h.elim
    · obtain ⟨_, _, _, _, _, _, _, h⟩ := h; exact h.elim
  | n + 1, f, x, ps, fa, fd, st => by
    obtain ⟨nm, qual, params, body, scope, D, N, F, Sc, hG, hps, hN, hch⟩ := st.body
    have unf : ∀ ds S, callF G (n + 1) f ds S = if ds.length = D.ps then endOf D S.length (run (callF G n) S.length D.body (ds.map some ++ List.replicate (D.names - ds.length) none) S) else .stuck := fun ds S => by
      show (match G[f]? with
        | none => R.stuck
        | some D => if ds.length = D.ps then endOf D S.length (run (callF G n) S.length D.body (ds.map some ++ List.replicate (D.names - ds.length) none) S) else .stuck) = _
      rw [hG]
    refine ⟨F.kp, F.ok Sc (fun vs H Q E h => ?_) (fun cdv A outer s H vs Q E hr h => ?_)⟩
    · obtain ⟨Z, P', A', S, ds, g, dv, h⟩ := h
      rw [unf] at h
      by_cases hl : ds.length = D.ps
      · rw [dv.length, hl, hps]
      · rw [if_neg hl] at h; exact h.elim
    · obtain ⟨Z, P', A', S, ds, g, dv, h⟩ := h
      rw [unf] at h
      by_cases hl : ds.length = D.ps
      · rw [if_pos hl] at h
        have sok : SOk T (callF G n) ca (n + 3) (cxOf (CX P w) P w K mg base N qual scope fa cdv A outer s H E) (fun cls d _ H' => E cls d H') ⟨N, scope, fun _ => true⟩ := by
          refine ⟨⟨rfl, rfl, rfl, Sc.nd, rfl, hr, takes_of rfl rfl rfl rfl, ⟨hd.nums, hd.txts, hd.free, fun f x ps q => ?_⟩⟩, passes_of rfl, rfl, rfl, fun c x q => ?_, hd.exm⟩
          · obtain ⟨fa, fd, st⟩ := hd.funs f x ps q
            obtain ⟨h1, h2⟩ := fns_ok hd n f x ps fa fd st
            exact ⟨fa, fd, ⟨st.mg, h1, st.bind, h2⟩, st.kws⟩
          · obtain ⟨h1, h2, h3, h4⟩ := hd.rz c x q
            exact ⟨h1, h2, h3, fun h0 pn xe => h4 h0 _ rfl rfl rfl rfl rfl rfl (room_le hr (by omega))⟩
        refine ⟨_, sndSs (k := S.length) D.body sok hch, Z, addB P' S.length, A', _, S, ⟨⟨g.rel.base, fun j hj => ?_⟩, fun j hj => ?_, start_env hN dv⟩, run_ok (F := callF G n) g h⟩
        · exact hj.elim (g.hP j) fun q => by omega
        · exact hj.elim (g.hP j) fun q => by omega
      · rw [if_neg hl] at h; exact h.elim
end VI

set_option Elab.async false
set_option linter.all false
set_option maxRecDepth 100000
set_option maxHeartbeats 4000000
/-! VI, part 15: own exceptions over MapError; the head's Hook. -/
namespace VI
open PySem PySem.Spec PyProof.Rows L2

/-! ### an own exception's __init__ that asks MapError's -/
/-- what the written part says of the base class -/
structure MbC (K : PySem.W.Frag) (B : Addr) : Prop where
  ga : PySem.W.specialIn K (.ref B) "__getattribute__" = some (some (.builtin "type.__getattribute__"))
  rd : PySem.W.readsIn K B (.type "type") = true
  fc : PySem.W.findCls K (.ref B) (.type "type") "__init__" = some (.val (.builtin "ValueError.__init__"))
section
variable {X : Cx} {e : Expr} {es : List Expr} {ta : TA} {p1 p2 pos : Pos} {B : Addr}
theorem pe_minit {pl : Sem Bool} (hg : Gl X "MapError") (hm : X.mg "MapError" = some (.ref B)) (M : MbC X.K B) (ha : PA X (e :: es) ta)
    (hc : eval (.Call (.Attribute (.Name "MapError" p1) "__init__" p2) (e :: es) [] pos) X.env = (do
      let ov ← eval (.Name "MapError" p1) X.env
      standAt p2.atName
      let (f, first) ← holding [ov] (getMethod ov "__init__" pl)
      callWith pos f first (backTo pos (starEach (e :: es) X.env)) (backToKw pos (keywordEach [] X.env))) := by rfl)
    (he : starEach (e :: es) X.env = (false, eval e X.env) :: starEach es X.env := by rfl) (hpl : (backTo pos (starEach es X.env)).any (·.1) = false := by rfl) :
    PE X (.Call (.Attribute (.Name "MapError" p1) "__init__" p2) (e :: es) [] pos) (tVeI X.K ta) := by
  refine ⟨fun pins s σ H Q I h => ?_⟩
  refine PySem.W.methodCall_KW (ld_glob I hg hm ?_ (by decide)) hc
  refine PySem.W.method_cls I.kIn M.ga (PySem.W.cls_value I.kIn M.rd M.fc (by decide +kernel) ?_)
  show wpAny _ _ (callWith pos (Value.builtin "ValueError.__init__") [] (backTo pos (starEach (e :: es) X.env)) []) _ _ _
  refine PyProof.Rows.callWith_method1 (thn (ha.run pos pins _ σ H _ (I.tok _) h) fun us s1 ⟨vs, H1, I1, r1, a, C, ws, ev, hl, T, ea, q⟩ => ?_) he hpl
  subst ev
  cases r1 with
  | @cons _ u0 _ ur ra rw' =>
    obtain rfl : u0 = Value.ref a := ra
    have hlen : ur.length ≤ sizeLine := by
      rw [← Paired.length rw', sizeLine_eq]
      omega
    exact oinit_ok T I1 ea hlen fun s' J => ⟨.non, H1, J, rfl, q⟩
end
theorem minit_eval {s1 : Str} {p3 p4 : Pos} {c : Const} {j : Nat} {env : Env} (hl : (p2.endLine == pos.line) = true) :
    eval (.Call (.Attribute (.Name "MapError" p1) "__init__" p2) [.Name s1 p3, .Constant c j p4] [] pos) env = (do
      let ov ← eval (.Name "MapError" p1) env
      standAt p2.atName
      let (f, first) ← holding [ov] (getMethod ov "__init__" (do return (← importBound (.Name "MapError" p1) env).getD true))
      callWith pos f first (backTo pos (starEach [.Name s1 p3, .Constant c j p4] env)) (backToKw pos (keywordEach [] env))) := by
  have h : methodCallPos true (.Name "MapError" p1) env p2 pos = pure pos := by
    unfold methodCallPos
    rw [hl]
    rfl
  have h2 : eval (.Call (.Attribute (.Name "MapError" p1) "__init__" p2) [.Name s1 p3, .Constant c j p4] [] pos) env = (do
      let ov ← eval (.Name "MapError" p1) env
      standAt p2.atName
      let (f, first) ← holding [ov] (getMethod ov "__init__" (do return (← importBound (.Name "MapError" p1) env).getD true))
      let callPos ← methodCallPos true (.Name "MapError" p1) env p2 pos
      callWith callPos f first (backTo pos (starEach [.Name s1 p3, .Constant c j p4] env)) (backToKw pos (keywordEach [] env))) := rfl
  rw [h2, h]
  rfl
/-- what such an __init__ does -/
def spInit (K : PySem.W.Frag) : Sp := fun vs H Q _ => ∃ (a C : Addr) (v : V), vs = [.ref a, v] ∧ OexC K C ∧ PySem.W.findIn K (.ref C) "given" = some none ∧ H a = some (exo a C none) ∧
  ∀ dx, H dx = none → dx ≠ a → Q .non (upd (upd H dx (exd dx [(("given" : Str), v)])) a (exo a C (some dx)))
/-- its text -/
def initB (body : List Stmt) (sc : Scope) : Bool := match body with
  | [.Expr (.Call (.Attribute (.Name b _) i i_p) [.Name s1 _, .Constant (.str _) _ _] [] c_pos) _, .Assign [.Attribute (.Name s2 _) g _] (.Name g2 _) _] =>
    (i_p.endLine == c_pos.line) && (decide (b = "MapError") && (decide (i = "__init__") && (decide (s1 = "self") && (decide (s2 = "self") && (decide (g = "given") && (decide (g2 = "given") &&
      (decide (sc.names.lookup ("self" : Str) = some .local) && (decide (sc.names.lookup ("given" : Str) = some .local) && decide (sc.names.lookup ("MapError" : Str) = some .globalImplicit)))))))))
  | _ => false
theorem init_ok {P : Program} {w : World} {K : PySem.W.Frag} {mg : Str → Option Value} {base : Heap} {nm qual : Str} {params : Arguments} {body : List Stmt} {scope : Scope} {f B : Addr} {fd : FuncData} (F : FunD K nm qual params body scope [] [] f fd) (Sc : FnScope ["self", "given"] ["self", "given"] scope) (hb : initB body scope = true)
    (hm : mg "MapError" = some (.ref B)) (M : MbC K B) : FnOk P w K mg base CX0 2 f fd ["self", "given"] (spInit K) := by
  refine F.ok (k := 1) Sc (fun vs H Q E h => ?_) (fun cdv A outer s H vs Q E hr h => ?_)
  · obtain ⟨a, C, v, rfl, _⟩ := h; rfl
  · unfold initB at hb
    split at hb
    · rename_i b bp i ip s1 s1p cs ck cp cpos epos s2 s2p g gp g2 g2p apos
      simp only [Bool.and_eq_true, decide_eq_true_eq] at hb
      obtain ⟨hl, rfl, rfl, rfl, rfl, rfl, rfl, h1, h2, h3⟩ := hb
      obtain ⟨a, C, v, rfl, T, hno, ea, q⟩ := h
      have g1 : Gl (cxOf CX0 P w K mg base ["self", "given"] qual scope f cdv A outer s H E) "MapError" := h3
      refine ⟨tSeq (tDrop (tVeI K (tCons (tVar 0) (tCons (tC (.str cs)) tNil)))) (tOst K "given" (tVar 0) (tVar 1)), ?_, ?_⟩
      · exact pss_cons (ps_expr (pe_minit (B := B) g1 hm M (pa_cons (pe_var rfl (.inl h1) (by decide) (by decide)) (pa_cons pe_str pa_nil rfl) rfl) (minit_eval hl)))
          (pss_one (ps_ost (pe_var rfl (.inl h1) (by decide) (by decide)) (pe_var rfl (.inl h2) (by decide) (by decide))))
      · refine ⟨.ref a, rfl, a, C, [.str cs], rfl, by simp, T, ea, v, rfl, .ref a, rfl, a, C, rfl, T, hno, .inl ⟨ea, fun dx hd hne => q dx hd hne⟩⟩
    · cases hb
/-- what is asked of an exception class -/
structure RzC (K : PySem.W.Frag) (mg : Str → Option Value) (x : Str) (C fI : Addr) : Prop where
  mg : mg x = some (.ref C)
  oex : OexC K C
  ini : PySem.W.findIn K (.ref C) "__init__" = some (some (.ref fI))
  ty : PySem.W.typeIn K (.ref fI) = some (.type "function")
  no : PySem.W.findIn K (.ref C) "given" = some none
theorem rz_ok {X : Cx} {ca : Nat → Addr} {c : Nat} {x : Str} {fI B : Addr} {fd : FuncData} {nm qual : Str} {params : Arguments} {body : List Stmt} {scope : Scope} (R : RzC X.K X.mg x (ca c) fI) (F : FunD X.K nm qual params body scope [] [] fI fd) (Sc : FnScope ["self", "given"] ["self", "given"] scope) (hb : initB body scope = true)
    (hm : X.mg "MapError" = some (.ref B)) (M : MbC X.K B) (bi : Binds X.K fd ["self", "given"] []) (hr : Room 3 X.A) : RzAt X ca c x := by
  intro f te p pos hg hd hs he pins s σ H Q I h
  have he' : PE X f (fun σ H Q => ∃ Q0, te σ H Q0 ∧ ∀ v H', Q0 v H' → Q v H') := ⟨fun pins s σ H Q I ⟨Q0, q, im⟩ => thn (he.run pins s σ H Q0 I q) fun u s' ⟨v, H', I', r, z⟩ => ⟨v, H', I', r, im v H' z⟩⟩
  have m := pmk_oex (p := p) (pos := pos) R.oex R.ini R.ty (init_ok (w := X.w) (P := X.prog) (base := X.base) F Sc hb hm M) hr bi .nil pass0 hg R.mg (pa_cons he' pa_nil (star1 hs)) hd (star1 hs) rfl
  refine m pins s σ H Q I ⟨_, h, fun v H1 q => ⟨by simp, fun a ha => ?_⟩⟩
  refine ⟨a, ca c, v, rfl, R.oex, R.no, upd_same, fun dx hdx hne => ?_⟩
  have hd1 : H1 dx = none := by rw [upd_ne hne] at hdx; exact hdx
  refine ⟨rfl, dx, [(("given" : Str), v)], upd_same, ?_, hd1, ?_⟩
  · rw [upd_ne hne, upd_same]
  · have e : upd (L2.del (upd (upd (upd H1 a (exo a (ca c) none)) dx (exd dx [(("given" : Str), v)])) a (exo a (ca c) (some dx))) a) dx (.xd [(("given" : Str), v)]) = upd H1 dx (.xd [(("given" : Str), v)]) := by
      funext b
      by_cases hb : b = dx
      · rw [hb, upd_same, upd_same]
      · rw [upd_ne hb, upd_ne hb]
        by_cases hba : b = a
        · rw [hba, del_same, ha]
        · rw [del_ne hba, upd_ne hba, upd_ne hb, upd_ne hba]
    rw [e]
    exact q dx hd1
/-! ### by a Bool -/
open He
def oexB (K : PySem.W.Frag) (C : Addr) : Bool := (match K.lookup C with
  | some ⟨.type "type", _, .cls cd, sl⟩ => (match cd.mro, sl.toList with
    | .ref C' :: bm, [_, _, _, _, some (.builtin n), _] => C' == C && (n == "ValueError.__new__" && (!cd.hasDel && (cd.hasDict && PySem.HandSPX.refsVE bm)))
    | _, _ => false)
  | _ => false) && (decide (PySem.W.findIn K (.ref C) "__setattr__" = some (some (.builtin "object.__setattr__"))) && (decide (PySem.W.subIn K (.ref C) (.type "BaseException") = some true) && (decide (PySem.W.typeIn K (.ref C) = some (.type "type")) && PySem.W.keepIn K (.ref C))))
theorem oexB_ok {K : PySem.W.Frag} {C : Addr} (h : oexB K C = true) : OexC K C := by
  unfold oexB at h
  simp only [Bool.and_eq_true, decide_eq_true_eq] at h
  obtain ⟨h0, h1, h2, h3, h4⟩ := h
  refine ⟨?_, h1, h2, h3, h4⟩
  split at h0
  · rename_i dd cd sl ho
    split at h0
    · rename_i C' bm k0 k1 k2 k3 n k5 hm hs
      simp only [Bool.and_eq_true, beq_iff_eq, Bool.not_eq_true'] at h0
      obtain ⟨rfl, rfl, hdel, hdict, hr⟩ := h0
      obtain ⟨nm, bs, mro, ns, qn, hd, sn, sub, ab, col, del⟩ := cd
      dsimp only at hm hdel hdict
      subst hm hdel hdict
      have hsl : sl = #[k0, k1, k2, k3, some (.builtin "ValueError.__new__"), k5] := by
        obtain ⟨l⟩ := sl
        simp only at hs
        rw [hs]
      subst hsl
      exact ⟨nm, qn, ns, bs, bm, sn, sub, ab, col, dd, k0, k1, k2, k3, k5, ho, hr⟩
    · cases h0
  · cases h0
/-- the exception class x of the module -/
def excB (K : PySem.W.Frag) (x : Str) : Bool := oexB K (ga K x) && (decide (PySem.W.findIn K (.ref (ga K x)) "__init__" = some (some (.ref (ma K (ga K x) "__init__")))) && (decide (PySem.W.typeIn K (.ref (ma K (ga K x) "__init__")) = some (.type "function")) && decide (PySem.W.nsIn K mainGlobals x = some (some (.ref (ga K x))))))
/-- every class: its instances' fields are read, which it catches -/
def allB (K : PySem.W.Frag) (xs : List Str) : Bool := xs.all fun x => xfB K (ga K x) && (decide (PySem.W.findIn K (.ref (ga K x)) "given" = some none) && (decide (PySem.W.nsIn K mainGlobals x = some (some (.ref (ga K x))))))
def exmB (K : PySem.W.Frag) (xs : List Str) : Bool := (List.range xs.length).all fun c => (List.range xs.length).all fun h => decide (PySem.W.exmOne K (.ref (ga K (xs.getD c Str.empty))) (.ref (ga K (xs.getD h Str.empty))) = some (takesC c h))
def mbB (K : PySem.W.Frag) (B : Addr) : Bool := decide (PySem.W.specialIn K (.ref B) "__getattribute__" = some (some (.builtin "type.__getattribute__"))) && (PySem.W.readsIn K B (.type "type") && (match PySem.W.findCls K (.ref B) (.type "type") "__init__" with
  | some (.val (.builtin n)) => n == "ValueError.__init__"
  | _ => false))
theorem mbB_ok {K : PySem.W.Frag} {B : Addr} (h : mbB K B = true) : MbC K B := by
  unfold mbB at h
  simp only [Bool.and_eq_true, decide_eq_true_eq] at h
  obtain ⟨h1, h2, h3⟩ := h
  refine ⟨h1, h2, ?_⟩
  split at h3
  · rename_i n q
    rw [q, beq_iff_eq.mp h3]
  · cases h3
/-- xs: the classes, the base first -/
def clsB (K : PySem.W.Frag) (xs : List Str) : Bool := (xs.drop 1).all (excB K) && (allB K xs && (exmB K xs && mbB K (ga K "MapError")))
/-! ### the Hook -/
/-- no lists: the script is none of the written part -/
def isListO (o : Obj) : Bool := match o.cls with
  | .type c => c == "list"
  | _ => false
def frV (g : Addr → Option Obj) (as : List Addr) : PySem.W.Frag := (frG g as).filter fun q => !isListO q.2
theorem lookup_mem' {a : Addr} {o : Obj} : ∀ {l : List (Addr × Obj)}, l.lookup a = some o → (a, o) ∈ l
  | [], h => by cases h
  | (b, u) :: r, h => by
    have h2 : (match a == b with | true => some u | false => r.lookup a) = some o := h
    cases q : (a == b) with
    | true =>
      rw [q] at h2
      rw [beq_iff_eq.mp q, Option.some.inj h2]
      exact List.mem_cons_self
    | false =>
      rw [q] at h2
      exact List.mem_cons_of_mem _ (lookup_mem' h2)
theorem frG_mem' {g : Addr → Option Obj} {as : List Addr} {a : Addr} {o : Obj} (h : (a, o) ∈ frG g as) : g a = some o := by
  unfold frG at h
  obtain ⟨b, _, e⟩ := List.mem_filterMap.mp h
  obtain ⟨u, hu, e2⟩ := Option.map_eq_some_iff.mp e
  cases e2
  exact hu
theorem frV_mem {g : Addr → Option Obj} {as : List Addr} {a : Addr} {o : Obj} (h : (frV g as).lookup a = some o) : g a = some o ∧ isListO o = false := by
  obtain ⟨h1, h2⟩ := List.mem_filter.mp (lookup_mem' h)
  exact ⟨frG_mem' h1, by simpa using h2⟩
theorem frV_in {as : List Addr} {h : Heap} : (frV h.get? as).In h := fun _ _ e => (frV_mem e).1
def NoL (K : PySem.W.Frag) : Prop := ∀ a o, K.lookup a = some o → isListO o = false
def obsV (fa : List Fa) (fn : List DefD) (xs : List Str) (K : PySem.W.Frag) : AlD := ((fa.all fun f => f.ok K) && ((fn.all fun d => d.ok K) && clsB K xs), fn.map fun d => fnW K d.at_)
def SaysV (fa : List Fa) (fn : List DefD) (xs : List Str) (K : PySem.W.Frag) : Prop := obsV fa fn xs K = valD fn
def obsVG (n : Nat) (fa : List Fa) (fn : List DefD) (xs : List Str) (g : Addr → Option Obj) : AlD := obsV fa fn xs (frV g (asD g n ++ [cStatics]))
def hookV (n : Nat) (fa : List Fa) (fn : List DefD) (xs : List Str) : PySem.W.Hook where
  α := AlD
  obs := fun s => obsVG n fa fn xs s.heap.get?
  val := fun _ => valD fn
  says := fun _ h => ∃ K : PySem.W.Frag, K.In h ∧ NoL K ∧ SaysV fa fn xs K
  of := fun _ _ e => ⟨_, frV_in, fun _ _ q => (frV_mem q).2, e⟩
  keeps := fun _ _ _ ⟨K, hK, hn, c⟩ k => ⟨K, PySem.W.Frag.In.keeps hK k, hn, c⟩
theorem obsVG_eq {n : Nat} {fa : List Fa} {fn : List DefD} {xs : List Str} {g : Addr → Option Obj} {s : Shared} (h : ∀ a, g a = s.heap.get? a) : obsVG n fa fn xs g = (hookV n fa fn xs).obs s := by
  have e : g = s.heap.get? := funext h
  rw [e] <;> rfl
section
variable {fa : List Fa} {fn : List DefD} {xs : List Str} {K : PySem.W.Frag}
theorem SaysV.fact (c : SaysV fa fn xs K) {f : Fa} (h : f ∈ fa) : f.ok K = true := by
  have c1 := (ba (show ((fa.all fun f => f.ok K) && ((fn.all fun d => d.ok K) && clsB K xs)) = true from congrArg (fun z : AlD => z.1) c)).1
  exact List.all_eq_true.mp c1 f h
theorem SaysV.cls (c : SaysV fa fn xs K) : clsB K xs = true := (ba (ba (show ((fa.all fun f => f.ok K) && ((fn.all fun d => d.ok K) && clsB K xs)) = true from congrArg (fun z : AlD => z.1) c)).2).2
theorem SaysV.def_ (c : SaysV fa fn xs K) {i : Nat} {d : DefD} (h : fn[i]? = some d) : ∃ fd, FunD K d.name d.qual d.params d.body d.scope (d.dvs K) (d.kws K) (fAd K d.at_) fd := by
  have c2 := (ba (ba (show ((fa.all fun f => f.ok K) && ((fn.all fun d => d.ok K) && clsB K xs)) = true from congrArg (fun z : AlD => z.1) c)).2).1
  have e : fn.map (fun d => fnW K d.at_) = fn.map DefD.val := congrArg (fun z : AlD => z.2) c
  have e2 : (fn.map fun d => fnW K d.at_)[i]? = (fn.map DefD.val)[i]? := by rw [e]
  rw [List.getElem?_map, List.getElem?_map, h] at e2
  exact DefD.funD (Option.some.inj e2) (List.all_eq_true.mp c2 d (List.mem_of_getElem? h))
end
end VI

set_option Elab.async false
set_option linter.all false
set_option maxRecDepth 100000
set_option maxHeartbeats 4000000
/-! VI, part 16: the head's facts from one check; a law from VI's run of it. -/
namespace VI
open PySem PySem.Spec PyProof.Rows L2 He

/-- a def of the text: its name, parameters, names (the parameters first), its statement -/
structure FD where
  x : Str
  ps : List Str
  N : List Str
  st : Stmt
/-- an exception's __init__: the class, the qualified name, its statement -/
structure XD where
  x : Str
  qual : Str
  st : Stmt
def clsInit (s : Stmt) : Stmt := match s with
  | .ClassDef _ _ _ b _ _ _ _ _ _ _ => b.getD 0 (.Pass ⟨0, 0, 0, 0⟩)
  | _ => .Pass ⟨0, 0, 0, 0⟩
def FD.toD (d : FD) : DefD := ⟨(d.x, none), d.x, d.x, defArgs d.st, defBody d.st, defScope d.st, [], []⟩
def XD.toD (d : XD) : DefD := ⟨(d.x, some "__init__"), "__init__", d.qual, defArgs d.st, defBody d.st, defScope d.st, [], []⟩
def scopeB (N P : List Str) (sc : Scope) : Bool := (match sc.kind with
    | .function => true
    | _ => false) && (!sc.isCoroutine && (!sc.isGenerator && (decide N.Nodup && (decide (N.take P.length = P) && (P.all (fun x => sc.names.lookup x == some .local || sc.names.lookup x == some .cell) && sc.names.all (fun y => match y.2 with
    | .free => false
    | _ => true))))))
theorem scopeB_ok {N P : List Str} {sc : Scope} (h : scopeB N P sc = true) : FnScope N P sc := by
  unfold scopeB at h
  simp only [Bool.and_eq_true, Bool.not_eq_true', decide_eq_true_eq] at h
  obtain ⟨h1, h2, h3, h4, h5, h6, h7⟩ := h
  refine ⟨?_, h2, h3, h4, h5, fun x hx => ?_, fun y hy => ?_⟩
  · split at h1
    · assumption
    · cases h1
  · have := List.all_eq_true.mp h6 x hx
    simp only [Bool.or_eq_true, beq_iff_eq] at this
    exact this
  · have := List.all_eq_true.mp h7 y hy
    intro q
    rw [q] at this
    cases this
def chkD (T : Tab) (d : FD) (D : Df) : Bool := scopeB d.N d.ps (defScope d.st) && (decide (D.ps = d.ps.length) && (decide (D.names = d.N.length) && chkSs T D.body ⟨d.N, defScope d.st, fun _ => true⟩ (defBody d.st)))
/-- the whole text -/
def chkAll (T : Tab) (G : Pg) (ds : List FD) (xs : List XD) : Bool := decide (T.funs = ds.map fun d => (d.x, d.ps)) && (decide (ds.length = G.length) && ((ds.zip G).all (fun q => chkD T q.1 q.2) &&
  (decide (T.excs = ("MapError" : Str) :: xs.map (·.x)) && xs.all (fun d => scopeB ["self", "given"] ["self", "given"] (defScope d.st) && initB (defBody d.st) (defScope d.st)))))
/-- how calls bind -/
def BndOk (params : Arguments) (ps : List Str) : Prop := ∀ (x qual : Str) (body : List Stmt) (scope : Scope) (kV doc pm : Value) (an : Option Addr) (cdv ct : Value) (us : List Value), us.length = ps.length → bindArgs (PySem.W.fnOf x qual params body scope .none kV doc pm an cdv ct) ⟨us, []⟩ = pure (ps.zip us)
def KwdOk (params : Arguments) (ps : List Str) (np : Nat) (ks : List Str) (pm : List Nat) : Prop := ∀ (x qual : Str) (body : List Stmt) (scope : Scope) (kV doc pm' : Value) (an : Option Addr) (cdv ct : Value) (us ws ts : List Value), us.length = np → ws.length = ks.length → mapO (fun i : Nat => (us ++ ws)[i]?) pm = some ts →
  bindArgs (PySem.W.fnOf x qual params body scope .none kV doc pm' an cdv ct) ⟨us, ks.zip ws⟩ = pure (ps.zip ts)
def fas (T : Tab) : List Fa := T.funs.map (fun q => Fa.glo q.1) ++ (T.nums.map (fun q => Fa.int q.1 q.2) ++ (T.txts.map (fun q => Fa.str q.1 q.2) ++ T.free.map Fa.free))
def fns (ds : List FD) (xs : List XD) : List DefD := ds.map FD.toD ++ xs.map XD.toD
section
variable {T : Tab} {G : Pg} {ds : List FD} {xs : List XD} {P : Program} {w : World} {K : PySem.W.Frag} {mg : Str → Option Value} {base h : Heap}
def caOf (K : PySem.W.Frag) (T : Tab) (c : Nat) : Addr := ga K (T.excs.getD c Str.empty)
theorem getD_of {l : List Str} {c : Nat} {x : Str} (h : l[c]? = some x) : l.getD c Str.empty = x := by
  rw [List.getD_eq_getElem?_getD, h]; rfl
theorem hd_ok (hc : chkAll T G ds xs = true) (hb : ∀ d ∈ ds, BndOk (defArgs d.st) d.ps) (hbx : ∀ d ∈ xs, BndOk (defArgs d.st) ["self", "given"]) (hkw : ∀ f np ks pm, (f, np, ks, pm) ∈ T.kws → ∀ d, ds[f]? = some d → KwdOk (defArgs d.st) d.ps np ks pm)
    (X : K.In h) (N : h.Ns mainGlobals mg) (c : SaysV (fas T) (fns ds xs) T.excs K) : Hd T G (caOf K T) P w K mg base := by
  unfold chkAll at hc
  simp only [Bool.and_eq_true, decide_eq_true_eq] at hc
  obtain ⟨c1, c2, c3, c4, c5⟩ := hc
  have hcls := c.cls
  unfold clsB at hcls
  simp only [Bool.and_eq_true] at hcls
  obtain ⟨k1, k2, k3, k4⟩ := hcls
  have hbase : mg "MapError" = some (.ref (ga K "MapError")) := by
    have := List.all_eq_true.mp k2 ("MapError" : Str) (by rw [c4]; exact List.mem_cons_self)
    simp only [Bool.and_eq_true, decide_eq_true_eq] at this
    exact PySem.W.mg_of X N this.2.2
  refine ⟨fun x i hx => ?_, fun x i hx => ?_, fun x hx => ?_, fun f x ps hf => ?_, fun cc x hx => ?_, fun cc hh h1 h2 => ?_⟩
  · obtain ⟨t, e⟩ := int_ok X N (c.fact (f := .int x i) (List.mem_append_right _ (List.mem_append_left _ (List.mem_map.mpr ⟨(x, i), hx, rfl⟩))))
    exact ⟨_, e, t, rfl⟩
  · obtain ⟨t, e⟩ := str_ok X N (c.fact (f := .str x i) (List.mem_append_right _ (List.mem_append_right _ (List.mem_append_left _ (List.mem_map.mpr ⟨(x, i), hx, rfl⟩)))))
    exact ⟨_, e, t, rfl⟩
  · exact free_ok X N (c.fact (f := .free x) (List.mem_append_right _ (List.mem_append_right _ (List.mem_append_right _ (List.mem_map.mpr ⟨x, hx, rfl⟩)))))
  · rw [c1, List.getElem?_map] at hf
    obtain ⟨d, hd, e⟩ := map_some hf
    cases e
    have hdm := List.mem_of_getElem? hd
    obtain ⟨fd, F⟩ := c.def_ (i := f) (d := d.toD) (by unfold fns; rw [List.getElem?_append_left (by rw [List.length_map]; exact (List.getElem?_eq_some_iff.mp hd).1), List.getElem?_map, hd]; rfl)
    have F : FunD K d.x d.x (defArgs d.st) (defBody d.st) (defScope d.st) [] [] (ga K d.x) fd := F
    have hfl := (List.getElem?_eq_some_iff.mp hd).1
    have hG : G[f]? = some (G[f]'(by omega)) := List.getElem?_eq_getElem (by omega)
    have hz := List.all_eq_true.mp c3 (d, G[f]'(by omega)) (List.mem_of_getElem? (i := f) (by rw [List.getElem?_zip_eq_some]; exact ⟨hd, hG⟩))
    unfold chkD at hz
    simp only [Bool.and_eq_true, decide_eq_true_eq] at hz
    obtain ⟨z1, z2, z3, z4⟩ := hz
    refine ⟨ga K d.x, fd, glo_ok X N (c.fact (f := .glo d.x) (List.mem_append_left _ (by rw [c1]; exact List.mem_map.mpr ⟨(d.x, d.ps), List.mem_map.mpr ⟨d, hdm, rfl⟩, rfl⟩))), ?_, fun np ks pm hk s us ws ts KX l1 l2 l3 => ?_, ?_⟩
    · exact F.bindsN fun kV doc pm an cdv ct us hl => hb d hdm _ _ _ _ kV doc pm an cdv ct us hl
    · obtain ⟨oc, od, dV, kV, doc, pm', an, cdv, ct, osl, rfl, lk, hcd, hD, hK⟩ := F.ex
      rcases hD with ⟨_, rfl⟩ | ⟨e, _⟩
      · exact .of_eq (hkw f np ks pm hk d hd _ _ _ _ kV doc pm' an cdv ct us ws ts l1 l2 l3)
      · exact absurd rfl e
    · exact ⟨_, _, _, _, _, _, d.N, F, scopeB_ok z1, hG, z2, z3, z4⟩
  · have hmem := List.mem_of_getElem? hx
    have e0 : caOf K T cc = ga K x := by unfold caOf; rw [getD_of hx]
    have := List.all_eq_true.mp k2 x hmem
    simp only [Bool.and_eq_true, decide_eq_true_eq] at this
    rw [e0]
    refine ⟨PySem.W.mg_of X N this.2.2, xfB_ok this.1, this.2.1, fun h0 Y y1 y2 y3 y4 y5 y6 y7 => ?_⟩
    obtain ⟨prog, ww, K', mg', base', A', N', s0, H0, env, outer, stack, ex, fn, calm, pn, xe⟩ := Y
    cases y1; cases y2; cases y3; cases y4; cases y5
    cases cc with
    | zero => exact absurd rfl h0
    | succ cc =>
      have hx' := hx
      rw [c4] at hx'
      have hx2 : (xs.map (·.x))[cc]? = some x := by simpa using hx'
      rw [List.getElem?_map] at hx2
      obtain ⟨d, hd, rfl⟩ := map_some hx2
      have hdm := List.mem_of_getElem? hd
      obtain ⟨fd, F⟩ := c.def_ (i := ds.length + cc) (d := d.toD) (by unfold fns; rw [List.getElem?_append_right (by rw [List.length_map]; omega), List.length_map, List.getElem?_map]; rw [show ds.length + cc - ds.length = cc by omega, hd]; rfl)
      have F : FunD K' "__init__" d.qual (defArgs d.st) (defBody d.st) (defScope d.st) [] [] (ma K' (ga K' d.x) "__init__") fd := F
      have hz := List.all_eq_true.mp c5 d hdm
      simp only [Bool.and_eq_true] at hz
      have hex := List.all_eq_true.mp k1 d.x (by rw [c4]; exact List.mem_map.mpr ⟨d, hdm, rfl⟩)
      unfold excB at hex
      simp only [Bool.and_eq_true, decide_eq_true_eq] at hex
      obtain ⟨x1, x2, x3, x4⟩ := hex
      have R : RzC K' mg' d.x (caOf K' T (cc + 1)) (ma K' (ga K' d.x) "__init__") := by
        rw [e0]
        exact ⟨PySem.W.mg_of X N x4, oexB_ok x1, x2, x3, this.2.1⟩
      intro f te p pos
      exact rz_ok (B := ga K' "MapError") R F (scopeB_ok hz.1) hz.2 hbase (mbB_ok k4) (F.bindsN fun kV doc pm an cdv ct us hl => hbx d hdm _ _ _ _ kV doc pm an cdv ct us hl) y7
  · have := List.all_eq_true.mp (List.all_eq_true.mp k3 cc (List.mem_range.mpr h1)) hh (List.mem_range.mpr h2)
    exact of_decide_eq_true this
/-- the law: VI's run of it says so -/
def spLaw (n : Nat) (F : FT) (f : Nat) : Prop := ∀ ns : List Int, ns.length ≤ n → F f [.scr ns] [] = .ok (.bl true) []
theorem law_sp {H : Hp} {a : Addr} {o : Obj} {ns : List Int} {n : Nat} {F : FT} {f : Nat} {ca : Nat → Addr} (hl : ns.length ≤ n) (hs : spLaw n F f) (h : H a = some (.frz o (.lst (ns.map V.int)))) : spF F ca f [.ref a] H (fun v _ => v = .bl true) (fun _ _ _ => False) := by
  refine ⟨fun _ => False, fun _ => False, [], [], [.scr ns], ⟨⟨rfl, List.nodup_nil, fun _ h => h.elim, fun n ds h => by simp at h⟩, fun _ h => h.elim⟩, .cons (.scr (fun q => q.elim (by simp) id) h) .nil, ?_⟩
  rw [hs ns hl]
  intro A' H' v _ _ dv
  cases dv
  rfl
end
theorem scr_of {K : PySem.W.Frag} {H : Hp} {a : Addr} {xs : List V} (hn : NoL K) (hO : Only H) (hS : SqL K H a xs) : ∃ o, H a = some (.frz o (.lst xs)) := by
  rcases hS with (h | h) | ⟨o, its, n, h1, h2, _⟩
  · rcases hO a with q | ⟨o, ys, q⟩
    · rw [h] at q; cases q
    · rw [h] at q; cases q
  · exact h
  · have := hn a o h1
    unfold isListO at this
    rw [h2] at this
    simp at this
/-- the law's def is called -/
theorem walk_V {l : PySem.W.OpenLaw} {n k : Nat} {q : Program} {loose : List Str} {XP : (Str → Option Value) → Heap → Prop} {YP : World → Heap → Prop} {d : DefRec} {x : Str}
    (hn : l.most = some n) (hn2 : n ≤ sizeLine) (hdf : d.params.defaults = []) (hr : Room k callerA)
    (F : ∀ (w : World) (mg : Str → Option Value) (fa : Addr) (h : Heap), YP w h → h.Ns mainGlobals mg → mg d.name = some (.ref fa) →
      ∃ (K : PySem.W.Frag) (fd : FuncData) (sp : Sp), K.In h ∧ (∀ (s : Shared) (u : Value), BindsTo s fd ⟨[u], []⟩ [(x, u)]) ∧
        (∀ (H : Hp) (a : Addr) (ns : List Int), ns.length ≤ n → Only H → SqL K H a (ns.map V.int) → sp [.ref a] H (fun v _ => v = .bl true) fun _ _ _ => False) ∧
        ∀ base : Heap, K.In base → base.Ns mainGlobals mg → FnOk l.prog w K mg base (CX l.prog w) k fa fd [x] sp) :
    PySem.W.WalkO q loose XP YP l.row.toRowW d [] (fun f vs => PySem.call f vs) := by
  refine Att.attach_call hn hdf fun w s₀ s₁ mg mb fa o pm cd doc a vs ns G Y ho hd hcd hmg hobj hints hlen hg => ?_
  obtain ⟨K, fd, sp, KX, hb, hsp, hF⟩ := F w mg fa _ Y G.T.g hmg
  refine law_call KX G.T.g G.T.b G.T.builtins G.T.nolimit hg hobj hints (Nat.le_trans hlen hn2) hr hF hb (fun H hO hS => hsp H a ns hlen hO hS) fun H e s' h => ?_
  obtain ⟨_, _, _, _, _, _, _, _, _, _, _, _, h⟩ := h
  exact h
/-- what the walk asks, from one check -/
theorem law_ok {T : Tab} {G : Pg} {ds : List FD} {xs : List XD} {P : Program} {w : World} {h : Heap} {mg : Str → Option Value} {fa : Addr} {n m fuel f : Nat} {x nm : Str} {d : FD} (hc : chkAll T G ds xs = true) (hb : ∀ d ∈ ds, BndOk (defArgs d.st) d.ps) (hbx : ∀ d ∈ xs, BndOk (defArgs d.st) ["self", "given"]) (hkw : ∀ f np ks pm, (f, np, ks, pm) ∈ T.kws → ∀ d, ds[f]? = some d → KwdOk (defArgs d.st) d.ps np ks pm)
    (hd : ds[f]? = some d) (hdp : d.ps = [x]) (hdx : d.x = nm) (hl : spLaw n (callF G fuel) f)
    (Y : (hookV m (fas T) (fns ds xs) T.excs).says w h) (N : h.Ns mainGlobals mg) (hmg : mg nm = some (.ref fa)) :
    ∃ (K : PySem.W.Frag) (fd : FuncData) (sp : Sp), K.In h ∧ (∀ (s : Shared) (u : Value), BindsTo s fd ⟨[u], []⟩ [(x, u)]) ∧
        (∀ (H : Hp) (a : Addr) (ns : List Int), ns.length ≤ n → Only H → SqL K H a (ns.map V.int) → sp [.ref a] H (fun v _ => v = .bl true) fun _ _ _ => False) ∧
        ∀ base : Heap, K.In base → base.Ns mainGlobals mg → FnOk P w K mg base (CX P w) (fuel + 3) fa fd [x] sp := by
  obtain ⟨K, KX, nl, c⟩ := Y
  have hd' := fun base => hd_ok (P := P) (w := w) (base := base) hc hb hbx hkw KX N c
  have hc' := hc
  unfold chkAll at hc'
  simp only [Bool.and_eq_true, decide_eq_true_eq] at hc'
  have hf : T.funs[f]? = some (nm, [x]) := by rw [hc'.1, List.getElem?_map, hd, ← hdp, ← hdx]; rfl
  -- the def's facts do not lean on the base
  obtain ⟨fd, F⟩ := c.def_ (i := f) (d := d.toD) (by unfold fns; rw [List.getElem?_append_left (by rw [List.length_map]; exact (List.getElem?_eq_some_iff.mp hd).1), List.getElem?_map, hd]; rfl)
  have F : FunD K d.x d.x (defArgs d.st) (defBody d.st) (defScope d.st) [] [] (He.ga K d.x) fd := F
  have hdm := List.mem_of_getElem? hd
  have hga : fa = He.ga K d.x := by
    have := He.glo_ok KX N (c.fact (f := .glo d.x) (List.mem_append_left _ (by rw [hc'.1]; exact List.mem_map.mpr ⟨(d.x, d.ps), List.mem_map.mpr ⟨d, hdm, rfl⟩, rfl⟩)))
    rw [hdx, hmg] at this
    cases this
    rw [hdx]
  have bb := FunD.bindsA (ps := d.ps) F fun kV doc pm an cdv ct us hl => hb d hdm _ _ _ _ kV doc pm an cdv ct us hl
  refine ⟨K, fd, spF (callF G fuel) (caOf K T) f, KX, fun s u => ?_, fun H a ns hln hO hS => ?_, fun base _ _ => ?_⟩
  · have := bb s [u] (by rw [hdp]; rfl)
    rw [hdp] at this
    exact this
  · obtain ⟨o, ho⟩ := scr_of nl hO hS
    exact law_sp hln hl ho
  · obtain ⟨fa', fd', st⟩ := (hd' base).funs f nm [x] hf
    have e1 : fa' = fa := by
      have := st.mg
      rw [hmg] at this
      cases this; rfl
    subst e1
    have e2 : fd' = fd := by
      obtain ⟨_, _, _, _, _, _, _, F', _⟩ := st.body
      obtain ⟨oc, od, dV, kV, doc, pm, an, cdv, ct, osl, e, lk, _⟩ := F'.ex
      obtain ⟨oc2, od2, dV2, kV2, doc2, pm2, an2, cdv2, ct2, osl2, e2, lk2, _⟩ := F.ex
      rw [← hga, lk] at lk2
      cases lk2; rfl
    subst e2
    exact (fns_ok (hd' base) fuel f nm [x] fa' fd' st).2
end VI

set_option Elab.async false
set_option linter.all false
set_option maxRecDepth 100000
set_option maxHeartbeats 4000000
/-! VI's runs in plain Lean: rules. -/
namespace VI
open PySem L2

/-! ### binds -/
theorem bok {α β : Type} (a : α) (S : Sto) (f : α → Sto → R β) : (R.ok a S).bind f = f a S := rfl
theorem bexc {α β : Type} (c : Nat) (d : DD) (S : Sto) (f : α → Sto → R β) : (R.exc c d S : R α).bind f = .exc c d S := rfl
theorem sok {α : Type} (a : α) (S : Sto) (env : VEnv) (f : α → Sto → RS) : (R.ok a S).stm env f = f a S := rfl
theorem sexc {α : Type} (c : Nat) (d : DD) (S : Sto) (env : VEnv) (f : α → Sto → RS) : (R.exc c d S : R α).stm env f = .exc c d env S := rfl
theorem cok {α : Type} (a : α) (S : Sto) : (R.ok a S).calm = .ok a S := rfl
theorem gnx (env : VEnv) (S : Sto) (f : VEnv → Sto → RS) : (RS.go .nx env S).andThen f = f env S := rfl
theorem grt (d : DD) (env : VEnv) (S : Sto) (f : VEnv → Sto → RS) : (RS.go (.rt d) env S).andThen f = .go (.rt d) env S := rfl
theorem gexc (c : Nat) (d : DD) (env : VEnv) (S : Sto) (f : VEnv → Sto → RS) : (RS.exc c d env S).andThen f = .exc c d env S := rfl
theorem of_bl' (b : Bool) (S : Sto) : ofBl (.bl b) S = .ok b S := rfl
/-! ### a def's run -/
theorem callF_eq {G : Pg} {m f : Nat} {D : Df} {ds : List DD} {S : Sto} (h : G[f]? = some D) (hl : ds.length = D.ps) : callF G (m + 1) f ds S = endOf D S.length (run (callF G m) S.length D.body (ds.map some ++ List.replicate (D.names - ds.length) none) S) := by
  show (match G[f]? with
    | none => R.stuck
    | some D => if ds.length = D.ps then endOf D S.length (run (callF G m) S.length D.body (ds.map some ++ List.replicate (D.names - ds.length) none) S) else .stuck) = _
  rw [h]
  exact if_pos hl
/-- values without cells of one's own: what a def returns of them -/
def Flat (d : DD) : Prop := ∀ (k : Nat) (S : Sto), snap k S depthMax d = some d
theorem Flat.non : Flat .non := fun _ _ => rfl
theorem Flat.bl (b : Bool) : Flat (.bl b) := fun _ _ => rfl
theorem Flat.int (i : Int) : Flat (.int i) := fun _ _ => rfl
theorem Flat.str (s : Str) : Flat (.str s) := fun _ _ => rfl
theorem end_rt {D : Df} {k : Nat} {d : DD} {env : VEnv} {S S0 : Sto} (hk : D.keep = false) (hf : Flat d) (hS : S.take k = S0) : endOf D k (.go (.rt d) env S) = .ok d S0 := by
  show finD D.keep k d S .ok = _
  unfold finD
  rw [hk, hf k S]
  simp [hS]
theorem end_nx {D : Df} {k : Nat} {env : VEnv} {S S0 : Sto} (hk : D.keep = false) (hS : S.take k = S0) : endOf D k (.go .nx env S) = .ok .non S0 := by
  show finD D.keep k .non S .ok = _
  unfold finD
  rw [hk, Flat.non k S]
  simp [hS]
theorem end_exc {D : Df} {k c : Nat} {d : DD} {env : VEnv} {S S0 : Sto} (hk : D.keep = false) (hf : Flat d) (hS : S.take k = S0) : endOf D k (.exc c d env S) = .exc c d S0 := by
  show finD D.keep k d S (fun d S => .exc c d S) = _
  unfold finD
  rw [hk, hf k S]
  simp [hS]
theorem take_self {α : Type} (S : List α) : S.take S.length = S := List.take_length
theorem take_app {α : Type} (S T : List α) : (S ++ T).take S.length = S := List.take_left
/-! ### loops -/
theorem forL_inv {j : It2} {turn : DD → VEnv → Sto → RS} (I : Nat → VEnv → Sto → Prop) {n : Nat}
    (step : ∀ i env S, i < n → I i env S → ∃ d env' S', j.at_ i S = some (some d) ∧ (turn d env S = .go .nx env' S' ∨ turn d env S = .go .ct env' S') ∧ I (i + 1) env' S')
    (stop : ∀ env S, I n env S → j.at_ n S = some none) : ∀ {f i : Nat} {env : VEnv} {S : Sto}, i ≤ n → n - i < f → I i env S → ∃ env' S', forL j turn f i env S = .go .nx env' S' ∧ I n env' S'
  | 0, _, _, _, _, h, _ => by omega
  | f + 1, i, env, S, hi, hf, h => by
    by_cases q : i = n
    · subst q
      refine ⟨env, S, ?_, h⟩
      unfold forL
      rw [stop env S h]
    · obtain ⟨d, env', S', h1, h2, h3⟩ := step i env S (by omega) h
      obtain ⟨env2, S2, h4, h5⟩ := forL_inv I step stop (f := f) (i := i + 1) (env := env') (S := S') (by omega) (by omega) h3
      refine ⟨env2, S2, ?_, h5⟩
      unfold forL
      rw [h1]
      rcases h2 with h2 | h2 <;> · simp only [h2]; exact h4
/-- a loop that may return: T what is returned -/
theorem forL_ret {j : It2} {turn : DD → VEnv → Sto → RS} (I : Nat → VEnv → Sto → Prop) (T : RS → Prop) {n : Nat}
    (step : ∀ i env S, i < n → I i env S → ∃ d, j.at_ i S = some (some d) ∧ ((∃ env' S', turn d env S = .go .nx env' S' ∧ I (i + 1) env' S') ∨ (∃ v env' S', turn d env S = .go (.rt v) env' S' ∧ T (.go (.rt v) env' S'))))
    (stop : ∀ env S, I n env S → j.at_ n S = some none) : ∀ {f i : Nat} {env : VEnv} {S : Sto}, i ≤ n → n - i < f → I i env S → (∃ env' S', forL j turn f i env S = .go .nx env' S' ∧ I n env' S') ∨ T (forL j turn f i env S)
  | 0, _, _, _, _, h, _ => by omega
  | f + 1, i, env, S, hi, hf, h => by
    by_cases q : i = n
    · subst q
      refine .inl ⟨env, S, ?_, h⟩
      unfold forL
      rw [stop env S h]
    · obtain ⟨d, h1, h2⟩ := step i env S (by omega) h
      rcases h2 with ⟨env', S', h2, h3⟩ | ⟨v, env', S', h2, h3⟩
      · have e : forL j turn (f + 1) i env S = forL j turn f (i + 1) env' S' := by
          show (match j.at_ i S with
            | none => RS.stuck
            | some none => .go .nx env S
            | some (some x) => match turn x env S with
              | .go .nx env S => forL j turn f (i + 1) env S
              | .go .ct env S => forL j turn f (i + 1) env S
              | .go .bk env S => .go .nx env S
              | r => r) = _
          rw [h1]
          simp only [h2]
        rw [e]
        exact forL_ret I T step stop (by omega) (by omega) h3
      · right
        have e : forL j turn (f + 1) i env S = .go (.rt v) env' S' := by
          show (match j.at_ i S with
            | none => RS.stuck
            | some none => .go .nx env S
            | some (some x) => match turn x env S with
              | .go .nx env S => forL j turn f (i + 1) env S
              | .go .ct env S => forL j turn f (i + 1) env S
              | .go .bk env S => .go .nx env S
              | r => r) = _
          rw [h1]
          simp only [h2]
        rw [e]
        exact h3
/-- a comprehension: what each turn adds, the store by an invariant -/
theorem compL_inv {j : It2} {turn : DD → List DD → Sto → R (List DD)} (I : Nat → List DD → Sto → Prop) {n : Nat}
    (step : ∀ i acc S, i < n → I i acc S → ∃ d acc' S', j.at_ i S = some (some d) ∧ turn d acc S = .ok acc' S' ∧ I (i + 1) acc' S')
    (stop : ∀ acc S, I n acc S → j.at_ n S = some none) : ∀ {f i : Nat} {acc : List DD} {S : Sto}, i ≤ n → n - i < f → I i acc S → ∃ acc' S', compL j turn f i acc S = .ok acc' S' ∧ I n acc' S'
  | 0, _, _, _, _, h, _ => by omega
  | f + 1, i, acc, S, hi, hf, h => by
    by_cases q : i = n
    · subst q
      refine ⟨acc, S, ?_, h⟩
      unfold compL
      rw [stop acc S h]
    · obtain ⟨d, acc', S', h1, h2, h3⟩ := step i acc S (by omega) h
      obtain ⟨acc2, S2, h4, h5⟩ := compL_inv I step stop (f := f) (i := i + 1) (by omega) (by omega) h3
      refine ⟨acc2, S2, ?_, h5⟩
      unfold compL
      rw [h1]
      simp only [h2, bok]
      exact h4
theorem compL_flat {j : It2} {turn : DD → List DD → Sto → R (List DD)} {S : Sto} {xs : List DD} {g : DD → List DD} (hj : ∀ i, j.at_ i S = some xs[i]?)
    (ht : ∀ x acc, x ∈ xs → turn x acc S = .ok (acc ++ g x) S) (hl : xs.length < fuelW) (acc : List DD) : compL j turn fuelW 0 acc S = .ok (acc ++ xs.flatMap g) S := by
  obtain ⟨acc', S', h, e1, e2⟩ := compL_inv (j := j) (turn := turn) (fun i a T => T = S ∧ a = acc ++ (xs.take i).flatMap g) (n := xs.length) (fun i a T hi h => by
    obtain ⟨rfl, rfl⟩ := h
    refine ⟨xs[i], _, _, by rw [hj, List.getElem?_eq_getElem hi], ht _ _ (List.getElem_mem hi), rfl, ?_⟩
    rw [List.take_succ_eq_append_getElem hi, List.flatMap_append]
    simp) (fun a T h => by
    obtain ⟨rfl, _⟩ := h
    rw [hj, List.getElem?_eq_none (Nat.le_refl _)]) (f := fuelW) (i := 0) (acc := acc) (S := S) (Nat.zero_le _) (by omega) ⟨rfl, by simp⟩
  rw [h, e1, e2, List.take_length]
end VI

set_option maxRecDepth 100000
namespace K36
open VI PySem

def b_is_integer : VS := (.seq (.ret (.andv (.isi (.loc 0) ["int"]) (.notv (.isi (.loc 0) ["bool"])))) .skip)
def b_is_count : VS := (.seq (.ret (.andv (.call 0 (.cons (.loc 0) .nil)) (.cmp .ge (.loc 0) (.int 0)))) .skip)
def b_is_within : VS := (.seq (.ret (.andv (.call 0 (.cons (.loc 0) .nil)) (.chn .le .le (.loc 1) (.loc 0) (.loc 2)))) .skip)
def b_is_index : VS := (.seq (.ret (.andv (.call 0 (.cons (.loc 0) .nil)) (.chn .le .lt (.int 0) (.loc 0) (.loc 1)))) .skip)
def b_is_list : VS := (.seq (.ret (.isi (.loc 0) ["list", "tuple"])) .skip)
def b_is_tuple : VS := (.seq (.ret (.andv (.isi (.loc 0) ["tuple"]) (.cmp .eq (.bi .len false (.cons (.loc 0) .nil)) (.loc 1)))) .skip)
def b_check_many : VS := (.seq (.ite (.notv (.call 2 (.cons (.loc 0) (.cons (.gint "LEAST_POSTS" 2) (.cons (.gint "MOST_POSTS" 5) .nil))))) (.seq (.rais 2 (.loc 0)) .skip) .skip) .skip)
def b_check_post : VS := (.seq (.ite (.notv (.call 3 (.cons (.loc 1) (.cons (.loc 0) .nil)))) (.seq (.rais 1 (.loc 1)) .skip) .skip) .skip)
def b_closed_rows : VS := (.seq (.asg (.tloc 1) (.lc false [("row", 2)] (.tloc 2) (.iseq (.loc 0)) .nil (.bi .list true (.cons (.loc 2) .nil)))) (.seq (.fr (.ttup (.cons (.tloc 3) (.cons (.tloc 2) .nil))) (.ienm (.loc 1)) (.seq (.asg (.tsub (.loc 2) (.loc 3)) (.int 0)) .skip)) (.seq (.fr (.tloc 4) (.irg1 (.bi .len false (.cons (.loc 1) .nil))) (.seq (.fr (.tloc 2) (.iseq (.loc 1)) (.seq (.fr (.ttup (.cons (.tloc 5) (.cons (.tloc 6) .nil))) (.ienm (.ix (.loc 1) (.loc 4))) (.seq (.ite (.andv (.cmp .isn (.ix (.loc 2) (.loc 4)) .non) (.andv (.cmp .isn (.loc 6) .non) (.orv (.cmp .iss (.ix (.loc 2) (.loc 5)) .non) (.cmp .lt (.bin .add false (.ix (.loc 2) (.loc 4)) (.loc 6)) (.ix (.loc 2) (.loc 5)))))) (.seq (.asg (.tsub (.loc 2) (.loc 5)) (.bin .add false (.ix (.loc 2) (.loc 4)) (.loc 6))) .skip) .skip) .skip)) .skip)) .skip)) (.seq (.ret (.bi .tuple false (.cons (.lc false [("row", 2)] (.tloc 2) (.iseq (.loc 1)) .nil (.bi .tuple false (.cons (.loc 2) .nil))) .nil))) .skip))))
def b_is_length : VS := (.seq (.ret (.orv (.cmp .iss (.loc 0) .non) (.call 1 (.cons (.loc 0) .nil)))) .skip)
def b_is_answer : VS := (.seq (.ite (.orv (.notv (.call 5 (.cons (.loc 0) (.cons (.int 3) .nil)))) (.orv (.notv (.call 3 (.cons (.ix (.loc 0) (.int 0)) (.cons (.loc 1) .nil)))) (.notv (.call 3 (.cons (.ix (.loc 0) (.int 1)) (.cons (.loc 1) .nil)))))) (.seq (.ret (.bl false)) .skip) .skip) (.seq (.ret (.andv (.cmp .ne (.ix (.loc 0) (.int 0)) (.ix (.loc 0) (.int 1))) (.call 9 (.cons (.ix (.loc 0) (.int 2)) .nil)))) .skip))
def b_are_answers : VS := (.seq (.ite (.orv (.notv (.call 4 (.cons (.loc 0) .nil))) (.notv (.bi .all false (.cons (.lc false [("item", 2)] (.tloc 2) (.iseq (.loc 0)) .nil (.call 10 (.cons (.loc 2) (.cons (.loc 1) .nil)))) .nil)))) (.seq (.ret (.bl false)) .skip) .skip) (.seq (.ret (.cmp .eq (.dln [("i", 3), ("j", 4), ("length", 5)] (.ttup (.cons (.tloc 3) (.cons (.tloc 4) (.cons (.tloc 5) .nil)))) (.iseq (.loc 0)) (.tup (.cons (.loc 3) (.cons (.loc 4) .nil))) (.loc 5)) (.bi .len false (.cons (.loc 0) .nil)))) .skip))
def b_greatest_of : VS := (.seq (.asg (.tloc 2) (.lc false [("_", 3)] (.tloc 3) (.irg1 (.loc 0)) .nil (.bin .mul true (.lst false (.cons .non .nil)) (.loc 0)))) (.seq (.fr (.ttup (.cons (.tloc 4) (.cons (.tloc 5) (.cons (.tloc 6) .nil)))) (.iseq (.loc 1)) (.seq (.asg (.tsub (.ix (.loc 2) (.loc 4)) (.loc 5)) (.loc 6)) .skip)) (.seq (.ret (.call 8 (.cons (.loc 2) .nil))) .skip)))
def b_agrees : VS := (.seq (.ret (.bi .all false (.cons (.lc false [("i", 2), ("j", 3), ("length", 4)] (.ttup (.cons (.tloc 2) (.cons (.tloc 3) (.cons (.tloc 4) .nil)))) (.iseq (.loc 1)) .nil (.cmp .eq (.ix (.ix (.loc 0) (.loc 2)) (.loc 3)) (.loc 4))) .nil))) .skip)
def b_check_asked : VS := (.seq (.exp (.call 6 (.cons (.loc 0) .nil))) (.seq (.ite (.notv (.call 11 (.cons (.loc 1) (.cons (.loc 0) .nil)))) (.seq (.rais 3 (.loc 1)) .skip) .skip) .skip))
def b_check_two : VS := (.seq (.exp (.call 7 (.cons (.loc 0) (.cons (.loc 1) .nil)))) (.seq (.exp (.call 7 (.cons (.loc 0) (.cons (.loc 2) .nil)))) (.seq (.ite (.cmp .eq (.loc 1) (.loc 2)) (.seq (.rais 1 (.loc 2)) .skip) .skip) .skip)))
def b_possible : VS := (.seq (.exp (.call 14 (.cons (.loc 0) (.cons (.loc 1) .nil)))) (.seq (.ret (.call 13 (.cons (.call 12 (.cons (.loc 0) (.cons (.loc 1) .nil))) (.cons (.loc 1) .nil)))) .skip))
def b_greatest_table : VS := (.seq (.exp (.call 14 (.cons (.loc 0) (.cons (.loc 1) .nil)))) (.seq (.asg (.tloc 2) (.call 12 (.cons (.loc 0) (.cons (.loc 1) .nil)))) (.seq (.ite (.notv (.call 13 (.cons (.loc 2) (.cons (.loc 1) .nil)))) (.seq (.rais 3 (.loc 1)) .skip) .skip) (.seq (.ret (.loc 2)) .skip))))
def b_least_item : VS := (.seq (.asg (.tloc 4) (.int 0)) (.seq (.fr (.ttup (.cons (.tloc 5) (.cons (.tloc 6) (.cons (.tloc 7) .nil)))) (.iseq (.loc 1)) (.seq (.par (.cons (.tloc 8) (.cons (.tloc 9) .nil)) (.cons (.ix (.ix (.loc 0) (.loc 5)) (.loc 2)) (.cons (.ix (.ix (.loc 0) (.loc 3)) (.loc 6)) .nil))) (.seq (.ite (.andv (.cmp .isn (.loc 8) .non) (.cmp .isn (.loc 9) .non)) (.seq (.ite (.cmp .iss (.loc 7) .non) (.seq (.ret .non) .skip) .skip) (.seq (.asg (.tloc 4) (.bi .max false (.cons (.loc 4) (.cons (.bin .sub false (.bin .sub false (.loc 7) (.loc 8)) (.loc 9)) .nil)))) .skip)) .skip) .skip))) (.seq (.ret (.loc 4)) .skip)))
def b_between : VS := (.seq (.asg (.tloc 4) (.call 17 (.cons (.loc 0) (.cons (.loc 1) .nil)))) (.seq (.exp (.call 15 (.cons (.loc 0) (.cons (.loc 2) (.cons (.loc 3) .nil))))) (.seq (.ret (.tup (.cons (.call 18 (.cons (.loc 4) (.cons (.loc 1) (.cons (.loc 2) (.cons (.loc 3) .nil))))) (.cons (.ix (.ix (.loc 4) (.loc 2)) (.loc 3)) .nil)))) .skip)))
def b_settled : VS := (.seq (.asg (.tloc 2) (.call 17 (.cons (.loc 0) (.cons (.loc 1) .nil)))) (.seq (.asg (.tloc 3) (.lc2 false [("i", 4), ("j", 5)] [5] (.tloc 4) (.irg1 (.loc 0)) (.tloc 5) (.irg1 (.loc 0)) (.cmp .ne (.loc 4) (.loc 5)) (.tup (.cons (.loc 4) (.cons (.loc 5) .nil))))) (.seq (.ret (.lc true [("i", 4), ("j", 5)] (.ttup (.cons (.tloc 4) (.cons (.tloc 5) .nil))) (.iseq (.loc 3)) (.cmp .eq (.call 18 (.cons (.loc 2) (.cons (.loc 1) (.cons (.loc 4) (.cons (.loc 5) .nil))))) (.ix (.ix (.loc 2) (.loc 4)) (.loc 5))) (.tup (.cons (.loc 4) (.cons (.loc 5) .nil))))) .skip)))
def b_law_cell : VS := (.seq (.ret (.itev (.cmp .lt (.loc 1) (.bi .len false (.cons (.loc 0) .nil))) (.ix (.loc 0) (.loc 1)) (.bin .add false (.bin .mul false (.int 8101) (.loc 1)) (.bin .mod false (.bi .int false (.cons (.bi .sum false (.cons (.sl false (.loc 0) .nil (.cons (.int 1) .nil)) .nil)) .nil)) (.int 1000003))))) .skip)
def b_law_box : VS := (.seq (.ret (.lst true (.cons (.bi .abs false (.cons (.loc 0) .nil)) (.cons (.cmp .ge (.bi .abs false (.cons (.loc 0) .nil)) (.bin .pow false (.int 10) (.int 18))) (.cons (.bin .mod false (.bi .int false (.cons (.bi .abs false (.cons (.loc 0) .nil)) .nil)) (.int 2147483629)) (.cons (.int 0) .nil)))))) .skip)
def b_law_take : VS := (.seq (.ite (.andv (.ix (.loc 0) (.int 1)) (.cmp .gt (.ix (.loc 0) (.int 0)) (.int 0))) (.seq (.asg (.tloc 2) (.bin .mod false (.bi .int false (.cons (.ix (.loc 0) (.int 0)) .nil)) (.loc 1))) (.seq (.asg (.tsub (.loc 0) (.int 0)) (.bin .fdv false (.ix (.loc 0) (.int 0)) (.loc 1))) (.seq (.ret (.loc 2)) .skip))) .skip) (.seq (.asg (.tsub (.loc 0) (.int 3)) (.bin .add false (.ix (.loc 0) (.int 3)) (.int 1))) (.seq (.asg (.tloc 3) (.bin .mod false (.bi .int false (.cons (.bin .pow false (.bin .add false (.bin .add false (.ix (.loc 0) (.int 2)) (.bin .mul false (.int 15486209) (.ix (.loc 0) (.int 3)))) (.int 179424929)) (.int 5)) .nil)) (.int 2147483647))) (.seq (.ret (.bin .mod false (.bi .int false (.cons (.bin .fdv false (.bin .mod false (.bi .int false (.cons (.bin .pow false (.bin .add false (.bin .mul false (.loc 3) (.int 48271)) (.bin .mul false (.int 7919) (.ix (.loc 0) (.int 3)))) (.int 3)) .nil)) (.int 2147483587)) (.int 64)) .nil)) (.loc 1))) .skip))))
def b_law_mixed : VS := (.seq (.par (.cons (.tloc 2) (.cons (.tloc 3) .nil)) (.cons (.bi .list true (.cons (.loc 1) .nil)) (.cons (.lst true .nil) .nil))) (.seq (.wh (.cmp .ne (.loc 2) (.lst false .nil)) (.seq (.exp (.mt .append (.loc 3) (.cons (.mt .popAt (.loc 2) (.cons (.call 23 (.cons (.loc 0) (.cons (.bi .len false (.cons (.loc 2) .nil)) .nil))) .nil)) .nil))) .skip)) (.seq (.ret (.loc 3)) .skip)))
def b_law_same : VS := (.seq (.ite (.orv (.cmp .iss (.loc 1) .non) (.isi (.loc 1) ["bool"])) (.seq (.ret (.itev (.cmp .iss (.loc 1) .non) (.cmp .iss (.loc 0) .non) (.andv (.isi (.loc 0) ["bool"]) (.cmp .eq (.cmp .iss (.loc 0) (.bl true)) (.cmp .iss (.loc 1) (.bl true)))))) .skip) .skip) (.seq (.ite (.isi (.loc 1) ["int"]) (.seq (.ret (.andv (.isi (.loc 0) ["int"]) (.andv (.notv (.isi (.loc 0) ["bool"])) (.cmp .eq (.bin .sub false (.bi .int false (.cons (.loc 0) .nil)) (.loc 1)) (.int 0))))) .skip) .skip) (.seq (.ite (.isi (.loc 1) ["str"]) (.seq (.ret (.andv (.isi (.loc 0) ["str"]) (.andv (.cmp .eq (.bi .len false (.cons (.loc 0) .nil)) (.bi .len false (.cons (.loc 1) .nil))) (.cmp .eq (.lc false [("k", 2)] (.tloc 2) (.irg1 (.bi .len false (.cons (.loc 1) .nil))) (.cmp .ne (.sl false (.loc 0) (.cons (.loc 2) .nil) (.cons (.bin .add false (.loc 2) (.int 1)) .nil)) (.ix (.loc 1) (.loc 2))) (.loc 2)) (.lst false .nil))))) .skip) .skip) (.seq (.ite (.orv (.cmp .ne (.isi (.loc 0) ["list"]) (.isi (.loc 1) ["list"])) (.cmp .ne (.isi (.loc 0) ["tuple"]) (.isi (.loc 1) ["tuple"]))) (.seq (.ret (.bl false)) .skip) .skip) (.seq (.ret (.andv (.cmp .eq (.bi .len false (.cons (.loc 0) .nil)) (.bi .len false (.cons (.loc 1) .nil))) (.cmp .eq (.lc false [("k", 2)] (.tloc 2) (.irg1 (.bi .len false (.cons (.loc 1) .nil))) (.notv (.call 25 (.cons (.ix (.loc 0) (.loc 2)) (.cons (.ix (.loc 1) (.loc 2)) .nil)))) (.loc 2)) (.lst false .nil)))) .skip)))))
def b_law_closed : VS := (.seq (.par (.cons (.tloc 1) (.cons (.tloc 2) .nil)) (.cons (.lc false [("row", 3)] (.tloc 3) (.iseq (.loc 0)) .nil (.bi .list true (.cons (.loc 3) .nil))) (.cons (.bi .len false (.cons (.loc 0) .nil)) .nil))) (.seq (.fr (.tloc 4) (.irg1 (.loc 2)) (.seq (.asg (.tsub (.ix (.loc 1) (.loc 4)) (.loc 4)) (.int 0)) .skip)) (.seq (.fr (.tloc 5) (.irg1 (.loc 2)) (.seq (.fr (.tloc 6) (.irg1 (.loc 2)) (.seq (.fr (.tloc 7) (.irg1 (.loc 2)) (.seq (.ite (.andv (.cmp .isn (.ix (.ix (.loc 1) (.loc 6)) (.loc 5)) .non) (.cmp .isn (.ix (.ix (.loc 1) (.loc 5)) (.loc 7)) .non)) (.seq (.asg (.tloc 8) (.bin .add false (.ix (.ix (.loc 1) (.loc 6)) (.loc 5)) (.ix (.ix (.loc 1) (.loc 5)) (.loc 7)))) (.seq (.ite (.orv (.cmp .iss (.ix (.ix (.loc 1) (.loc 6)) (.loc 7)) .non) (.cmp .lt (.loc 8) (.ix (.ix (.loc 1) (.loc 6)) (.loc 7)))) (.seq (.asg (.tsub (.ix (.loc 1) (.loc 6)) (.loc 7)) (.loc 8)) .skip) .skip) .skip)) .skip) .skip)) .skip)) .skip)) (.seq (.ret (.loc 1)) .skip))))
def b_law_length : VS := (.seq (.ite (.andv (.loc 1) (.cmp .eq (.call 23 (.cons (.loc 0) (.cons (.int 2) .nil))) (.int 0))) (.seq (.ret (.bin .add false (.bin .pow false (.bin .pow false (.int 10) (.int 60)) (.int 4)) (.call 23 (.cons (.loc 0) (.cons (.bin .pow false (.int 10) (.int 6)) .nil))))) .skip) .skip) (.seq (.ret (.ix (.lst false (.cons (.int 0) (.cons (.call 23 (.cons (.loc 0) (.cons (.int 4) .nil))) (.cons (.call 23 (.cons (.loc 0) (.cons (.int 9) .nil))) (.cons (.bin .add false (.int 5) (.call 23 (.cons (.loc 0) (.cons (.int 30) .nil)))) .nil))))) (.call 23 (.cons (.loc 0) (.cons (.int 4) .nil))))) .skip))
def b_law_table : VS := (.seq (.asg (.tloc 3) (.bin .add false (.int 1) (.call 23 (.cons (.loc 0) (.cons (.int 4) .nil))))) (.seq (.asg (.tloc 4) (.lc false [("i", 6)] (.tloc 6) (.irg1 (.loc 1)) .nil (.lc false [("j", 5)] (.tloc 5) (.irg1 (.loc 1)) .nil (.itev (.cmp .eq (.call 23 (.cons (.loc 0) (.cons (.bin .add false (.loc 3) (.int 1)) .nil))) (.int 0)) .non (.call 27 (.cons (.loc 0) (.cons (.loc 2) .nil))))))) (.seq (.ret (.call 26 (.cons (.loc 4) .nil))) .skip)))
def b_law_pairs : VS := (.seq (.asg (.tloc 1) (.lst false .nil)) (.seq (.fr (.tloc 2) (.irg1 (.loc 0)) (.seq (.asg (.tloc 1) (.bin .add false (.loc 1) (.lc false [("j", 3)] (.tloc 3) (.irg1 (.loc 0)) (.cmp .ne (.loc 2) (.loc 3)) (.tup (.cons (.loc 2) (.cons (.loc 3) .nil)))))) .skip)) (.seq (.ret (.loc 1)) .skip)))
def b_law_answers : VS := (.seq (.par (.cons (.tloc 2) (.cons (.tloc 3) .nil)) (.cons (.bi .len false (.cons (.loc 1) .nil)) (.cons (.call 23 (.cons (.loc 0) (.cons (.int 8) .nil))) .nil))) (.seq (.asg (.tloc 4) (.call 24 (.cons (.loc 0) (.cons (.call 29 (.cons (.loc 2) .nil)) .nil)))) (.seq (.asg (.tloc 5) (.ix (.lst false (.cons (.bi .len false (.cons (.loc 4) .nil)) (.cons (.call 23 (.cons (.loc 0) (.cons (.bin .add false (.bi .len false (.cons (.loc 4) .nil)) (.int 1)) .nil))) (.cons (.bi .min false (.cons (.int 3) (.cons (.bi .len false (.cons (.loc 4) .nil)) .nil))) (.cons (.call 23 (.cons (.loc 0) (.cons (.int 3) .nil))) .nil))))) (.call 23 (.cons (.loc 0) (.cons (.int 4) .nil))))) (.seq (.asg (.tloc 6) (.lc true [("i", 7), ("j", 8)] (.ttup (.cons (.tloc 7) (.cons (.tloc 8) .nil))) (.iseq (.sl false (.loc 4) .nil (.cons (.loc 5) .nil))) .nil (.tup (.cons (.loc 7) (.cons (.loc 8) (.cons (.ix (.ix (.loc 1) (.loc 7)) (.loc 8)) .nil)))))) (.seq (.ite (.andv (.cmp .ne (.loc 6) (.lst false .nil)) (.cmp .lt (.loc 3) (.int 4))) (.seq (.asg (.tloc 9) (.call 23 (.cons (.loc 0) (.cons (.bi .len false (.cons (.loc 6) .nil)) .nil)))) (.seq (.asg (.ttup (.cons (.tloc 7) (.cons (.tloc 8) (.cons (.tloc 10) .nil)))) (.ix (.loc 6) (.loc 9))) (.seq (.asg (.tloc 11) (.ix (.lst false (.cons (.int 1) (.cons (.int 2) (.cons (.int 9) .nil)))) (.call 23 (.cons (.loc 0) (.cons (.int 3) .nil))))) (.seq (.ite (.cmp .iss (.loc 10) .non) (.seq (.asg (.tsub (.loc 6) (.loc 9)) (.tup (.cons (.loc 7) (.cons (.loc 8) (.cons (.loc 11) .nil))))) .skip) (.seq (.asg (.tsub (.loc 6) (.loc 9)) (.tup (.cons (.loc 7) (.cons (.loc 8) (.cons (.ix (.lst false (.cons (.bin .add false (.loc 10) (.loc 11)) (.cons (.bi .max false (.cons (.int 0) (.cons (.bin .sub false (.loc 10) (.loc 11)) .nil))) (.cons .non (.cons (.bin .add false (.loc 10) (.int 1)) .nil))))) (.loc 3)) .nil))))) .skip)) .skip)))) .skip) (.seq (.ret (.loc 6)) .skip))))))
def b_law_ways : VS := (.seq (.asg (.tloc 2) (.lc false [("k", 3)] (.tloc 3) (.irg1 (.loc 0)) .nil (.bin .mul true (.lst false (.cons .non .nil)) (.loc 0)))) (.seq (.fr (.ttup (.cons (.tloc 4) (.cons (.tloc 5) (.cons (.tloc 6) .nil)))) (.iseq (.loc 1)) (.seq (.asg (.tsub (.ix (.loc 2) (.loc 4)) (.loc 5)) (.loc 6)) .skip)) (.seq (.ret (.call 26 (.cons (.loc 2) .nil))) .skip)))
def b_law_possible : VS := (.seq (.asg (.tloc 2) (.call 31 (.cons (.loc 0) (.cons (.loc 1) .nil)))) (.seq (.fr (.ttup (.cons (.tloc 3) (.cons (.tloc 4) (.cons (.tloc 5) .nil)))) (.iseq (.loc 1)) (.seq (.ite (.andv (.cmp .isn (.ix (.ix (.loc 2) (.loc 3)) (.loc 4)) .non) (.orv (.cmp .iss (.loc 5) .non) (.cmp .lt (.ix (.ix (.loc 2) (.loc 3)) (.loc 4)) (.loc 5)))) (.seq (.ret (.bl false)) .skip) .skip) .skip)) (.seq (.ret (.bl true)) .skip)))
def b_law_range : VS := (.seq (.par (.cons (.tloc 4) (.cons (.tloc 5) .nil)) (.cons (.call 31 (.cons (.loc 0) (.cons (.loc 1) .nil))) (.cons (.int 0) .nil))) (.seq (.fr (.ttup (.cons (.tloc 6) (.cons (.tloc 7) (.cons (.tloc 8) .nil)))) (.iseq (.loc 1)) (.seq (.ite (.andv (.cmp .isn (.ix (.ix (.loc 4) (.loc 6)) (.loc 2)) .non) (.cmp .isn (.ix (.ix (.loc 4) (.loc 3)) (.loc 7)) .non)) (.seq (.ite (.cmp .iss (.loc 8) .non) (.seq (.ret (.tup (.cons .non (.cons .non .nil)))) .skip) .skip) (.seq (.asg (.tloc 5) (.bi .max false (.cons (.loc 5) (.cons (.bin .sub false (.bin .sub false (.loc 8) (.ix (.ix (.loc 4) (.loc 6)) (.loc 2))) (.ix (.ix (.loc 4) (.loc 3)) (.loc 7))) .nil)))) .skip)) .skip) .skip)) (.seq (.ret (.tup (.cons (.loc 5) (.cons (.ix (.ix (.loc 4) (.loc 2)) (.loc 3)) .nil)))) .skip)))
def b_law_asked : VS := (.seq (.tr (.seq (.ite (.cmp .eq (.loc 0) (.int 0)) (.seq (.ret (.lst false (.cons (.str "told") (.cons (.itev (.cmp .eq (.loc 4) (.int 0)) (.call 16 (.cons (.loc 1) (.cons (.loc 2) .nil))) (.callk 16 (.cons (.loc 2) (.cons (.loc 1) .nil)) [1, 0])) .nil)))) .skip) .skip) (.seq (.ite (.andv (.cmp .eq (.loc 0) (.int 1)) (.cmp .eq (.loc 4) (.int 0))) (.seq (.ret (.lst false (.cons (.str "told") (.cons (.call 19 (.cons (.loc 1) (.cons (.loc 2) (.cons (.ix (.loc 3) (.int 0)) (.cons (.ix (.loc 3) (.int 1)) .nil))))) .nil)))) .skip) .skip) (.seq (.ite (.cmp .eq (.loc 0) (.int 1)) (.seq (.ret (.lst false (.cons (.str "told") (.cons (.callk 19 (.cons (.ix (.loc 3) (.int 1)) (.cons (.ix (.loc 3) (.int 0)) (.cons (.loc 2) (.cons (.loc 1) .nil)))) [3, 2, 1, 0]) .nil)))) .skip) .skip) (.seq (.ret (.lst false (.cons (.str "told") (.cons (.itev (.cmp .eq (.loc 4) (.int 0)) (.call 20 (.cons (.loc 1) (.cons (.loc 2) .nil))) (.callk 20 (.cons (.loc 2) (.cons (.loc 1) .nil)) [1, 0])) .nil)))) .skip)))) (.hcons 4 3 (some 5) (.seq (.ret (.lst false (.cons (.str "answers") (.cons .given .nil)))) .skip) .hnil)) .skip)
def b_law_ranges_right : VS := (.seq (.par (.cons (.tloc 4) (.cons (.tloc 5) .nil)) (.cons (.call 29 (.cons (.loc 1) .nil)) (.cons (.lst true .nil) .nil))) (.seq (.fr (.tloc 6) (.iseq (.call 24 (.cons (.loc 0) (.cons (.loc 4) .nil)))) (.seq (.asg (.ttup (.cons (.tloc 7) (.cons (.tloc 8) .nil))) (.call 33 (.cons (.loc 1) (.cons (.loc 2) (.cons (.ix (.loc 6) (.int 0)) (.cons (.ix (.loc 6) (.int 1)) .nil)))))) (.seq (.asg (.tloc 9) (.call 34 (.cons (.int 1) (.cons (.loc 1) (.cons (.itev (.cmp .eq (.call 23 (.cons (.loc 0) (.cons (.int 2) .nil))) (.int 0)) (.bi .tuple false (.cons (.loc 2) .nil)) (.bi .list false (.cons (.loc 2) .nil))) (.cons (.loc 6) (.cons (.loc 3) .nil))))))) (.seq (.ite (.notv (.call 25 (.cons (.loc 9) (.cons (.lst false (.cons (.str "told") (.cons (.tup (.cons (.loc 7) (.cons (.loc 8) .nil))) .nil))) .nil)))) (.seq (.ret (.bl false)) .skip) .skip) (.seq (.asg (.tloc 3) (.bin .sub false (.int 1) (.loc 3))) (.seq (.ite (.andv (.cmp .eq (.lc false [("i", 10), ("j", 11), ("length", 12)] (.ttup (.cons (.tloc 10) (.cons (.tloc 11) (.cons (.tloc 12) .nil)))) (.iseq (.loc 2)) (.cmp .eq (.tup (.cons (.loc 10) (.cons (.loc 11) .nil))) (.loc 6)) (.int 1)) (.lst false .nil)) (.cmp .eq (.call 23 (.cons (.loc 0) (.cons (.int 3) .nil))) (.int 0))) (.seq (.asg (.tloc 13) (.lst false (.cons (.itev (.cmp .isn (.loc 8) .non) .non (.itev (.cmp .iss (.loc 7) .non) (.int 0) (.bin .sub false (.loc 7) (.int 1)))) (.cons (.itev (.cmp .iss (.loc 8) .non) (.loc 7) (.bin .add false (.loc 8) (.int 1))) .nil)))) (.seq (.fr (.tloc 12) (.iseq (.bin .add false (.lst false (.cons (.loc 7) (.cons (.loc 8) .nil))) (.loc 13))) (.seq (.asg (.tloc 14) (.bin .add false (.loc 2) (.lst false (.cons (.tup (.cons (.ix (.loc 6) (.int 0)) (.cons (.ix (.loc 6) (.int 1)) (.cons (.loc 12) .nil)))) .nil)))) (.seq (.ite (.andv (.cmp .ne (.loc 12) (.neg (.int 1))) (.notv (.call 25 (.cons (.call 34 (.cons (.int 0) (.cons (.loc 1) (.cons (.loc 14) (.cons (.loc 6) (.cons (.loc 3) .nil)))))) (.cons (.lst false (.cons (.str "told") (.cons (.call 32 (.cons (.loc 1) (.cons (.loc 14) .nil))) .nil))) .nil))))) (.seq (.ret (.bl false)) .skip) .skip) .skip))) .skip)) .skip) .skip)))))) (.seq (.fr (.ttup (.cons (.tloc 10) (.cons (.tloc 11) .nil))) (.iseq (.loc 4)) (.seq (.asg (.ttup (.cons (.tloc 7) (.cons (.tloc 8) .nil))) (.call 33 (.cons (.loc 1) (.cons (.loc 2) (.cons (.loc 10) (.cons (.loc 11) .nil)))))) (.seq (.ite (.cmp .eq (.loc 7) (.loc 8)) (.seq (.exp (.mt .append (.loc 5) (.cons (.tup (.cons (.loc 10) (.cons (.loc 11) .nil))) .nil))) .skip) .skip) .skip))) (.seq (.ret (.call 36 (.cons (.loc 0) (.cons (.loc 1) (.cons (.loc 2) (.cons (.loc 5) (.cons (.loc 3) .nil))))))) .skip))))
def b_law_settled_right : VS := (.seq (.par (.cons (.tloc 5) (.cons (.tloc 6) .nil)) (.cons (.call 34 (.cons (.int 2) (.cons (.loc 1) (.cons (.bi .list false (.cons (.loc 2) .nil)) (.cons .non (.cons (.loc 4) .nil)))))) (.cons (.call 34 (.cons (.int 2) (.cons (.loc 1) (.cons (.bi .tuple false (.cons (.loc 2) .nil)) (.cons .non (.cons (.bin .sub false (.int 1) (.loc 4)) .nil)))))) .nil))) (.seq (.ite (.orv (.notv (.call 25 (.cons (.loc 5) (.cons (.lst false (.cons (.str "told") (.cons (.loc 3) .nil))) .nil)))) (.notv (.call 25 (.cons (.loc 6) (.cons (.lst false (.cons (.str "told") (.cons (.loc 3) .nil))) .nil))))) (.seq (.ret (.bl false)) .skip) .skip) (.seq (.ite (.cmp .eq (.call 23 (.cons (.loc 0) (.cons (.int 2) .nil))) (.int 0)) (.seq (.exp (.mt .insert (.ix (.loc 6) (.int 1)) (.cons (.int 0) (.cons (.tup (.cons (.int 0) (.cons (.int 0) .nil))) .nil)))) .skip) (.seq (.exp (.mt .clear (.ix (.loc 6) (.int 1)) .nil)) .skip)) (.seq (.ret (.andv (.call 25 (.cons (.loc 5) (.cons (.lst false (.cons (.str "told") (.cons (.loc 3) .nil))) .nil))) (.call 25 (.cons (.call 34 (.cons (.int 2) (.cons (.loc 1) (.cons (.loc 2) (.cons .non (.cons (.loc 4) .nil)))))) (.cons (.lst false (.cons (.str "told") (.cons (.loc 3) .nil))) .nil))))) .skip))))
def b_law_none_right : VS := (.seq (.fr (.tloc 3) (.iseq (.lst false (.cons (.int 1) (.cons (.int 2) .nil)))) (.seq (.asg (.tloc 4) (.itev (.cmp .eq (.bin .mod false (.bi .int false (.cons (.bin .add false (.loc 2) (.loc 3)) .nil)) (.int 2)) (.int 0)) (.bi .list true (.cons (.loc 1) .nil)) (.bi .tuple false (.cons (.loc 1) .nil)))) (.seq (.asg (.tloc 5) (.call 34 (.cons (.loc 3) (.cons (.loc 0) (.cons (.loc 4) (.cons (.tup (.cons (.int 0) (.cons (.bin .sub false (.loc 0) (.int 1)) .nil))) (.cons (.bin .mod false (.bi .int false (.cons (.bin .add false (.loc 2) (.loc 3)) .nil)) (.int 2)) .nil))))))) (.seq (.ite (.isi (.loc 4) ["list"]) (.seq (.exp (.mt .append (.loc 4) (.cons (.str "more") .nil))) .skip) .skip) (.seq (.ite (.orv (.cmp .ne (.ix (.loc 5) (.int 0)) (.str "answers")) (.notv (.call 25 (.cons (.ix (.loc 5) (.int 1)) (.cons (.loc 4) .nil))))) (.seq (.ret (.bl false)) .skip) .skip) .skip))))) (.seq (.ret (.bl true)) .skip))
def b_law : VS := (.seq (.fr (.tloc 1) (.irg1 (.bi .max false (.cons (.int 2) (.cons (.bi .min false (.cons (.int 4) (.cons (.bi .len false (.cons (.loc 0) .nil)) .nil))) .nil)))) (.seq (.asg (.tloc 2) (.call 22 (.cons (.call 21 (.cons (.loc 0) (.cons (.loc 1) .nil))) .nil))) (.seq (.par (.cons (.tloc 3) (.cons (.tloc 4) (.cons (.tloc 5) .nil))) (.cons (.cmp .eq (.call 23 (.cons (.loc 2) (.cons (.int 8) .nil))) (.int 0)) (.cons (.call 23 (.cons (.loc 2) (.cons (.int 2) .nil))) (.cons (.ix (.lst false (.cons (.int 3) (.cons (.int 4) (.cons (.int 2) (.cons (.int 5) (.cons (.int 3) (.cons (.int 4) .nil))))))) (.call 23 (.cons (.loc 2) (.cons (.int 6) .nil)))) .nil)))) (.seq (.par (.cons (.tloc 6) (.cons (.tloc 7) .nil)) (.cons (.call 30 (.cons (.loc 2) (.cons (.call 28 (.cons (.loc 2) (.cons (.loc 5) (.cons (.loc 3) .nil)))) .nil))) (.cons (.call 30 (.cons (.loc 2) (.cons (.call 28 (.cons (.loc 2) (.cons (.loc 5) (.cons (.bl false) .nil)))) .nil))) .nil))) (.seq (.fr (.tloc 8) (.iseq (.lst false (.cons (.loc 6) (.cons (.loc 7) .nil)))) (.seq (.asg (.tloc 9) (.call 32 (.cons (.loc 5) (.cons (.loc 8) .nil)))) (.seq (.ite (.notv (.call 25 (.cons (.call 34 (.cons (.int 0) (.cons (.loc 5) (.cons (.bi .list false (.cons (.loc 8) .nil)) (.cons .non (.cons (.loc 4) .nil)))))) (.cons (.lst false (.cons (.str "told") (.cons (.loc 9) .nil))) .nil)))) (.seq (.ret (.bl false)) .skip) .skip) (.seq (.ite (.notv (.call 25 (.cons (.call 34 (.cons (.int 0) (.cons (.loc 5) (.cons (.bi .tuple false (.cons (.loc 8) .nil)) (.cons .non (.cons (.bin .sub false (.int 1) (.loc 4)) .nil)))))) (.cons (.lst false (.cons (.str "told") (.cons (.loc 9) .nil))) .nil)))) (.seq (.ret (.bl false)) .skip) .skip) (.seq (.ite (.andv (.loc 9) (.notv (.call 35 (.cons (.loc 2) (.cons (.loc 5) (.cons (.loc 8) (.cons (.loc 4) .nil))))))) (.seq (.ret (.bl false)) .skip) .skip) (.seq (.ite (.andv (.notv (.loc 9)) (.notv (.call 37 (.cons (.loc 5) (.cons (.loc 8) (.cons (.loc 4) .nil)))))) (.seq (.ret (.bl false)) .skip) .skip) .skip)))))) .skip))))) (.seq (.ret (.bl true)) .skip))
def G : Pg := [⟨1, 1, b_is_integer, false⟩,
  ⟨1, 1, b_is_count, false⟩,
  ⟨3, 3, b_is_within, false⟩,
  ⟨2, 2, b_is_index, false⟩,
  ⟨1, 1, b_is_list, false⟩,
  ⟨2, 2, b_is_tuple, false⟩,
  ⟨1, 1, b_check_many, false⟩,
  ⟨2, 2, b_check_post, false⟩,
  ⟨1, 7, b_closed_rows, false⟩,
  ⟨1, 1, b_is_length, false⟩,
  ⟨2, 2, b_is_answer, false⟩,
  ⟨2, 6, b_are_answers, false⟩,
  ⟨2, 7, b_greatest_of, false⟩,
  ⟨2, 5, b_agrees, false⟩,
  ⟨2, 2, b_check_asked, false⟩,
  ⟨3, 3, b_check_two, false⟩,
  ⟨2, 2, b_possible, false⟩,
  ⟨2, 3, b_greatest_table, false⟩,
  ⟨4, 10, b_least_item, false⟩,
  ⟨4, 5, b_between, false⟩,
  ⟨2, 6, b_settled, true⟩,
  ⟨2, 2, b_law_cell, false⟩,
  ⟨1, 1, b_law_box, true⟩,
  ⟨2, 4, b_law_take, false⟩,
  ⟨2, 4, b_law_mixed, false⟩,
  ⟨2, 3, b_law_same, false⟩,
  ⟨1, 9, b_law_closed, false⟩,
  ⟨2, 2, b_law_length, false⟩,
  ⟨3, 7, b_law_table, false⟩,
  ⟨1, 4, b_law_pairs, false⟩,
  ⟨2, 12, b_law_answers, false⟩,
  ⟨2, 7, b_law_ways, false⟩,
  ⟨2, 6, b_law_possible, false⟩,
  ⟨4, 9, b_law_range, false⟩,
  ⟨5, 6, b_law_asked, true⟩,
  ⟨4, 15, b_law_ranges_right, false⟩,
  ⟨5, 7, b_law_settled_right, false⟩,
  ⟨3, 6, b_law_none_right, false⟩,
  ⟨1, 10, b_law, false⟩]
def n_is_integer : List Str := ["value"]
def n_is_count : List Str := ["value"]
def n_is_within : List Str := ["value", "low", "high"]
def n_is_index : List Str := ["value", "many"]
def n_is_list : List Str := ["value"]
def n_is_tuple : List Str := ["value", "many"]
def n_check_many : List Str := ["posts"]
def n_check_post : List Str := ["posts", "post"]
def n_closed_rows : List Str := ["rows", "found", "row", "place", "by", "at", "more"]
def n_is_length : List Str := ["value"]
def n_is_answer : List Str := ["value", "posts"]
def n_are_answers : List Str := ["value", "posts", "item", "i", "j", "length"]
def n_greatest_of : List Str := ["posts", "answers", "rows", "_", "i", "j", "length"]
def n_agrees : List Str := ["table", "answers", "i", "j", "length"]
def n_check_asked : List Str := ["posts", "answers"]
def n_check_two : List Str := ["posts", "i", "j"]
def n_possible : List Str := ["posts", "answers"]
def n_greatest_table : List Str := ["posts", "answers", "found"]
def n_least_item : List Str := ["greatest", "answers", "i", "j", "least", "a", "b", "length", "ahead", "behind"]
def n_between : List Str := ["posts", "answers", "i", "j", "greatest"]
def n_settled : List Str := ["posts", "answers", "greatest", "pairs", "i", "j"]
def n_law_cell : List Str := ["script", "k"]
def n_law_box : List Str := ["great"]
def n_law_take : List Str := ["box", "many", "digit", "mixed"]
def n_law_mixed : List Str := ["box", "items", "left", "found"]
def n_law_same : List Str := ["given", "due", "k"]
def n_law_closed : List Str := ["rows", "found", "many", "row", "k", "by", "i", "j", "some"]
def n_law_length : List Str := ["box", "great"]
def n_law_table : List Str := ["box", "posts", "great", "lacks", "rows", "j", "i"]
def n_law_pairs : List Str := ["posts", "found", "i", "j"]
def n_law_answers : List Str := ["box", "table", "posts", "way", "pairs", "count", "found", "i", "j", "at", "length", "more"]
def n_law_ways : List Str := ["posts", "answers", "rows", "k", "i", "j", "length"]
def n_law_possible : List Str := ["posts", "answers", "ways", "i", "j", "length"]
def n_law_range : List Str := ["posts", "answers", "i", "j", "ways", "low", "a", "b", "length"]
def n_law_asked : List Str := ["which", "posts", "answers", "pair", "turn", "e"]
def n_law_ranges_right : List Str := ["box", "posts", "answers", "turn", "pairs", "due", "pair", "low", "high", "given", "i", "j", "length", "beyond", "some"]
def n_law_settled_right : List Str := ["box", "posts", "answers", "due", "turn", "held", "spoilt"]
def n_law_none_right : List Str := ["posts", "answers", "turn", "which", "thing", "given"]
def n_law : List Str := ["script", "k", "box", "great", "turn", "posts", "answers", "other", "some", "due"]
def ns : List (List Str) := [n_is_integer, n_is_count, n_is_within, n_is_index, n_is_list, n_is_tuple, n_check_many, n_check_post, n_closed_rows, n_is_length, n_is_answer, n_are_answers, n_greatest_of, n_agrees, n_check_asked, n_check_two, n_possible, n_greatest_table, n_least_item, n_between, n_settled, n_law_cell, n_law_box, n_law_take, n_law_mixed, n_law_same, n_law_closed, n_law_length, n_law_table, n_law_pairs, n_law_answers, n_law_ways, n_law_possible, n_law_range, n_law_asked, n_law_ranges_right, n_law_settled_right, n_law_none_right, n_law]
def ixs : List Nat := [6, 7, 8, 9, 10, 11, 15, 16, 17, 19, 20, 21, 22, 23, 24, 25, 26, 27, 28, 29, 30, 32, 33, 34, 35, 36, 37, 38, 39, 40, 41, 42, 43, 44, 45, 46, 47, 48, 49]
def xixs : List Nat := [1, 2, 3, 4]
def tab : Tab := ⟨[(("is_integer" : Str), (["value"] : List Str)), (("is_count" : Str), (["value"] : List Str)), (("is_within" : Str), (["value", "low", "high"] : List Str)), (("is_index" : Str), (["value", "many"] : List Str)), (("is_list" : Str), (["value"] : List Str)), (("is_tuple" : Str), (["value", "many"] : List Str)), (("check_many" : Str), (["posts"] : List Str)), (("check_post" : Str), (["posts", "post"] : List Str)), (("closed_rows" : Str), (["rows"] : List Str)), (("is_length" : Str), (["value"] : List Str)), (("is_answer" : Str), (["value", "posts"] : List Str)), (("are_answers" : Str), (["value", "posts"] : List Str)), (("greatest_of" : Str), (["posts", "answers"] : List Str)), (("agrees" : Str), (["table", "answers"] : List Str)), (("check_asked" : Str), (["posts", "answers"] : List Str)), (("check_two" : Str), (["posts", "i", "j"] : List Str)), (("possible" : Str), (["posts", "answers"] : List Str)), (("greatest_table" : Str), (["posts", "answers"] : List Str)), (("least_item" : Str), (["greatest", "answers", "i", "j"] : List Str)), (("between" : Str), (["posts", "answers", "i", "j"] : List Str)), (("settled" : Str), (["posts", "answers"] : List Str)), (("_law_cell" : Str), (["script", "k"] : List Str)), (("_law_box" : Str), (["great"] : List Str)), (("_law_take" : Str), (["box", "many"] : List Str)), (("_law_mixed" : Str), (["box", "items"] : List Str)), (("_law_same" : Str), (["given", "due"] : List Str)), (("_law_closed" : Str), (["rows"] : List Str)), (("_law_length" : Str), (["box", "great"] : List Str)), (("_law_table" : Str), (["box", "posts", "great"] : List Str)), (("_law_pairs" : Str), (["posts"] : List Str)), (("_law_answers" : Str), (["box", "table"] : List Str)), (("_law_ways" : Str), (["posts", "answers"] : List Str)), (("_law_possible" : Str), (["posts", "answers"] : List Str)), (("_law_range" : Str), (["posts", "answers", "i", "j"] : List Str)), (("_law_asked" : Str), (["which", "posts", "answers", "pair", "turn"] : List Str)), (("_law_ranges_right" : Str), (["box", "posts", "answers", "turn"] : List Str)), (("_law_settled_right" : Str), (["box", "posts", "answers", "due", "turn"] : List Str)), (("_law_none_right" : Str), (["posts", "answers", "turn"] : List Str)), (("law" : Str), (["script"] : List Str))],
  [(("LEAST_POSTS" : Str), (2 : Int)), (("MOST_POSTS" : Str), (5 : Int))],
  [],
  ["MapError", "InvalidPost", "InvalidMany", "InvalidAnswers"],
  ["abs", "all", "bool", "enumerate", "int", "isinstance", "len", "list", "max", "min", "range", "str", "sum", "tuple"],
  [(20, 0, (["answers", "posts"] : List Str), [1, 0]), (19, 0, (["j", "i", "answers", "posts"] : List Str), [3, 2, 1, 0]), (16, 0, (["answers", "posts"] : List Str), [1, 0])]⟩
end K36

set_option Elab.async false
set_option linter.all false
set_option maxRecDepth 100000
set_option maxHeartbeats 4000000
namespace K36
open VI PySem L2
def isI : DD → Bool
  | .int _ => true
  | _ => false
theorem f_is_integer {n : Nat} (h : 1 ≤ n) (d : DD) (S : Sto) : callF G n 0 [d] S = .ok (.bl (isI d)) S := by
  obtain ⟨m, rfl⟩ : ∃ m, n = m + 1 := ⟨n - 1, by omega⟩
  rw [callF_eq (D := ⟨1, 1, b_is_integer, false⟩) rfl rfl]
  have : VI.run (callF G m) S.length b_is_integer [some d] S = .go (.rt (.bl (isI d))) [some d] S := by
    cases d <;> simp [b_is_integer, VI.run, ev, evs, bok, sok, gnx, grt, of_bl', tyD, isiB, isI]
  exact (congrArg _ this).trans (end_rt rfl (Flat.bl _) (take_self S))
theorem f_is_count {n : Nat} (h : 2 ≤ n) (i : Int) (S : Sto) : callF G n 1 [.int i] S = .ok (.bl (decide (0 ≤ i))) S := by
  obtain ⟨m, rfl⟩ : ∃ m, n = m + 1 := ⟨n - 1, by omega⟩
  rw [callF_eq (D := ⟨1, 1, b_is_count, false⟩) rfl rfl]
  have : VI.run (callF G m) S.length b_is_count [some (.int i)] S = .go (.rt (.bl (decide (0 ≤ i)))) [some (.int i)] S := by
    simp [b_is_count, VI.run, ev, evs, bok, sok, gnx, grt, of_bl', f_is_integer (show 1 ≤ m by omega), isI, cmpD]
  exact (congrArg _ this).trans (end_rt rfl (Flat.bl _) (take_self S))
theorem f_is_within {n : Nat} (h : 2 ≤ n) (i a b : Int) (S : Sto) : callF G n 2 [.int i, .int a, .int b] S = .ok (.bl (decide (a ≤ i) && decide (i ≤ b))) S := by
  obtain ⟨m, rfl⟩ : ∃ m, n = m + 1 := ⟨n - 1, by omega⟩
  rw [callF_eq (D := ⟨3, 3, b_is_within, false⟩) rfl rfl]
  have : VI.run (callF G m) S.length b_is_within [some (.int i), some (.int a), some (.int b)] S = .go (.rt (.bl (decide (a ≤ i) && decide (i ≤ b)))) [some (.int i), some (.int a), some (.int b)] S := by
    by_cases q : a ≤ i <;> simp [b_is_within, VI.run, ev, evs, bok, sok, gnx, grt, of_bl', f_is_integer (show 1 ≤ m by omega), isI, cmpD, q]
  exact (congrArg _ this).trans (end_rt rfl (Flat.bl _) (take_self S))
theorem f_is_index {n : Nat} (h : 2 ≤ n) (i b : Int) (S : Sto) : callF G n 3 [.int i, .int b] S = .ok (.bl (decide (0 ≤ i) && decide (i < b))) S := by
  obtain ⟨m, rfl⟩ : ∃ m, n = m + 1 := ⟨n - 1, by omega⟩
  rw [callF_eq (D := ⟨2, 2, b_is_index, false⟩) rfl rfl]
  have : VI.run (callF G m) S.length b_is_index [some (.int i), some (.int b)] S = .go (.rt (.bl (decide (0 ≤ i) && decide (i < b)))) [some (.int i), some (.int b)] S := by
    by_cases q : 0 ≤ i <;> simp [b_is_index, VI.run, ev, evs, bok, sok, gnx, grt, of_bl', f_is_integer (show 1 ≤ m by omega), isI, cmpD, q]
  exact (congrArg _ this).trans (end_rt rfl (Flat.bl _) (take_self S))
end K36

set_option Elab.async false
set_option linter.all false
set_option maxRecDepth 100000
set_option maxHeartbeats 4000000
namespace K36
open VI PySem L2
/-! ### tables of lengths -/
abbrev LN := Option Int
abbrev Mat := List (List LN)
def dL : LN → DD
  | none => .non
  | some i => .int i
def dRow (r : List LN) : List DD := r.map dL
def gt (M : Mat) (i j : Nat) : LN := (M.getD i []).getD j none
def st (M : Mat) (i j : Nat) (v : LN) : Mat := M.set i ((M.getD i []).set j v)
def Wf (n : Nat) (M : Mat) : Prop := M.length = n ∧ ∀ r ∈ M, r.length = n
def relax (b i j : Nat) (M : Mat) : Mat := match gt M i b, gt M b j with
  | some x, some y => (match gt M i j with
    | none => st M i j (some (x + y))
    | some z => if x + y < z then st M i j (some (x + y)) else M)
  | _, _ => M
def diagTo (M : Mat) : Nat → Mat
  | 0 => M
  | i + 1 => st (diagTo M i) i i (some 0)
def rlJ (b i : Nat) (M : Mat) : Nat → Mat
  | 0 => M
  | j + 1 => relax b i j (rlJ b i M j)
def rlI (n b : Nat) (M : Mat) : Nat → Mat
  | 0 => M
  | i + 1 => rlJ b i (rlI n b M i) n
def rlB (n : Nat) (M : Mat) : Nat → Mat
  | 0 => M
  | b + 1 => rlI n b (rlB n M b) n
def fw (n : Nat) (M : Mat) : Mat := rlB n (diagTo M n) n
theorem Wf.st {n i j : Nat} {M : Mat} {v : LN} (h : Wf n M) (hi : i < n) : Wf n (st M i j v) := by
  refine ⟨by simp [K36.st, h.1], fun r hr => ?_⟩
  rcases List.mem_or_eq_of_mem_set hr with hr | rfl
  · exact h.2 r hr
  · rw [List.length_set]
    have : i < M.length := by rw [h.1]; exact hi
    rw [List.getD_eq_getElem?_getD, List.getElem?_eq_getElem this]
    exact h.2 _ (List.getElem_mem this)
theorem Wf.relax {n b i j : Nat} {M : Mat} (h : Wf n M) (hi : i < n) : Wf n (relax b i j M) := by
  unfold K36.relax
  split
  · split
    · exact h.st hi
    · split
      · exact h.st hi
      · exact h
  · exact h
theorem Wf.diag {n : Nat} {M : Mat} (h : Wf n M) : ∀ i, i ≤ n → Wf n (diagTo M i)
  | 0, _ => h
  | i + 1, hi => (h.diag i (by omega)).st (by omega)
theorem Wf.rlJ {n b i : Nat} {M : Mat} (h : Wf n M) (hi : i < n) : ∀ j, Wf n (rlJ b i M j)
  | 0 => h
  | j + 1 => (h.rlJ hi j).relax hi
theorem Wf.rlI {n b : Nat} {M : Mat} (h : Wf n M) : ∀ i, i ≤ n → Wf n (rlI n b M i)
  | 0, _ => h
  | i + 1, hi => (h.rlI i (by omega)).rlJ (by omega) n
theorem Wf.rlB {n : Nat} {M : Mat} (h : Wf n M) : ∀ b, Wf n (rlB n M b)
  | 0 => h
  | b + 1 => (h.rlB b).rlI n (Nat.le_refl _)
theorem Wf.fw {n : Nat} {M : Mat} (h : Wf n M) : Wf n (fw n M) := (h.diag n (Nat.le_refl _)).rlB n
theorem Wf.row {n i : Nat} {M : Mat} (h : Wf n M) (hi : i < n) : (M.getD i []).length = n := by
  have : i < M.length := by rw [h.1]; exact hi
  rw [List.getD_eq_getElem?_getD, List.getElem?_eq_getElem this]
  exact h.2 _ (List.getElem_mem this)
/-! ### as cells -/
def SM (S : Sto) (M : Mat) : Sto := S ++ M.map dRow
def cels (s n : Nat) : List DD := (List.range n).map fun i => DD.cel (s + i)
theorem cels_len {s n : Nat} : (cels s n).length = n := by simp [cels]
theorem cels_at {s n i : Nat} (h : i < n) : (cels s n)[i]? = some (.cel (s + i)) := by simp [cels, h]
theorem atI_nat {α : Type} (xs : List α) (i : Nat) : atI xs (i : Int) = xs[i]? := by
  unfold L2.atI L2.ixN
  rw [if_pos (Int.natCast_nonneg i)]
  by_cases h : i < xs.length
  · rw [if_pos (by omega)]
    simp
  · rw [if_neg (by omega), List.getElem?_eq_none (by omega)]
    rfl
theorem SM_len {S : Sto} {M : Mat} : (SM S M).length = S.length + M.length := by simp [SM]
theorem SM_row {S : Sto} {M : Mat} {n i : Nat} (h : Wf n M) (hi : i < n) : (SM S M)[S.length + i]? = some (dRow (M.getD i [])) := by
  have : i < M.length := by rw [h.1]; exact hi
  unfold SM
  rw [List.getElem?_append_right (by omega), List.getElem?_map, Nat.add_sub_cancel_left, List.getD_eq_getElem?_getD, List.getElem?_eq_getElem this]
  rfl
theorem dRow_at {r : List LN} {j : Nat} (h : j < r.length) : (dRow r)[j]? = some (dL (r.getD j none)) := by
  unfold dRow
  rw [List.getElem?_map, List.getD_eq_getElem?_getD, List.getElem?_eq_getElem h]
  rfl
theorem SM_set {S : Sto} {M : Mat} {i j : Nat} {v : LN} : (SM S M).set (S.length + i) ((dRow (M.getD i [])).set j (dL v)) = SM S (st M i j v) := by
  unfold SM st dRow
  rw [List.set_append_right _ _ (by omega), Nat.add_sub_cancel_left, List.map_set]
  simp [List.map_set]
section
variable {F : FT} {k : Nat} {env : VEnv} {S : Sto} {M : Mat} {n a i j x y : Nat}
theorem ev_row {s : Nat} {T : Sto} (h1 : env[a]? = some (some (.lst (cels s n)))) (h2 : env[i]? = some (some (.int (x : Nat)))) (hx : x < n) : ev F k none (.ix (.loc a) (.loc i)) env T = .ok (.cel (s + x)) T := by
  simp only [ev, h1, h2, bok, ixD, seqOf, atI_nat, cels_at hx]
theorem ev_cell (hw : Wf n M) (h1 : env[a]? = some (some (.cel (S.length + x)))) (h2 : env[j]? = some (some (.int (y : Nat)))) (hx : x < n) (hy : y < n) : ev F k none (.ix (.loc a) (.loc j)) env (SM S M) = .ok (dL (gt M x y)) (SM S M) := by
  have hr := SM_row (S := S) hw hx
  simp only [ev, h1, h2, bok, ixD, seqOf, hr, atI_nat, dRow_at (show y < (M.getD x []).length by rw [hw.row hx]; exact hy)]
  rfl
theorem ev_ix2 (hw : Wf n M) (h1 : env[a]? = some (some (.lst (cels S.length n)))) (h2 : env[i]? = some (some (.int (x : Nat)))) (h3 : env[j]? = some (some (.int (y : Nat)))) (hx : x < n) (hy : y < n) :
    ev F k none (.ix (.ix (.loc a) (.loc i)) (.loc j)) env (SM S M) = .ok (dL (gt M x y)) (SM S M) := by
  have hr := SM_row (S := S) hw hx
  have e : ev F k none (.ix (.ix (.loc a) (.loc i)) (.loc j)) env (SM S M) = (ev F k none (.ix (.loc a) (.loc i)) env (SM S M)).bind fun x S => (ev F k none (.loc j) env S).bind fun y S => ixD x y S := by simp only [ev]
  rw [e, ev_row h1 h2 hx]
  simp only [ev, h3, bok, ixD, seqOf, hr, atI_nat, dRow_at (show y < (M.getD x []).length by rw [hw.row hx]; exact hy)]
  rfl
theorem set_cell {v : LN} (hw : Wf n M) (hk : k ≤ S.length) (hx : x < n) (hy : y < n) : setD k (.cel (S.length + x)) (.int (y : Nat)) (dL v) (SM S M) = .ok () (SM S (st M x y v)) := by
  have hr := SM_row (S := S) hw hx
  have hl : ixN (dRow (M.getD x [])).length (y : Int) = some y := by
    unfold L2.ixN
    have : (dRow (M.getD x [])).length = n := by rw [dRow, List.length_map, hw.row hx]
    rw [this]
    simp [hy]
  simp only [setD, hr, hl]
  rw [if_pos (.inl (by omega)), SM_set]
end
end K36

set_option Elab.async false
set_option linter.all false
set_option maxRecDepth 100000
set_option maxHeartbeats 4000000
namespace K36
open VI PySem L2
/-- the same but for the names l -/
def Eb (l : List Nat) (e e' : VEnv) : Prop := e'.length = e.length ∧ ∀ i : Nat, i ∉ l → e'[i]? = e[i]?
theorem Eb.refl {l : List Nat} {e : VEnv} : Eb l e e := ⟨rfl, fun _ _ => rfl⟩
theorem Eb.trans {l : List Nat} {e e1 e2 : VEnv} (h : Eb l e e1) (g : Eb l e1 e2) : Eb l e e2 := ⟨g.1.trans h.1, fun i hi => (g.2 i hi).trans (h.2 i hi)⟩
theorem Eb.mono {l l' : List Nat} {e e1 : VEnv} (h : Eb l e e1) (hl : ∀ i ∈ l, i ∈ l') : Eb l' e e1 := ⟨h.1, fun i hi => h.2 i fun q => hi (hl i q)⟩
theorem Eb.set {l : List Nat} {e : VEnv} {i : Nat} {v : Option DD} (hi : i ∈ l) : Eb l e (e.set i v) := ⟨by simp, fun j hj => by rw [List.getElem?_set_ne (fun q => hj (by rw [← q]; exact hi))]⟩
theorem Eb.at_ {l : List Nat} {e e1 : VEnv} (h : Eb l e e1) {i : Nat} {o : Option (Option DD)} (hi : i ∉ l) (g : e[i]? = o) : e1[i]? = o := (h.2 i hi).trans g
theorem set_at {e : VEnv} {i : Nat} {v : Option DD} (h : i < e.length) : (e.set i v)[i]? = some v := List.getElem?_set_self h
section
variable {F : FT} {k : Nat} {S : Sto} {M : Mat} {n b i j : Nat}
theorem isn_dL (v : LN) (T : Sto) : cmpD .isn (dL v) .non T = .ok (.bl v.isSome) T := by cases v <;> rfl
theorem iss_dL (v : LN) (T : Sto) : cmpD .iss (dL v) .non T = .ok (.bl v.isNone) T := by cases v <;> rfl
/-! ### _law_closed -/
def lcBody : VS := (.seq (.ite (.andv (.cmp .isn (.ix (.ix (.loc 1) (.loc 6)) (.loc 5)) .non) (.cmp .isn (.ix (.ix (.loc 1) (.loc 5)) (.loc 7)) .non)) (.seq (.asg (.tloc 8) (.bin .add false (.ix (.ix (.loc 1) (.loc 6)) (.loc 5)) (.ix (.ix (.loc 1) (.loc 5)) (.loc 7)))) (.seq (.ite (.orv (.cmp .iss (.ix (.ix (.loc 1) (.loc 6)) (.loc 7)) .non) (.cmp .lt (.loc 8) (.ix (.ix (.loc 1) (.loc 6)) (.loc 7)))) (.seq (.asg (.tsub (.ix (.loc 1) (.loc 6)) (.loc 7)) (.loc 8)) .skip) .skip) .skip)) .skip) .skip)
theorem lc_body {env : VEnv} (hw : Wf n M) (hk : k ≤ S.length) (hb : b < n) (hi : i < n) (hj : j < n) (hl : env.length = 9) (h1 : env[1]? = some (some (.lst (cels S.length n)))) (h5 : env[5]? = some (some (.int (b : Nat)))) (h6 : env[6]? = some (some (.int (i : Nat)))) (h7 : env[7]? = some (some (.int (j : Nat)))) :
    ∃ env', VI.run F k lcBody env (SM S M) = .go .nx env' (SM S (relax b i j M)) ∧ Eb [8] env env' := by
  have a1 := ev_ix2 (F := F) (k := k) (S := S) hw h1 h6 h5 hi hb
  have a2 := ev_ix2 (F := F) (k := k) (S := S) hw h1 h5 h7 hb hj
  unfold lcBody relax
  cases q1 : gt M i b with
  | none =>
    rw [q1] at a1
    refine ⟨env, ?_, .refl⟩
    simp only [VI.run, evT, a1, bok, isn_dL, of_bl', sok, gnx]
    simp only [ev, bok, isn_dL, of_bl', sok, gnx, dL, cmpD]
    rfl
  | some x =>
    rw [q1] at a1
    cases q2 : gt M b j with
    | none =>
      rw [q2] at a2
      refine ⟨env, ?_, .refl⟩
      have e1 : ∀ T, ev F k none .non env T = .ok .non T := fun T => by simp only [ev]
      simp [VI.run, evT, a1, a2, e1, bok, isn_dL, of_bl', sok, gnx, dL, cmpD]
    | some y =>
      rw [q2] at a2
      have e1 : ∀ T, ev F k none .non env T = .ok .non T := fun T => by simp only [ev]
      have eq1 : Eb [8] env (env.set 8 (some (.int (x + y)))) := .set (by simp)
      have b3 := ev_ix2 (F := F) (k := k) (S := S) hw (eq1.at_ (by simp) h1) (eq1.at_ (by simp) h6) (eq1.at_ (by simp) h7) hi hj
      have b4 := ev_row (F := F) (k := k) (T := SM S M) (eq1.at_ (by simp) h1) (eq1.at_ (by simp) h6) hi
      have b5 : ∀ T, ev F k none (.loc 8) (env.set 8 (some (.int (x + y)))) T = .ok (.int (x + y)) T := fun T => by simp only [ev, set_at (show 8 < env.length by omega)]
      have b6 : ∀ T, ev F k none (.loc 7) (env.set 8 (some (.int (x + y)))) T = .ok (.int (j : Nat)) T := fun T => by simp only [ev, eq1.at_ (by simp) h7]
      have e2 : ∀ T, ev F k none .non (env.set 8 (some (.int (x + y)))) T = .ok .non T := fun T => by simp only [ev]
      have w := set_cell (k := k) (v := some (x + y)) hw hk hi hj
      have bin1 : ev F k none (.bin .add false (.ix (.ix (.loc 1) (.loc 6)) (.loc 5)) (.ix (.ix (.loc 1) (.loc 5)) (.loc 7))) env (SM S M) = .ok (.int (x + y)) (SM S M) := by
        have : ev F k none (.bin .add false (.ix (.ix (.loc 1) (.loc 6)) (.loc 5)) (.ix (.ix (.loc 1) (.loc 5)) (.loc 7))) env (SM S M) = (ev F k none (.ix (.ix (.loc 1) (.loc 6)) (.loc 5)) env (SM S M)).bind fun x S => (ev F k none (.ix (.ix (.loc 1) (.loc 5)) (.loc 7)) env S).bind fun y S => binD .add false x y S := by simp only [ev]
        rw [this, a1]
        simp only [bok, a2]
        rfl
      have tsub : asg F k none (.tsub (.ix (.loc 1) (.loc 6)) (.loc 7)) (.int (x + y)) (env.set 8 (some (.int (x + y)))) (SM S M) = .ok (env.set 8 (some (.int (x + y)))) (SM S (st M i j (some (x + y)))) := by
        have : asg F k none (.tsub (.ix (.loc 1) (.loc 6)) (.loc 7)) (.int (x + y)) (env.set 8 (some (.int (x + y)))) (SM S M) = (ev F k none (.ix (.loc 1) (.loc 6)) (env.set 8 (some (.int (x + y)))) (SM S M)).calm.bind fun u S => (ev F k none (.loc 7) (env.set 8 (some (.int (x + y)))) S).calm.bind fun v S => (setD k u v (.int (x + y)) S).bind fun _ S => .ok (env.set 8 (some (.int (x + y)))) S := by simp only [asg]
        rw [this, b4]
        simp only [cok, bok, b6]
        rw [show DD.int (x + y) = dL (some (x + y)) from rfl, w]
        rfl
      have asg8 : asg F k none (.tloc 8) (.int (x + y)) env (SM S M) = .ok (env.set 8 (some (.int (x + y)))) (SM S M) := by simp only [asg]
      cases q3 : gt M i j with
      | none =>
        rw [q3] at b3
        refine ⟨_, ?_, eq1⟩
        simp [VI.run, evT, a1, a2, e1, e2, bok, isn_dL, iss_dL, of_bl', sok, gnx, bin1, asg8, b3, tsub, b5]
      | some z =>
        rw [q3] at b3
        refine ⟨_, ?_, eq1⟩
        by_cases hz : x + y < z
        · have c1 : cmpD .lt (.int (x + y)) (dL (some z)) (SM S M) = .ok (.bl true) (SM S M) := by simp [cmpD, dL, hz]
          simp [VI.run, evT, a1, a2, e1, e2, bok, isn_dL, iss_dL, of_bl', sok, gnx, bin1, asg8, b3, tsub, b5, c1, hz]
        · have c1 : cmpD .lt (.int (x + y)) (dL (some z)) (SM S M) = .ok (.bl false) (SM S M) := by simp [cmpD, dL, hz]
          simp [VI.run, evT, a1, a2, e1, e2, bok, isn_dL, iss_dL, of_bl', sok, gnx, bin1, asg8, b3, b5, c1, hz]
end
end K36

set_option Elab.async false
set_option linter.all false
set_option maxRecDepth 100000
set_option maxHeartbeats 4000000
namespace K36
open VI PySem L2
section
variable {F : FT} {k : Nat} {S : Sto} {M : Mat} {n b i j : Nat}
theorem rng_lt {n i : Nat} (T : Sto) (h : i < n) : (It2.rng 0 n).at_ i T = some (some (.int (i : Nat))) := by
  show some (if i < n then some (DD.int (0 + (i : Int))) else none) = _
  rw [if_pos h, Int.zero_add]
theorem rng_end {n : Nat} (T : Sto) : (It2.rng 0 n).at_ n T = some none := by
  show some (if n < n then some (DD.int (0 + (n : Int))) else none) = _
  rw [if_neg (Nat.lt_irrefl n)]
theorem evI_rng {e : VE} {env : VEnv} {T : Sto} {m : Nat} (h : ev F k none e env T = .ok (.int (m : Nat)) T) (hm : m ≤ 1000000) : evI F k none (.irg1 e) env T = .ok (.rng 0 m) T := by
  have : evI F k none (.irg1 e) env T = (ev F k none e env T).bind fun x S => match x with
    | .int j => if -1000000 ≤ j ∧ j ≤ 1000000 then .ok (.rng 0 j.toNat) S else .stuck
    | _ => .stuck := by
    simp only [evI]
    try rfl
  rw [this, h]
  show (if -1000000 ≤ (m : Int) ∧ (m : Int) ≤ 1000000 then R.ok (It2.rng 0 (m : Int).toNat) T else .stuck) = _
  rw [if_pos (by omega)]
  rfl
/-- one name is stored, then the body -/
theorem asg_loc {x : Nat} {d : DD} {env : VEnv} {T : Sto} {body : VS} : (asg F k none (.tloc x) d env T).stm env (fun env S => VI.run F k body env S) = VI.run F k body (env.set x (some d)) T := by simp only [asg, sok]
theorem seq_go {a c : VS} {env env' : VEnv} {T T' : Sto} (h : VI.run F k a env T = .go .nx env' T') : VI.run F k (.seq a c) env T = VI.run F k c env' T' := by simp only [VI.run, h, gnx]
theorem skip_go {env : VEnv} {T : Sto} : VI.run F k .skip env T = .go .nx env T := by simp only [VI.run]
theorem ret_go {e : VE} {env : VEnv} {T T' : Sto} {d : DD} (h : ev F k none e env T = .ok d T') : VI.run F k (.seq (.ret e) .skip) env T = .go (.rt d) env T' := by simp only [VI.run, h, sok, grt]
theorem fr_eq {t it : VE} {bd : VS} {env : VEnv} {T T' : Sto} {J : It2} (h : evI F k none it env T = .ok J T') : VI.run F k (.fr t it bd) env T = forL J (fun x env S => (asg F k none t x env S).stm env fun env S => VI.run F k bd env S) fuelW 0 env T' := by simp only [VI.run, h, sok]
theorem lc_J {env : VEnv} (hn : n ≤ 1000) (hw : Wf n M) (hk : k ≤ S.length) (hb : b < n) (hi : i < n) (hl : env.length = 9) (h1 : env[1]? = some (some (.lst (cels S.length n)))) (h2 : env[2]? = some (some (.int (n : Nat)))) (h5 : env[5]? = some (some (.int (b : Nat)))) (h6 : env[6]? = some (some (.int (i : Nat)))) :
    ∃ env', VI.run F k (.seq (.fr (.tloc 7) (.irg1 (.loc 2)) lcBody) .skip) env (SM S M) = .go .nx env' (SM S (rlJ b i M n)) ∧ Eb [7, 8] env env' := by
  have hI := evI_rng (F := F) (k := k) (e := .loc 2) (env := env) (T := SM S M) (m := n) (by simp only [ev, h2]) (by omega)
  obtain ⟨env', S', e, rfl, eb⟩ := forL_inv (j := .rng 0 n) (turn := fun x env S => (asg F k none (.tloc 7) x env S).stm env fun env S => VI.run F k lcBody env S) (fun j e T => T = SM S (rlJ b i M j) ∧ Eb [7, 8] env e) (n := n) (fun j e T hj h => by
    obtain ⟨rfl, eb⟩ := h
    have e7 : Eb [7, 8] e (e.set 7 (some (.int (j : Nat)))) := .set (by simp)
    have el : e.length = 9 := eb.1.trans hl
    obtain ⟨env2, r2, eb2⟩ := lc_body (F := F) (k := k) (S := S) (hw.rlJ hi j) hk hb hi hj (env := e.set 7 (some (.int (j : Nat)))) (by simpa using el) ((eb.trans e7).at_ (by simp) h1) ((eb.trans e7).at_ (by simp) h5) ((eb.trans e7).at_ (by simp) h6) (set_at (by omega))
    exact ⟨_, env2, _, rng_lt _ hj, .inl (asg_loc.trans r2), rfl, (eb.trans e7).trans (eb2.mono (by simp))⟩) (fun e T h => rng_end T) (f := fuelW) (i := 0) (env := env) (S := SM S M) (Nat.zero_le _) (by unfold fuelW; omega) ⟨rfl, .refl⟩
  refine ⟨env', ?_, eb⟩
  rw [seq_go ((fr_eq hI).trans e), skip_go]
theorem lc_I {env : VEnv} (hn : n ≤ 1000) (hw : Wf n M) (hk : k ≤ S.length) (hb : b < n) (hl : env.length = 9) (h1 : env[1]? = some (some (.lst (cels S.length n)))) (h2 : env[2]? = some (some (.int (n : Nat)))) (h5 : env[5]? = some (some (.int (b : Nat)))) :
    ∃ env', VI.run F k (.seq (.fr (.tloc 6) (.irg1 (.loc 2)) (.seq (.fr (.tloc 7) (.irg1 (.loc 2)) lcBody) .skip)) .skip) env (SM S M) = .go .nx env' (SM S (rlI n b M n)) ∧ Eb [6, 7, 8] env env' := by
  have hI := evI_rng (F := F) (k := k) (e := .loc 2) (env := env) (T := SM S M) (m := n) (by simp only [ev, h2]) (by omega)
  obtain ⟨env', S', e, rfl, eb⟩ := forL_inv (j := .rng 0 n) (turn := fun x env S => (asg F k none (.tloc 6) x env S).stm env fun env S => VI.run F k (.seq (.fr (.tloc 7) (.irg1 (.loc 2)) lcBody) .skip) env S) (fun i e T => T = SM S (rlI n b M i) ∧ Eb [6, 7, 8] env e) (n := n) (fun i e T hi h => by
    obtain ⟨rfl, eb⟩ := h
    have e7 : Eb [6, 7, 8] e (e.set 6 (some (.int (i : Nat)))) := .set (by simp)
    have el : e.length = 9 := eb.1.trans hl
    obtain ⟨env2, r2, eb2⟩ := lc_J (F := F) (k := k) (S := S) hn (hw.rlI i (by omega)) hk hb hi (env := e.set 6 (some (.int (i : Nat)))) (by simpa using el) ((eb.trans e7).at_ (by simp) h1) ((eb.trans e7).at_ (by simp) h2) ((eb.trans e7).at_ (by simp) h5) (set_at (by omega))
    exact ⟨_, env2, _, rng_lt _ hi, .inl (asg_loc.trans r2), rfl, (eb.trans e7).trans (eb2.mono (by simp))⟩) (fun e T h => rng_end T) (f := fuelW) (i := 0) (env := env) (S := SM S M) (Nat.zero_le _) (by unfold fuelW; omega) ⟨rfl, .refl⟩
  refine ⟨env', ?_, eb⟩
  rw [seq_go ((fr_eq hI).trans e), skip_go]
theorem lc_B {env : VEnv} (hn : n ≤ 1000) (hw : Wf n M) (hk : k ≤ S.length) (hl : env.length = 9) (h1 : env[1]? = some (some (.lst (cels S.length n)))) (h2 : env[2]? = some (some (.int (n : Nat)))) :
    ∃ env', VI.run F k (.fr (.tloc 5) (.irg1 (.loc 2)) (.seq (.fr (.tloc 6) (.irg1 (.loc 2)) (.seq (.fr (.tloc 7) (.irg1 (.loc 2)) lcBody) .skip)) .skip)) env (SM S M) = .go .nx env' (SM S (rlB n M n)) ∧ Eb [5, 6, 7, 8] env env' := by
  have hI := evI_rng (F := F) (k := k) (e := .loc 2) (env := env) (T := SM S M) (m := n) (by simp only [ev, h2]) (by omega)
  obtain ⟨env', S', e, rfl, eb⟩ := forL_inv (j := .rng 0 n) (turn := fun x env S => (asg F k none (.tloc 5) x env S).stm env fun env S => VI.run F k (.seq (.fr (.tloc 6) (.irg1 (.loc 2)) (.seq (.fr (.tloc 7) (.irg1 (.loc 2)) lcBody) .skip)) .skip) env S) (fun i e T => T = SM S (rlB n M i) ∧ Eb [5, 6, 7, 8] env e) (n := n) (fun i e T hi h => by
    obtain ⟨rfl, eb⟩ := h
    have e7 : Eb [5, 6, 7, 8] e (e.set 5 (some (.int (i : Nat)))) := .set (by simp)
    have el : e.length = 9 := eb.1.trans hl
    obtain ⟨env2, r2, eb2⟩ := lc_I (F := F) (k := k) (S := S) hn (hw.rlB i) hk hi (env := e.set 5 (some (.int (i : Nat)))) (by simpa using el) ((eb.trans e7).at_ (by simp) h1) ((eb.trans e7).at_ (by simp) h2) (set_at (by omega))
    exact ⟨_, env2, _, rng_lt _ hi, .inl (asg_loc.trans r2), rfl, (eb.trans e7).trans (eb2.mono (by simp))⟩) (fun e T h => rng_end T) (f := fuelW) (i := 0) (env := env) (S := SM S M) (Nat.zero_le _) (by unfold fuelW; omega) ⟨rfl, .refl⟩
  exact ⟨env', (fr_eq hI).trans e, eb⟩
theorem lc_D {env : VEnv} (hn : n ≤ 1000) (hw : Wf n M) (hk : k ≤ S.length) (hl : env.length = 9) (h1 : env[1]? = some (some (.lst (cels S.length n)))) (h2 : env[2]? = some (some (.int (n : Nat)))) :
    ∃ env', VI.run F k (.fr (.tloc 4) (.irg1 (.loc 2)) (.seq (.asg (.tsub (.ix (.loc 1) (.loc 4)) (.loc 4)) (.int 0)) .skip)) env (SM S M) = .go .nx env' (SM S (diagTo M n)) ∧ Eb [4] env env' := by
  have hI := evI_rng (F := F) (k := k) (e := .loc 2) (env := env) (T := SM S M) (m := n) (by simp only [ev, h2]) (by omega)
  obtain ⟨env', S', e, rfl, eb⟩ := forL_inv (j := .rng 0 n) (turn := fun x env S => (asg F k none (.tloc 4) x env S).stm env fun env S => VI.run F k (.seq (.asg (.tsub (.ix (.loc 1) (.loc 4)) (.loc 4)) (.int 0)) .skip) env S) (fun i e T => T = SM S (diagTo M i) ∧ Eb [4] env e) (n := n) (fun i e T hi h => by
    obtain ⟨rfl, eb⟩ := h
    have e7 : Eb [4] e (e.set 4 (some (.int (i : Nat)))) := .set (by simp)
    have el : e.length = 9 := eb.1.trans hl
    have g4 : (e.set 4 (some (DD.int (i : Nat))))[4]? = some (some (.int (i : Nat))) := set_at (by omega)
    have b4 := ev_row (F := F) (k := k) (T := SM S (diagTo M i)) ((eb.trans e7).at_ (by simp) h1) g4 hi
    have w := set_cell (k := k) (v := some 0) (hw.diag i (by omega)) hk hi hi
    refine ⟨_, e.set 4 (some (.int (i : Nat))), _, rng_lt _ hi, .inl (asg_loc.trans ?_), rfl, eb.trans e7⟩
    have b6 : ∀ T, ev F k none (.loc 4) (e.set 4 (some (.int (i : Nat)))) T = .ok (.int (i : Nat)) T := fun T => by simp only [ev, g4]
    have tsub : asg F k none (.tsub (.ix (.loc 1) (.loc 4)) (.loc 4)) (.int 0) (e.set 4 (some (.int (i : Nat)))) (SM S (diagTo M i)) = .ok (e.set 4 (some (.int (i : Nat)))) (SM S (st (diagTo M i) i i (some 0))) := by
      have : asg F k none (.tsub (.ix (.loc 1) (.loc 4)) (.loc 4)) (.int 0) (e.set 4 (some (.int (i : Nat)))) (SM S (diagTo M i)) = (ev F k none (.ix (.loc 1) (.loc 4)) (e.set 4 (some (.int (i : Nat)))) (SM S (diagTo M i))).calm.bind fun u S => (ev F k none (.loc 4) (e.set 4 (some (.int (i : Nat)))) S).calm.bind fun v S => (setD k u v (.int 0) S).bind fun _ S => .ok (e.set 4 (some (.int (i : Nat)))) S := by simp only [asg]
      rw [this, b4]
      simp only [cok, bok, b6]
      rw [show DD.int 0 = dL (some 0) from rfl, w]
      rfl
    have e0 : ∀ T, ev F k none (.int 0) (e.set 4 (some (.int (i : Nat)))) T = .ok (.int 0) T := fun T => by simp only [ev]
    have : VI.run F k (.asg (.tsub (.ix (.loc 1) (.loc 4)) (.loc 4)) (.int 0)) (e.set 4 (some (.int (i : Nat)))) (SM S (diagTo M i)) = .go .nx (e.set 4 (some (.int (i : Nat)))) (SM S (diagTo M (i + 1))) := by
      simp only [VI.run, e0, sok, tsub]
      rfl
    rw [seq_go this, skip_go]) (fun e T h => rng_end T) (f := fuelW) (i := 0) (env := env) (S := SM S M) (Nat.zero_le _) (by unfold fuelW; omega) ⟨rfl, .refl⟩
  exact ⟨env', (fr_eq hI).trans e, eb⟩
end
end K36

set_option Elab.async false
set_option linter.all false
set_option maxRecDepth 100000
set_option maxHeartbeats 4000000
namespace K36
open VI PySem L2
/-- the rows of a table, wherever they lie -/
def RowsAt (S : Sto) (ds : List DD) (M : Mat) : Prop := ds.length = M.length ∧ ∀ (i : Nat) (r : List LN), M[i]? = some r → ∃ d, ds[i]? = some d ∧ ∀ T, seqOf (S ++ T) d = some (dRow r)
theorem take_succ' {α : Type} {M : List α} {i : Nat} {r : α} (h : M[i]? = some r) : M.take (i + 1) = M.take i ++ [r] := by
  obtain ⟨hl, rfl⟩ := List.getElem?_eq_some_iff.mp h
  exact List.take_succ_eq_append_getElem hl
theorem SM_snoc {S : Sto} {M : Mat} {i : Nat} {r : List LN} (h : M[i]? = some r) : SM S (M.take i) ++ [dRow r] = SM S (M.take (i + 1)) := by
  unfold SM
  rw [take_succ' h, List.map_append, List.append_assoc]
  rfl
theorem cels_succ {s i : Nat} : cels s (i + 1) = cels s i ++ [.cel (s + i)] := by
  unfold cels
  rw [List.range_succ, List.map_append]
  rfl
theorem SM_nil {S : Sto} : SM S [] = S := by simp [SM]
section
variable {F : FT} {k : Nat} {S : Sto} {M : Mat} {n : Nat}
/-- [list(row) for row in rows] -/
theorem copy_rows {own : List (Str × Nat)} {x v : Nat} {env : VEnv} {rows : DD} {ds : List DD} (hr : ∀ T, seqOf (S ++ T) rows = some ds) (hR : RowsAt S ds M) (hM : M.length ≤ 1000) (hv : v < env.length) (hown : own.map (·.2) = [v]) (h0 : env[x]? = some (some rows)) :
    ev F k none (.lc false own (.tloc v) (.iseq (.loc x)) .nil (.bi .list true (.cons (.loc v) .nil))) env S = .ok (.lst (cels S.length M.length)) (SM S M) := by
  have hr0 : seqOf S rows = some ds := by have := hr []; rwa [List.append_nil] at this
  have hI : evI F k none (.iseq (.loc x)) env S = .ok (.seq rows) S := by
    simp only [evI, ev, h0, bok, hr0]
  have e : ev F k none (.lc false own (.tloc v) (.iseq (.loc x)) .nil (.bi .list true (.cons (.loc v) .nil))) env S = (evI F k none (.iseq (.loc x)) env S).bind fun j S =>
      (compL j (fun x acc S => ((asg F k none (.tloc v) x (wipeE env (own.map (·.2))) S).bind fun env2 S => (evT F k none .nil env2 S).bind fun t S =>
        if t = true then (ev F k none (.bi .list true (.cons (.loc v) .nil)) env2 S).bind fun y S => addL acc y S else .ok acc S).calm) fuelW 0 [] S).bind fun ds S => alloc false ds S := by simp only [ev]
  rw [e, hI]
  simp only [bok]
  obtain ⟨acc, T, h, rfl, rfl⟩ := compL_inv (j := .seq rows) (turn := fun x acc S => ((asg F k none (.tloc v) x (wipeE env (own.map (·.2))) S).bind fun env2 S => (evT F k none .nil env2 S).bind fun t S =>
        if t = true then (ev F k none (.bi .list true (.cons (.loc v) .nil)) env2 S).bind fun y S => addL acc y S else .ok acc S).calm) (fun i acc T => acc = cels S.length i ∧ T = SM S (M.take i)) (n := M.length) (fun i acc T hi h => by
    obtain ⟨rfl, rfl⟩ := h
    have hm : M[i]? = some M[i] := List.getElem?_eq_getElem hi
    obtain ⟨d, hd, hs⟩ := hR.2 i _ hm
    refine ⟨d, cels S.length (i + 1), SM S (M.take (i + 1)), ?_, ?_, rfl, rfl⟩
    · show (seqOf (S ++ _) rows).map (·[i]?) = _
      rw [hr]
      show some ds[i]? = _
      rw [hd]
    · have e2 : (wipeE env (own.map (·.2))).set v (some d) = env.set v (some d) := by
        rw [hown]
        show ((env.set v none).set v (some d)) = _
        rw [List.set_set]
      have g : (env.set v (some d))[v]? = some (some d) := set_at hv
      have hs' : seqOf (SM S (M.take i)) d = some (dRow M[i]) := hs _
      have e3 : ev F k none (.bi .list true (.cons (.loc v) .nil)) (env.set v (some d)) (SM S (M.take i)) = .ok (.cel (S.length + i)) (SM S (M.take (i + 1))) := by
        simp only [ev, evs, g, bok, biD, hs', VI.alloc]
        rw [SM_snoc hm, SM_len, List.length_take, Nat.min_eq_left (by omega)]
      have e4 : asg F k none (.tloc v) d (wipeE env (own.map (·.2))) (SM S (M.take i)) = .ok (env.set v (some d)) (SM S (M.take i)) := by simp only [asg, e2]
      have e5 : ∀ T, evT F k none .nil (env.set v (some d)) T = .ok true T := fun T => by simp only [evT]
      simp only [e4, e5, bok, if_true, e3, addL, cels_len]
      rw [if_pos (by unfold lenMax; omega), cels_succ]
      rfl) (fun acc T h => by
    show (seqOf T rows).map (·[M.length]?) = _
    rw [h.2, show SM S (M.take M.length) = S ++ (M.take M.length).map dRow from rfl, hr]
    show some ds[M.length]? = _
    rw [← hR.1, List.getElem?_eq_none (Nat.le_refl _)]) (f := fuelW) (i := 0) (acc := []) (S := S) (Nat.zero_le _) (by unfold fuelW; omega) ⟨rfl, by simp [SM_nil]⟩
  rw [h]
  simp only [bok, VI.alloc, List.take_length]
/-! ### what is returned -/
theorem snap_dL {k : Nat} {T : Sto} {m : Nat} (v : LN) : snap k T (m + 1) (dL v) = some (dL v) := by cases v <;> rfl
theorem snap_row {k : Nat} {T : Sto} {m : Nat} : ∀ r : List LN, mapO (snap k T (m + 1)) (dRow r) = some (dRow r)
  | [] => rfl
  | v :: r => by
    have := snap_row (k := k) (T := T) (m := m) r
    unfold dRow at this ⊢
    simp only [List.map_cons, mapO, snap_dL, this, Option.map_some]
theorem mapO_of {α β : Type} {f : α → Option β} {g : α → β} : ∀ {l : List α}, (∀ x ∈ l, f x = some (g x)) → mapO f l = some (l.map g)
  | [], _ => rfl
  | a :: l, h => by
    have := mapO_of (f := f) (g := g) (l := l) fun x hx => h x (List.mem_cons_of_mem _ hx)
    simp only [mapO, h a List.mem_cons_self, this, Option.map_some, List.map_cons]
def dLM (M : Mat) : DD := .lst (M.map fun r => .lst (dRow r))
def dTM (M : Mat) : DD := .tup (M.map fun r => .tup (dRow r))
theorem map_rows {β : Type} {M : Mat} {n : Nat} {g : List LN → β} (hw : Wf n M) : (List.range n).map (fun i => g (M.getD i [])) = M.map g := by
  refine List.ext_getElem? fun i => ?_
  rw [List.getElem?_map, List.getElem?_map]
  by_cases h : i < n
  · have : i < M.length := by rw [hw.1]; exact h
    rw [List.getElem?_range h, List.getElem?_eq_getElem this]
    show some (g (M.getD i [])) = some (g M[i])
    rw [List.getD_eq_getElem?_getD, List.getElem?_eq_getElem this]
    rfl
  · rw [List.getElem?_eq_none (by simpa using h), List.getElem?_eq_none (by rw [hw.1]; omega)]
    rfl
theorem snap_cels (hw : Wf n M) : snap S.length (SM S M) depthMax (.lst (cels S.length n)) = some (dLM M) := by
  show (mapO (snap S.length (SM S M) 23) (cels S.length n)).map DD.lst = _
  unfold cels
  have : mapO (snap S.length (SM S M) 23) ((List.range n).map fun i => DD.cel (S.length + i)) = some ((List.range n).map fun i => DD.lst (dRow (M.getD i []))) := by
    rw [show ((List.range n).map fun i => DD.lst (dRow (M.getD i []))) = ((List.range n).map fun i => DD.cel (S.length + i)).map (fun d => match d with | .cel c => DD.lst (dRow (M.getD (c - S.length) [])) | d => d) by
      rw [List.map_map]; refine List.map_congr_left fun i _ => ?_; simp]
    refine mapO_of fun x hx => ?_
    obtain ⟨i, hi, rfl⟩ := List.mem_map.mp hx
    have hr := SM_row (S := S) hw (List.mem_range.mp hi)
    show (if S.length + i < S.length then some (DD.cel (S.length + i)) else match (SM S M)[S.length + i]? with
      | some xs => (mapO (snap S.length (SM S M) 22) xs).map .lst
      | none => none) = _
    rw [if_neg (by omega), hr]
    show (mapO (snap S.length (SM S M) 22) (dRow (M.getD i []))).map DD.lst = _
    rw [snap_row]
    simp
  rw [this, map_rows (g := fun r => DD.lst (dRow r)) hw]
  rfl
theorem f_law_closed {f : Nat} (hf : 1 ≤ f) {rows : DD} {ds : List DD} (hr : ∀ T, seqOf (S ++ T) rows = some ds) (hlen : ∀ T, biD .len false [rows] (S ++ T) = .ok (.int (ds.length : Nat)) (S ++ T)) (hR : RowsAt S ds M) (hn : n ≤ 1000) (hw : Wf n M) :
    callF G f 26 [rows] S = .ok (dLM (fw n M)) S := by
  obtain ⟨m, rfl⟩ : ∃ m, f = m + 1 := ⟨f - 1, by omega⟩
  rw [callF_eq (D := ⟨1, 9, b_law_closed, false⟩) rfl rfl]
  show endOf _ S.length (VI.run (callF G m) S.length b_law_closed [some rows, none, none, none, none, none, none, none, none] S) = _
  have hML : M.length = n := hw.1
  have c := copy_rows (F := callF G m) (k := S.length) (own := [("row", 3)]) (x := 0) (v := 3) (env := [some rows, none, none, none, none, none, none, none, none]) hr hR (by omega) (by simp) rfl rfl
  rw [hML] at c
  have hlen' := hlen (M.map dRow)
  rw [hR.1, hML] at hlen'
  have pr : VI.run (callF G m) S.length (.par (.cons (.tloc 1) (.cons (.tloc 2) .nil)) (.cons (.lc false [("row", 3)] (.tloc 3) (.iseq (.loc 0)) .nil (.bi .list true (.cons (.loc 3) .nil))) (.cons (.bi .len false (.cons (.loc 0) .nil)) .nil))) [some rows, none, none, none, none, none, none, none, none] S =
      .go .nx [some rows, some (.lst (cels S.length n)), some (.int (n : Nat)), none, none, none, none, none, none] (SM S M) := by
    have l : ev (callF G m) S.length none (.bi .len false (.cons (.loc 0) .nil)) [some rows, none, none, none, none, none, none, none, none] (SM S M) = .ok (.int (n : Nat)) (SM S M) := by
      simp only [ev, evs, List.getElem?_cons_zero, bok]
      exact hlen'
    simp only [VI.run, evs, c, l, bok, sok, asgs, asg, List.set_cons_succ, List.set_cons_zero]
  obtain ⟨env1, d1, eb1⟩ := lc_D (F := callF G m) (k := S.length) (S := S) hn hw (Nat.le_refl _) (env := [some rows, some (.lst (cels S.length n)), some (.int (n : Nat)), none, none, none, none, none, none]) rfl rfl rfl
  obtain ⟨env2, d2, eb2⟩ := lc_B (F := callF G m) (k := S.length) (S := S) hn (hw.diag n (Nat.le_refl _)) (Nat.le_refl _) (env := env1) (eb1.1.trans rfl) (eb1.at_ (by simp) rfl) (eb1.at_ (by simp) rfl)
  have hv : ev (callF G m) S.length none (.loc 1) env2 (SM S (fw n M)) = .ok (.lst (cels S.length n)) (SM S (fw n M)) := by
    have : env2[1]? = some (some (.lst (cels S.length n))) := eb2.at_ (by simp) (eb1.at_ (by simp) rfl)
    simp only [ev, this]
  have tot : VI.run (callF G m) S.length b_law_closed [some rows, none, none, none, none, none, none, none, none] S = .go (.rt (.lst (cels S.length n))) env2 (SM S (fw n M)) := by
    unfold b_law_closed
    rw [seq_go pr, seq_go d1]
    have d2' := d2
    unfold lcBody at d2'
    rw [seq_go d2']
    exact ret_go hv
  rw [tot]
  show finD false S.length (.lst (cels S.length n)) (SM S (fw n M)) .ok = _
  unfold finD
  rw [snap_cels hw.fw]
  simp [SM]
end
end K36

set_option Elab.async false
set_option linter.all false
set_option maxRecDepth 100000
set_option maxHeartbeats 4000000
namespace K36
open VI PySem L2
section
variable {F : FT} {k : Nat} {S : Sto} {M : Mat} {n b i j : Nat}
def crBody : VS := (.seq (.ite (.andv (.cmp .isn (.ix (.loc 2) (.loc 4)) .non) (.andv (.cmp .isn (.loc 6) .non) (.orv (.cmp .iss (.ix (.loc 2) (.loc 5)) .non) (.cmp .lt (.bin .add false (.ix (.loc 2) (.loc 4)) (.loc 6)) (.ix (.loc 2) (.loc 5)))))) (.seq (.asg (.tsub (.loc 2) (.loc 5)) (.bin .add false (.ix (.loc 2) (.loc 4)) (.loc 6))) .skip) .skip) .skip)
theorem ev_loc {x : Nat} {d : DD} {env : VEnv} {T : Sto} (h : env[x]? = some (some d)) : ev F k none (.loc x) env T = .ok d T := by simp only [ev, h]
theorem ev_non {env : VEnv} {T : Sto} : ev F k none .non env T = .ok .non T := by simp only [ev]
theorem ev_int {i : Int} {env : VEnv} {T : Sto} : ev F k none (.int i) env T = .ok (.int i) T := by simp only [ev]
theorem cr_body {env : VEnv} (hw : Wf n M) (hk : k ≤ S.length) (hb : b < n) (hi : i < n) (hj : j < n) (h2 : env[2]? = some (some (.cel (S.length + i)))) (h4 : env[4]? = some (some (.int (b : Nat)))) (h5 : env[5]? = some (some (.int (j : Nat)))) (h6 : env[6]? = some (some (dL (gt M b j)))) :
    VI.run F k crBody env (SM S M) = .go .nx env (SM S (relax b i j M)) := by
  have a1 := ev_cell (F := F) (k := k) (S := S) hw h2 h4 hi hb
  have a2 := ev_cell (F := F) (k := k) (S := S) hw h2 h5 hi hj
  have a6 := fun T => ev_loc (F := F) (k := k) (T := T) h6
  have l2 := fun T => ev_loc (F := F) (k := k) (T := T) h2
  have l5 := fun T => ev_loc (F := F) (k := k) (T := T) h5
  unfold crBody relax
  cases q1 : gt M i b with
  | none =>
    rw [q1] at a1
    simp [VI.run, evT, a1, ev_non, bok, isn_dL, of_bl', sok, gnx]
  | some x =>
    rw [q1] at a1
    cases q2 : gt M b j with
    | none =>
      rw [q2] at a6
      simp [VI.run, evT, a1, a6, ev_non, bok, isn_dL, of_bl', sok, gnx]
    | some y =>
      rw [q2] at a6
      have w := set_cell (k := k) (v := some (x + y)) hw hk hi hj
      have bin1 : ev F k none (.bin .add false (.ix (.loc 2) (.loc 4)) (.loc 6)) env (SM S M) = .ok (.int (x + y)) (SM S M) := by
        have : ev F k none (.bin .add false (.ix (.loc 2) (.loc 4)) (.loc 6)) env (SM S M) = (ev F k none (.ix (.loc 2) (.loc 4)) env (SM S M)).bind fun x S => (ev F k none (.loc 6) env S).bind fun y S => binD .add false x y S := by simp only [ev]
        rw [this, a1]
        simp only [bok, a6]
        rfl
      have tsub : asg F k none (.tsub (.loc 2) (.loc 5)) (.int (x + y)) env (SM S M) = .ok env (SM S (st M i j (some (x + y)))) := by
        have : asg F k none (.tsub (.loc 2) (.loc 5)) (.int (x + y)) env (SM S M) = (ev F k none (.loc 2) env (SM S M)).calm.bind fun u S => (ev F k none (.loc 5) env S).calm.bind fun v S => (setD k u v (.int (x + y)) S).bind fun _ S => .ok env S := by simp only [asg]
        rw [this, l2]
        simp only [cok, bok, l5]
        rw [show DD.int (x + y) = dL (some (x + y)) from rfl, w]
        rfl
      cases q3 : gt M i j with
      | none =>
        rw [q3] at a2
        simp [VI.run, evT, a1, a2, a6, ev_non, bok, isn_dL, iss_dL, of_bl', sok, gnx, bin1, tsub]
      | some z =>
        rw [q3] at a2
        by_cases hz : x + y < z
        · have c1 : cmpD .lt (.int (x + y)) (dL (some z)) (SM S M) = .ok (.bl true) (SM S M) := by simp [cmpD, dL, hz]
          simp [VI.run, evT, a1, a2, a6, ev_non, bok, isn_dL, iss_dL, of_bl', sok, gnx, bin1, tsub, c1, hz]
        · have c1 : cmpD .lt (.int (x + y)) (dL (some z)) (SM S M) = .ok (.bl false) (SM S M) := by simp [cmpD, dL, hz]
          simp [VI.run, evT, a1, a2, a6, ev_non, bok, isn_dL, iss_dL, of_bl', sok, gnx, bin1, c1, hz]
/-- two names are stored from a pair -/
theorem asg_pair {x y : Nat} {d e : DD} {env : VEnv} {T : Sto} {body : VS} : (asg F k none (.ttup (.cons (.tloc x) (.cons (.tloc y) .nil))) (.tup [d, e]) env T).stm env (fun env S => VI.run F k body env S) = VI.run F k body ((env.set x (some d)).set y (some e)) T := by simp only [asg, asgs, seqOf, bok, sok]
theorem cr_J {env : VEnv} (hn : n ≤ 1000) (hw : Wf n M) (hk : k ≤ S.length) (hb : b < n) (hi : i < n) (hl : env.length = 7) (h1 : env[1]? = some (some (.lst (cels S.length n)))) (h2 : env[2]? = some (some (.cel (S.length + i)))) (h4 : env[4]? = some (some (.int (b : Nat)))) :
    ∃ env', VI.run F k (.seq (.fr (.ttup (.cons (.tloc 5) (.cons (.tloc 6) .nil))) (.ienm (.ix (.loc 1) (.loc 4))) crBody) .skip) env (SM S M) = .go .nx env' (SM S (rlJ b i M n)) ∧ Eb [5, 6] env env' := by
  have hr0 := SM_row (S := S) hw hb
  have hI : evI F k none (.ienm (.ix (.loc 1) (.loc 4))) env (SM S M) = .ok (.enm (.cel (S.length + b))) (SM S M) := by
    simp only [evI, ev_row h1 h4 hb, bok, lstOf, hr0]
  have at_ : ∀ (j : Nat) (T : Sto), T = SM S (rlJ b i M j) → (It2.enm (.cel (S.length + b))).at_ j T = some (((dRow ((rlJ b i M j).getD b []))[j]?).map fun d => .tup [.int (j : Nat), d]) := fun j T hT => by
    subst hT
    show ((SM S (rlJ b i M j))[S.length + b]?).map _ = _
    rw [SM_row (hw.rlJ hi j) hb]
    rfl
  obtain ⟨env', S', e, rfl, eb⟩ := forL_inv (j := .enm (.cel (S.length + b))) (turn := fun x env S => (asg F k none (.ttup (.cons (.tloc 5) (.cons (.tloc 6) .nil))) x env S).stm env fun env S => VI.run F k crBody env S) (fun j e T => T = SM S (rlJ b i M j) ∧ Eb [5, 6] env e) (n := n) (fun j e T hj h => by
    obtain ⟨rfl, eb⟩ := h
    have hwj := hw.rlJ (b := b) hi j
    have el : e.length = 7 := eb.1.trans hl
    have e7 : Eb [5, 6] e ((e.set 5 (some (.int (j : Nat)))).set 6 (some (dL (gt (rlJ b i M j) b j)))) := (Eb.set (by simp)).trans (.set (by simp))
    have g5 : ((e.set 5 (some (DD.int (j : Nat)))).set 6 (some (dL (gt (rlJ b i M j) b j))))[5]? = some (some (.int (j : Nat))) := by
      rw [List.getElem?_set_ne (by omega)]; exact set_at (by omega)
    have r2 := cr_body (F := F) (k := k) (S := S) hwj hk hb hi hj (env := (e.set 5 (some (.int (j : Nat)))).set 6 (some (dL (gt (rlJ b i M j) b j)))) ((eb.trans e7).at_ (by simp) h2) ((eb.trans e7).at_ (by simp) h4) g5 (set_at (by simp; omega))
    refine ⟨.tup [.int (j : Nat), dL (gt (rlJ b i M j) b j)], _, _, ?_, .inl (asg_pair.trans r2), rfl, eb.trans e7⟩
    rw [at_ j _ rfl, dRow_at (by rw [hwj.row hb]; exact hj)]
    rfl) (fun e T h => by
    rw [at_ n T h.1, List.getElem?_eq_none (by rw [dRow, List.length_map, (hw.rlJ hi n).row hb]; exact Nat.le_refl _)]
    rfl) (f := fuelW) (i := 0) (env := env) (S := SM S M) (Nat.zero_le _) (by unfold fuelW; omega) ⟨rfl, .refl⟩
  refine ⟨env', ?_, eb⟩
  rw [seq_go ((fr_eq hI).trans e), skip_go]
theorem seq_at {xs : List DD} {T : Sto} {i : Nat} : (It2.seq (.lst xs)).at_ i T = some xs[i]? := rfl
theorem cr_I {env : VEnv} (hn : n ≤ 1000) (hw : Wf n M) (hk : k ≤ S.length) (hb : b < n) (hl : env.length = 7) (h1 : env[1]? = some (some (.lst (cels S.length n)))) (h4 : env[4]? = some (some (.int (b : Nat)))) :
    ∃ env', VI.run F k (.seq (.fr (.tloc 2) (.iseq (.loc 1)) (.seq (.fr (.ttup (.cons (.tloc 5) (.cons (.tloc 6) .nil))) (.ienm (.ix (.loc 1) (.loc 4))) crBody) .skip)) .skip) env (SM S M) = .go .nx env' (SM S (rlI n b M n)) ∧ Eb [2, 5, 6] env env' := by
  have hI : evI F k none (.iseq (.loc 1)) env (SM S M) = .ok (.seq (.lst (cels S.length n))) (SM S M) := by simp only [evI, ev_loc h1, bok, seqOf]
  obtain ⟨env', S', e, rfl, eb⟩ := forL_inv (j := .seq (.lst (cels S.length n))) (turn := fun x env S => (asg F k none (.tloc 2) x env S).stm env fun env S => VI.run F k (.seq (.fr (.ttup (.cons (.tloc 5) (.cons (.tloc 6) .nil))) (.ienm (.ix (.loc 1) (.loc 4))) crBody) .skip) env S) (fun i e T => T = SM S (rlI n b M i) ∧ Eb [2, 5, 6] env e) (n := n) (fun i e T hi h => by
    obtain ⟨rfl, eb⟩ := h
    have e7 : Eb [2, 5, 6] e (e.set 2 (some (.cel (S.length + i)))) := .set (by simp)
    have el : e.length = 7 := eb.1.trans hl
    obtain ⟨env2, r2, eb2⟩ := cr_J (F := F) (k := k) (S := S) hn (hw.rlI i (by omega)) hk hb hi (env := e.set 2 (some (.cel (S.length + i)))) (by simpa using el) ((eb.trans e7).at_ (by simp) h1) (set_at (by omega)) ((eb.trans e7).at_ (by simp) h4)
    exact ⟨.cel (S.length + i), env2, _, by rw [seq_at, cels_at hi], .inl (asg_loc.trans r2), rfl, (eb.trans e7).trans (eb2.mono (by simp))⟩) (fun e T h => by rw [seq_at, List.getElem?_eq_none (by rw [cels_len]; exact Nat.le_refl _)]) (f := fuelW) (i := 0) (env := env) (S := SM S M) (Nat.zero_le _) (by unfold fuelW; omega) ⟨rfl, .refl⟩
  refine ⟨env', ?_, eb⟩
  rw [seq_go ((fr_eq hI).trans e), skip_go]
theorem cr_B {env : VEnv} (hn : n ≤ 1000) (hw : Wf n M) (hk : k ≤ S.length) (hl : env.length = 7) (h1 : env[1]? = some (some (.lst (cels S.length n)))) :
    ∃ env', VI.run F k (.fr (.tloc 4) (.irg1 (.bi .len false (.cons (.loc 1) .nil))) (.seq (.fr (.tloc 2) (.iseq (.loc 1)) (.seq (.fr (.ttup (.cons (.tloc 5) (.cons (.tloc 6) .nil))) (.ienm (.ix (.loc 1) (.loc 4))) crBody) .skip)) .skip)) env (SM S M) = .go .nx env' (SM S (rlB n M n)) ∧ Eb [2, 4, 5, 6] env env' := by
  have hI := evI_rng (F := F) (k := k) (e := .bi .len false (.cons (.loc 1) .nil)) (env := env) (T := SM S M) (m := n) (by simp only [ev, evs, h1, bok, biD, seqOf, cels_len]) (by omega)
  obtain ⟨env', S', e, rfl, eb⟩ := forL_inv (j := .rng 0 n) (turn := fun x env S => (asg F k none (.tloc 4) x env S).stm env fun env S => VI.run F k (.seq (.fr (.tloc 2) (.iseq (.loc 1)) (.seq (.fr (.ttup (.cons (.tloc 5) (.cons (.tloc 6) .nil))) (.ienm (.ix (.loc 1) (.loc 4))) crBody) .skip)) .skip) env S) (fun i e T => T = SM S (rlB n M i) ∧ Eb [2, 4, 5, 6] env e) (n := n) (fun i e T hi h => by
    obtain ⟨rfl, eb⟩ := h
    have e7 : Eb [2, 4, 5, 6] e (e.set 4 (some (.int (i : Nat)))) := .set (by simp)
    have el : e.length = 7 := eb.1.trans hl
    obtain ⟨env2, r2, eb2⟩ := cr_I (F := F) (k := k) (S := S) hn (hw.rlB i) hk hi (env := e.set 4 (some (.int (i : Nat)))) (by simpa using el) ((eb.trans e7).at_ (by simp) h1) (set_at (by omega))
    exact ⟨_, env2, _, rng_lt _ hi, .inl (asg_loc.trans r2), rfl, (eb.trans e7).trans (eb2.mono (by simp))⟩) (fun e T h => rng_end T) (f := fuelW) (i := 0) (env := env) (S := SM S M) (Nat.zero_le _) (by unfold fuelW; omega) ⟨rfl, .refl⟩
  exact ⟨env', (fr_eq hI).trans e, eb⟩
theorem cr_D {env : VEnv} (hn : n ≤ 1000) (hw : Wf n M) (hk : k ≤ S.length) (hl : env.length = 7) (h1 : env[1]? = some (some (.lst (cels S.length n)))) :
    ∃ env', VI.run F k (.fr (.ttup (.cons (.tloc 3) (.cons (.tloc 2) .nil))) (.ienm (.loc 1)) (.seq (.asg (.tsub (.loc 2) (.loc 3)) (.int 0)) .skip)) env (SM S M) = .go .nx env' (SM S (diagTo M n)) ∧ Eb [2, 3] env env' := by
  have hI : evI F k none (.ienm (.loc 1)) env (SM S M) = .ok (.enm (.lst (cels S.length n))) (SM S M) := by simp only [evI, ev_loc h1, bok, lstOf]
  obtain ⟨env', S', e, rfl, eb⟩ := forL_inv (j := .enm (.lst (cels S.length n))) (turn := fun x env S => (asg F k none (.ttup (.cons (.tloc 3) (.cons (.tloc 2) .nil))) x env S).stm env fun env S => VI.run F k (.seq (.asg (.tsub (.loc 2) (.loc 3)) (.int 0)) .skip) env S) (fun i e T => T = SM S (diagTo M i) ∧ Eb [2, 3] env e) (n := n) (fun i e T hi h => by
    obtain ⟨rfl, eb⟩ := h
    have e7 : Eb [2, 3] e ((e.set 3 (some (.int (i : Nat)))).set 2 (some (.cel (S.length + i)))) := (Eb.set (by simp)).trans (.set (by simp))
    have el : e.length = 7 := eb.1.trans hl
    have g3 : ((e.set 3 (some (DD.int (i : Nat)))).set 2 (some (.cel (S.length + i))))[3]? = some (some (.int (i : Nat))) := by
      rw [List.getElem?_set_ne (by omega)]; exact set_at (by omega)
    have g2 : ((e.set 3 (some (DD.int (i : Nat)))).set 2 (some (.cel (S.length + i))))[2]? = some (some (.cel (S.length + i))) := set_at (by simp; omega)
    have w := set_cell (k := k) (v := some 0) (hw.diag i (by omega)) hk hi hi
    refine ⟨.tup [.int (i : Nat), .cel (S.length + i)], _, SM S (diagTo M (i + 1)), ?_, .inl (asg_pair.trans ?_), rfl, eb.trans e7⟩
    · show some (((cels S.length n)[i]?).map fun d => DD.tup [.int (i : Nat), d]) = _
      rw [cels_at hi]
      rfl
    · generalize hE : ((e.set 3 (some (DD.int (i : Nat)))).set 2 (some (.cel (S.length + i)))) = E at g2 g3
      have tsub : asg F k none (.tsub (.loc 2) (.loc 3)) (.int 0) E (SM S (diagTo M i)) = .ok E (SM S (st (diagTo M i) i i (some 0))) := by
        have : asg F k none (.tsub (.loc 2) (.loc 3)) (.int 0) E (SM S (diagTo M i)) = (ev F k none (.loc 2) E (SM S (diagTo M i))).calm.bind fun u S => (ev F k none (.loc 3) E S).calm.bind fun v S => (setD k u v (.int 0) S).bind fun _ S => .ok E S := by simp only [asg]
        rw [this, ev_loc g2]
        simp only [cok, bok, ev_loc g3]
        rw [show DD.int 0 = dL (some 0) from rfl, w]
        rfl
      have : VI.run F k (.asg (.tsub (.loc 2) (.loc 3)) (.int 0)) E (SM S (diagTo M i)) = .go .nx E (SM S (diagTo M (i + 1))) := by
        simp only [VI.run, ev_int, sok, tsub]
        rfl
      rw [seq_go this, skip_go]) (fun e T h => by
    show some (((cels S.length n)[n]?).map fun d => DD.tup [.int (n : Nat), d]) = _
    rw [List.getElem?_eq_none (by rw [cels_len]; exact Nat.le_refl _)]
    rfl) (f := fuelW) (i := 0) (env := env) (S := SM S M) (Nat.zero_le _) (by unfold fuelW; omega) ⟨rfl, .refl⟩
  exact ⟨env', (fr_eq hI).trans e, eb⟩
theorem flat_TM : Flat (dTM M) := fun k T => by
  show (mapO (snap k T 23) (M.map fun r => DD.tup (dRow r))).map DD.tup = _
  have : mapO (snap k T 23) (M.map fun r => DD.tup (dRow r)) = some ((M.map fun r => DD.tup (dRow r)).map id) := mapO_of fun x hx => by
    obtain ⟨r, _, rfl⟩ := List.mem_map.mp hx
    show (mapO (snap k T 22) (dRow r)).map DD.tup = _
    rw [snap_row]
    rfl
  rw [this, List.map_id]
  rfl
theorem f_closed_rows {f : Nat} (hf : 1 ≤ f) {rows : DD} {ds : List DD} (hr : ∀ T, seqOf (S ++ T) rows = some ds) (hR : RowsAt S ds M) (hn : n ≤ 1000) (hw : Wf n M) :
    callF G f 8 [rows] S = .ok (dTM (fw n M)) S := by
  obtain ⟨m, rfl⟩ : ∃ m, f = m + 1 := ⟨f - 1, by omega⟩
  rw [callF_eq (D := ⟨1, 7, b_closed_rows, false⟩) rfl rfl]
  show endOf _ S.length (VI.run (callF G m) S.length b_closed_rows [some rows, none, none, none, none, none, none] S) = _
  have hML : M.length = n := hw.1
  have c := copy_rows (F := callF G m) (k := S.length) (own := [("row", 2)]) (x := 0) (v := 2) (env := [some rows, none, none, none, none, none, none]) hr hR (by omega) (by simp) rfl rfl
  rw [hML] at c
  have pr : VI.run (callF G m) S.length (.asg (.tloc 1) (.lc false [("row", 2)] (.tloc 2) (.iseq (.loc 0)) .nil (.bi .list true (.cons (.loc 2) .nil)))) [some rows, none, none, none, none, none, none] S = .go .nx [some rows, some (.lst (cels S.length n)), none, none, none, none, none] (SM S M) := by
    simp only [VI.run, c, sok, asg, List.set_cons_succ, List.set_cons_zero]
  obtain ⟨env1, d1, eb1⟩ := cr_D (F := callF G m) (k := S.length) (S := S) hn hw (Nat.le_refl _) (env := [some rows, some (.lst (cels S.length n)), none, none, none, none, none]) rfl rfl
  obtain ⟨env2, d2, eb2⟩ := cr_B (F := callF G m) (k := S.length) (S := S) hn (hw.diag n (Nat.le_refl _)) (Nat.le_refl _) (env := env1) (eb1.1.trans rfl) (eb1.at_ (by simp) rfl)
  have hl2 : env2.length = 7 := eb2.1.trans (eb1.1.trans rfl)
  have h1 : env2[1]? = some (some (.lst (cels S.length n))) := eb2.at_ (by simp) (eb1.at_ (by simp) rfl)
  have hfw : Wf n (fw n M) := hw.fw
  have lc : ev (callF G m) S.length none (.lc false [("row", 2)] (.tloc 2) (.iseq (.loc 1)) .nil (.bi .tuple false (.cons (.loc 2) .nil))) env2 (SM S (fw n M)) = .ok (.lst ((fw n M).map fun r => .tup (dRow r))) (SM S (fw n M)) := by
    have hI : evI (callF G m) S.length none (.iseq (.loc 1)) env2 (SM S (fw n M)) = .ok (.seq (.lst (cels S.length n))) (SM S (fw n M)) := by simp only [evI, ev_loc h1, bok, seqOf]
    have e : ev (callF G m) S.length none (.lc false [("row", 2)] (.tloc 2) (.iseq (.loc 1)) .nil (.bi .tuple false (.cons (.loc 2) .nil))) env2 (SM S (fw n M)) = (evI (callF G m) S.length none (.iseq (.loc 1)) env2 (SM S (fw n M))).bind fun j S' =>
      (compL j (fun x acc S' => ((asg (callF G m) S.length none (.tloc 2) x (wipeE env2 [2]) S').bind fun env2 S' => (evT (callF G m) S.length none .nil env2 S').bind fun t S' =>
        if t = true then (ev (callF G m) S.length none (.bi .tuple false (.cons (.loc 2) .nil)) env2 S').bind fun y S' => addL acc y S' else .ok acc S').calm) fuelW 0 [] S').bind fun ds S' => VI.alloc false ds S' := by
      simp only [ev]
      rfl
    rw [e, hI]
    simp only [bok]
    obtain ⟨acc, T, h, rfl, rfl⟩ := compL_inv (j := .seq (.lst (cels S.length n))) (turn := fun x acc S' => ((asg (callF G m) S.length none (.tloc 2) x (wipeE env2 [2]) S').bind fun env2 S' => (evT (callF G m) S.length none .nil env2 S').bind fun t S' =>
        if t = true then (ev (callF G m) S.length none (.bi .tuple false (.cons (.loc 2) .nil)) env2 S').bind fun y S' => addL acc y S' else .ok acc S').calm) (fun i acc T => acc = (List.range i).map (fun i => DD.tup (dRow ((fw n M).getD i []))) ∧ T = SM S (fw n M)) (n := n) (fun i acc T hi h => by
      obtain ⟨rfl, rfl⟩ := h
      refine ⟨.cel (S.length + i), (List.range (i + 1)).map (fun i => DD.tup (dRow ((fw n M).getD i []))), SM S (fw n M), by rw [seq_at, cels_at hi], ?_, rfl, rfl⟩
      have g : (env2.set 2 (some (DD.cel (S.length + i))))[2]? = some (some (.cel (S.length + i))) := set_at (by omega)
      have e4 : asg (callF G m) S.length none (.tloc 2) (.cel (S.length + i)) (wipeE env2 [2]) (SM S (fw n M)) = .ok (env2.set 2 (some (.cel (S.length + i)))) (SM S (fw n M)) := by
        simp only [asg, wipeE, List.set_set]
      have e3 : ev (callF G m) S.length none (.bi .tuple false (.cons (.loc 2) .nil)) (env2.set 2 (some (.cel (S.length + i)))) (SM S (fw n M)) = .ok (.tup (dRow ((fw n M).getD i []))) (SM S (fw n M)) := by
        simp only [ev, evs, g, bok, biD, seqOf, SM_row hfw hi]
      have e5 : ∀ T, evT (callF G m) S.length none .nil (env2.set 2 (some (.cel (S.length + i)))) T = .ok true T := fun T => by simp only [evT]
      simp only [e4, e5, bok, if_true, e3, addL, List.length_map, List.length_range]
      rw [if_pos (by unfold lenMax; omega), List.range_succ, List.map_append]
      rfl) (fun acc T h => by rw [seq_at, List.getElem?_eq_none (by rw [cels_len]; exact Nat.le_refl _)]) (f := fuelW) (i := 0) (acc := []) (S := SM S (fw n M)) (Nat.zero_le _) (by unfold fuelW; omega) ⟨rfl, rfl⟩
    rw [h, map_rows (g := fun r => DD.tup (dRow r)) hfw]
    rfl
  have hv : ev (callF G m) S.length none (.bi .tuple false (.cons (.lc false [("row", 2)] (.tloc 2) (.iseq (.loc 1)) .nil (.bi .tuple false (.cons (.loc 2) .nil))) .nil)) env2 (SM S (fw n M)) = .ok (dTM (fw n M)) (SM S (fw n M)) := by
    have e : ∀ ve : VE, ev (callF G m) S.length none (.bi .tuple false (.cons ve .nil)) env2 (SM S (fw n M)) = (ev (callF G m) S.length none ve env2 (SM S (fw n M))).bind fun x S => biD .tuple false [x] S := fun ve => by
      simp only [ev, evs, bind_bind, bok]
    rw [e, lc]
    rfl
  have tot : VI.run (callF G m) S.length b_closed_rows [some rows, none, none, none, none, none, none] S = .go (.rt (dTM (fw n M))) env2 (SM S (fw n M)) := by
    unfold b_closed_rows
    rw [seq_go pr, seq_go d1]
    have d2' := d2
    unfold crBody at d2'
    rw [seq_go d2']
    exact ret_go hv
  rw [tot]
  exact end_rt rfl flat_TM (take_app S _)
end
end K36

set_option Elab.async false
set_option linter.all false
set_option maxRecDepth 100000
set_option maxHeartbeats 4000000
namespace K36
open VI PySem L2
abbrev An := Nat × Nat × LN
def dA (a : An) : DD := .tup [.int (a.1 : Nat), .int (a.2.1 : Nat), dL a.2.2]
/-- the answers at d, whatever more cells there are -/
def ValAt (S : Sto) (d : DD) (as : List An) : Prop := ∀ T, seqOf (S ++ T) d = some (as.map dA)
theorem ValAt.now {S : Sto} {d : DD} {as : List An} (h : ValAt S d as) : seqOf S d = some (as.map dA) := by have := h []; rwa [List.append_nil] at this
theorem ValAt.more {S T : Sto} {d : DD} {as : List An} (h : ValAt S d as) : ValAt (S ++ T) d as := fun U => by rw [List.append_assoc]; exact h _
theorem val_lst {S : Sto} {as : List An} : ValAt S (.lst (as.map dA)) as := fun _ => rfl
theorem val_tup {S : Sto} {as : List An} : ValAt S (.tup (as.map dA)) as := fun _ => rfl
theorem val_cel {S : Sto} {n : Nat} {as : List An} (h : S[n]? = some (as.map dA)) : ValAt S (.cel n) as := fun T => by
  show (S ++ T)[n]? = _
  rw [List.getElem?_append_left (List.getElem?_eq_some_iff.mp h).1]
  exact h
def okL (l : LN) : Prop := ∀ x, l = some x → 0 ≤ x
def OkA (p : Nat) (a : An) : Prop := a.1 < p ∧ a.2.1 < p ∧ a.1 ≠ a.2.1 ∧ okL a.2.2
structure VA (p : Nat) (as : List An) : Prop where
  ok : ∀ a ∈ as, OkA p a
  nd : (as.map fun a => (a.1, a.2.1)).Nodup
  len : as.length ≤ 1000
theorem eq_int (S : Sto) (a b : Int) : cmpD .eq (.int a) (.int b) S = .ok (.bl (a == b)) S := rfl
theorem ne_int (S : Sto) (a b : Int) : cmpD .ne (.int a) (.int b) S = .ok (.bl (!(a == b))) S := rfl
theorem eq_dL (S : Sto) (a b : LN) : cmpD .eq (dL a) (dL b) S = .ok (.bl (decide (a = b))) S := by
  cases a <;> cases b <;> first | rfl | skip
  rename_i x y
  show R.ok (DD.bl (x == y)) S = _
  congr 2
  by_cases h : x = y <;> simp [h]
section
variable {S : Sto} {f p : Nat} {as : List An} {d : DD}
theorem f_is_length (hf : 3 ≤ f) (l : LN) (hl : okL l) : callF G f 9 [dL l] S = .ok (.bl true) S := by
  obtain ⟨m, rfl⟩ : ∃ m, f = m + 1 := ⟨f - 1, by omega⟩
  rw [callF_eq (D := ⟨1, 1, b_is_length, false⟩) rfl rfl]
  have : VI.run (callF G m) S.length b_is_length [some (dL l)] S = .go (.rt (.bl true)) [some (dL l)] S := by
    cases l with
    | none => simp [b_is_length, VI.run, ev, evs, bok, sok, grt, of_bl', dL, cmpD]
    | some x =>
      have := hl x rfl
      simp [b_is_length, VI.run, ev, evs, bok, sok, grt, of_bl', dL, cmpD, f_is_count (show 2 ≤ m by omega), this]
  exact (congrArg _ this).trans (end_rt rfl (Flat.bl _) (take_self S))
theorem f_is_tuple (hf : 1 ≤ f) (xs : List DD) (k : Nat) : callF G f 5 [.tup xs, .int (k : Nat)] S = .ok (.bl (decide (xs.length = k))) S := by
  obtain ⟨m, rfl⟩ : ∃ m, f = m + 1 := ⟨f - 1, by omega⟩
  rw [callF_eq (D := ⟨2, 2, b_is_tuple, false⟩) rfl rfl]
  have : VI.run (callF G m) S.length b_is_tuple [some (.tup xs), some (.int (k : Nat))] S = .go (.rt (.bl (decide (xs.length = k)))) [some (.tup xs), some (.int (k : Nat))] S := by
    have e : ((xs.length : Int) == (k : Int)) = decide (xs.length = k) := by
      by_cases h : xs.length = k <;> simp [h]
      omega
    simp [b_is_tuple, VI.run, ev, evs, bok, sok, grt, of_bl', tyD, isiB, biD, seqOf, eq_int, e]
  exact (congrArg _ this).trans (end_rt rfl (Flat.bl _) (take_self S))
theorem f_is_answer (hf : 4 ≤ f) (a : An) (h : OkA p a) : callF G f 10 [dA a, .int (p : Nat)] S = .ok (.bl true) S := by
  obtain ⟨m, rfl⟩ : ∃ m, f = m + 1 := ⟨f - 1, by omega⟩
  rw [callF_eq (D := ⟨2, 2, b_is_answer, false⟩) rfl rfl]
  obtain ⟨i, j, l⟩ := a
  obtain ⟨h1, h2, h3, h4⟩ := h
  simp only at h1 h2 h3 h4
  have : VI.run (callF G m) S.length b_is_answer [some (dA (i, j, l)), some (.int (p : Nat))] S = .go (.rt (.bl true)) [some (dA (i, j, l)), some (.int (p : Nat))] S := by
    have t := f_is_tuple (S := S) (f := m) (by omega) [.int (i : Nat), .int (j : Nat), dL l] 3
    have x0 : ixD (.tup [.int (i : Nat), .int (j : Nat), dL l]) (.int 0) S = .ok (.int (i : Nat)) S := rfl
    have x1 : ixD (.tup [.int (i : Nat), .int (j : Nat), dL l]) (.int 1) S = .ok (.int (j : Nat)) S := rfl
    have x2 : ixD (.tup [.int (i : Nat), .int (j : Nat), dL l]) (.int 2) S = .ok (dL l) S := rfl
    have n1 : ¬ ((i : Int) = (j : Int)) := by omega
    have g1 : callF G m 5 [.tup [.int (i : Nat), .int (j : Nat), dL l], .int 3] S = .ok (.bl true) S := t
    simp [b_is_answer, VI.run, ev, evs, evT, bok, sok, gnx, grt, of_bl', dA, g1, x0, x1, x2, f_is_index (show 2 ≤ m by omega), f_is_length (show 3 ≤ m by omega) l h4, h1, h2, truR, truD, ne_int, n1]
  exact (congrArg _ this).trans (end_rt rfl (Flat.bl _) (take_self S))
/-! ### comprehensions over the answers -/
theorem lc_seq {F : FT} {k x : Nat} {c : Bool} {own : List (Str × Nat)} {tv ifs elt : VE} {env : VEnv} {xs : List DD} {g : DD → List DD} (h0 : env[x]? = some (some d)) (hs : seqOf S d = some xs)
    (ht : ∀ y, y ∈ xs → ∀ acc, (((asg F k none tv y (wipeE env (own.map (·.2))) S).bind fun env2 S => (evT F k none ifs env2 S).bind fun t S =>
        if t = true then (ev F k none elt env2 S).bind fun y S => addL acc y S else .ok acc S).calm) = .ok (acc ++ g y) S ∨ 1000000 ≤ acc.length) (hg : ∀ y ∈ xs, (g y).length ≤ 1) (hl : xs.length ≤ 1000) :
    ev F k none (.lc c own tv (.iseq (.loc x)) ifs elt) env S = VI.alloc c (xs.flatMap g) S := by
  have hI : evI F k none (.iseq (.loc x)) env S = .ok (.seq d) S := by simp only [evI, ev_loc h0, bok, hs]
  have e : ev F k none (.lc c own tv (.iseq (.loc x)) ifs elt) env S = (evI F k none (.iseq (.loc x)) env S).bind fun j S =>
      (compL j (fun x acc S => ((asg F k none tv x (wipeE env (own.map (·.2))) S).bind fun env2 S => (evT F k none ifs env2 S).bind fun t S =>
        if t = true then (ev F k none elt env2 S).bind fun y S => addL acc y S else .ok acc S).calm) fuelW 0 [] S).bind fun ds S => VI.alloc c ds S := by simp only [ev]
  rw [e, hI]
  simp only [bok]
  have lenG : ∀ i, ((xs.take i).flatMap g).length ≤ i := fun i => by
    induction i with
    | zero => simp
    | succ i ih =>
      by_cases h : i < xs.length
      · rw [List.take_succ_eq_append_getElem h, List.flatMap_append, List.length_append]
        have := hg xs[i] (List.getElem_mem h)
        have e : ([xs[i]].flatMap g) = g xs[i] := by rw [List.flatMap_cons, List.flatMap_nil, List.append_nil]
        rw [e]
        omega
      · rw [List.take_of_length_le (by omega)]
        rw [List.take_of_length_le (by omega)] at ih
        omega
  obtain ⟨acc', S', h, e1, e2⟩ := compL_inv (j := .seq d) (turn := fun x acc S => ((asg F k none tv x (wipeE env (own.map (·.2))) S).bind fun env2 S => (evT F k none ifs env2 S).bind fun t S =>
        if t = true then (ev F k none elt env2 S).bind fun y S => addL acc y S else .ok acc S).calm) (fun i a T => T = S ∧ a = (xs.take i).flatMap g) (n := xs.length) (fun i a T hi h => by
    obtain ⟨rfl, rfl⟩ := h
    refine ⟨xs[i], (xs.take (i + 1)).flatMap g, T, ?_, ?_, rfl, rfl⟩
    · show (seqOf T d).map (·[i]?) = _
      rw [hs, ← List.getElem?_eq_getElem hi]
      rfl
    · rcases ht xs[i] (List.getElem_mem hi) ((xs.take i).flatMap g) with h | h
      · rw [h, List.take_succ_eq_append_getElem hi, List.flatMap_append]
        simp
      · have := lenG i; omega) (fun a T h => by
    obtain ⟨rfl, _⟩ := h
    show (seqOf T d).map (·[xs.length]?) = _
    rw [hs]
    show some xs[xs.length]? = _
    rw [List.getElem?_eq_none (Nat.le_refl _)]) (f := fuelW) (i := 0) (acc := []) (S := S) (Nat.zero_le _) (by unfold fuelW; omega) ⟨rfl, rfl⟩
  rw [h, e1, e2, List.take_length]
  rfl
theorem add_one {acc : List DD} {y : DD} : addL acc y S = .ok (acc ++ [y]) S ∨ 1000000 ≤ acc.length := by
  unfold addL
  by_cases h : acc.length < lenMax
  · exact .inl (if_pos h)
  · exact .inr (by unfold lenMax at h; omega)
theorem flat_one {α β : Type} {g : α → β} : ∀ {xs : List α}, xs.flatMap (fun y => [g y]) = xs.map g
  | [] => rfl
  | x :: xs => by rw [List.flatMap_cons, flat_one]; rfl
/-- one element each -/
theorem lc_map {F : FT} {k x : Nat} {c : Bool} {own : List (Str × Nat)} {tv elt : VE} {env : VEnv} {xs : List DD} {g : DD → DD} (h0 : env[x]? = some (some d)) (hs : seqOf S d = some xs)
    (ht : ∀ y, y ∈ xs → ∃ env2, asg F k none tv y (wipeE env (own.map (·.2))) S = .ok env2 S ∧ ev F k none elt env2 S = .ok (g y) S) (hl : xs.length ≤ 1000) :
    ev F k none (.lc c own tv (.iseq (.loc x)) .nil elt) env S = VI.alloc c (xs.map g) S := by
  have := lc_seq (F := F) (k := k) (c := c) (own := own) (tv := tv) (ifs := .nil) (elt := elt) (g := fun y => [g y]) h0 hs (fun y hy acc => by
    obtain ⟨env2, e1, e2⟩ := ht y hy
    have e3 : ∀ T, evT F k none .nil env2 T = .ok true T := fun T => by simp only [evT]
    rcases add_one (S := S) (acc := acc) (y := g y) with h | h
    · refine .inl ?_
      simp only [e1, e3, bok, if_true, e2, h, cok]
    · exact .inr h) (fun _ _ => Nat.le_refl _) hl
  rw [this, flat_one]
end
end K36

set_option Elab.async false
set_option linter.all false
set_option maxRecDepth 100000
set_option maxHeartbeats 4000000
namespace K36
open VI PySem L2
section
variable {S : Sto} {f p : Nat} {as : List An} {d : DD}
theorem f_is_list (hf : 1 ≤ f) {xs : List DD} (h : seqOf S d = some xs) : callF G f 4 [d] S = .ok (.bl true) S := by
  obtain ⟨m, rfl⟩ : ∃ m, f = m + 1 := ⟨f - 1, by omega⟩
  rw [callF_eq (D := ⟨1, 1, b_is_list, false⟩) rfl rfl]
  have : VI.run (callF G m) S.length b_is_list [some d] S = .go (.rt (.bl true)) [some d] S := by
    cases d <;> first | (simp [b_is_list, VI.run, ev, bok, sok, grt, tyD, isiB]; done) | (cases h)
  exact (congrArg _ this).trans (end_rt rfl (Flat.bl _) (take_self S))
/-! ### len of the dict of the answers -/
def dK (a : An) : DD := .tup [.int (a.1 : Nat), .int (a.2.1 : Nat)]
theorem keys_of : ∀ l : List An, mapO (fun d => match d with | .tup zs => intsOf zs | _ => none) (l.map dK) = some (l.map fun a => [(a.1 : Int), (a.2.1 : Int)])
  | [] => rfl
  | a :: l => by
    have := keys_of l
    simp only [List.map_cons, mapO]
    rw [this]
    rfl
theorem keyL_new {l : List An} {a : An} (h : (a.1, a.2.1) ∉ l.map fun a => (a.1, a.2.1)) (hl : l.length ≤ 1000) : keyL (l.map dK) (dK a) S = .ok ((l ++ [a]).map dK) S := by
  show (match intsOf [.int (a.1 : Nat), .int (a.2.1 : Nat)], mapO (fun d => match d with | .tup zs => intsOf zs | _ => none) (l.map dK) with
    | some ns, some ms => if [DD.int (a.1 : Nat), .int (a.2.1 : Nat)].length ≤ 8 ∧ (l.map dK).length < lenMax then (if ms.contains ns = true then R.ok (l.map dK) S else addL (l.map dK) (dK a) S) else .stuck
    | _, _ => .stuck) = _
  rw [keys_of]
  show (if (2 : Nat) ≤ 8 ∧ (l.map dK).length < lenMax then (if (l.map fun a => [(a.1 : Int), (a.2.1 : Int)]).contains [(a.1 : Int), (a.2.1 : Int)] = true then R.ok (l.map dK) S else addL (l.map dK) (dK a) S) else .stuck) = _
  have hlen : (l.map dK).length < lenMax := by rw [List.length_map]; unfold lenMax; omega
  rw [if_pos ⟨by omega, hlen⟩, if_neg]
  · unfold addL
    rw [if_pos hlen, List.map_append]
    rfl
  · intro q
    have q := List.contains_iff_mem.mp q
    obtain ⟨b, hb, e⟩ := List.mem_map.mp q
    apply h
    refine List.mem_map.mpr ⟨b, hb, ?_⟩
    simp only [List.cons.injEq, Int.natCast_inj, and_true] at e
    rw [e.1, e.2]
theorem f_are_answers (hf : 5 ≤ f) (hv : ValAt S d as) (ha : VA p as) : callF G f 11 [d, .int (p : Nat)] S = .ok (.bl true) S := by
  obtain ⟨m, rfl⟩ : ∃ m, f = m + 1 := ⟨f - 1, by omega⟩
  rw [callF_eq (D := ⟨2, 6, b_are_answers, false⟩) rfl rfl]
  show endOf _ S.length (VI.run (callF G m) S.length b_are_answers [some d, some (.int (p : Nat)), none, none, none, none] S) = _
  have l4 := f_is_list (f := m) (by omega) hv.now
  have lc := lc_map (F := callF G m) (k := S.length) (c := false) (own := [("item", 2)]) (tv := .tloc 2) (elt := .call 10 (.cons (.loc 2) (.cons (.loc 1) .nil))) (x := 0) (env := [some d, some (.int (p : Nat)), none, none, none, none]) (g := fun _ => .bl true) rfl hv.now (fun y hy => by
    obtain ⟨a, haa, rfl⟩ := List.mem_map.mp hy
    refine ⟨[some d, some (.int (p : Nat)), some (dA a), none, none, none], by simp only [asg, List.map_cons, List.map_nil, wipeE, List.set_cons_succ, List.set_cons_zero], ?_⟩
    simp only [ev, evs, List.getElem?_cons_succ, List.getElem?_cons_zero, bok, f_is_answer (S := S) (show 4 ≤ m by omega) a (ha.ok a haa)]) (by simpa using ha.len)
  have all : ev (callF G m) S.length none (.bi .all false (.cons (.lc false [("item", 2)] (.tloc 2) (.iseq (.loc 0)) .nil (.call 10 (.cons (.loc 2) (.cons (.loc 1) .nil)))) .nil)) [some d, some (.int (p : Nat)), none, none, none, none] S = .ok (.bl true) S := by
    have e : ∀ ve : VE, ev (callF G m) S.length none (.bi .all false (.cons ve .nil)) [some d, some (.int (p : Nat)), none, none, none, none] S = (ev (callF G m) S.length none ve [some d, some (.int (p : Nat)), none, none, none, none] S).bind fun x S => biD .all false [x] S := fun ve => by
      simp only [ev, evs, bind_bind, bok]
    rw [e, lc]
    have bl : ∀ l : List DD, blsOf (l.map fun _ => DD.bl true) = some (l.map fun _ => true) := fun l => by
      induction l with
      | nil => rfl
      | cons a l ih => simp only [List.map_cons, blsOf, ih, Option.map_some]
    show (match (lstOf S (.lst ((as.map dA).map fun _ => DD.bl true))).bind blsOf with
      | some bs => R.ok (DD.bl (bs.all id)) S
      | none => .stuck) = _
    show (match blsOf ((as.map dA).map fun _ => DD.bl true) with
      | some bs => R.ok (DD.bl (bs.all id)) S
      | none => .stuck) = _
    rw [bl]
    simp
  have len : ev (callF G m) S.length none (.bi .len false (.cons (.loc 0) .nil)) [some d, some (.int (p : Nat)), none, none, none, none] S = .ok (.int (as.length : Nat)) S := by
    simp only [ev, evs, List.getElem?_cons_zero, bok]
    have := hv.now
    cases d <;> first | (cases this; done) | skip
    all_goals (simp only [biD, this, List.length_map])
  have dln : ev (callF G m) S.length none (.dln [("i", 3), ("j", 4), ("length", 5)] (.ttup (.cons (.tloc 3) (.cons (.tloc 4) (.cons (.tloc 5) .nil)))) (.iseq (.loc 0)) (.tup (.cons (.loc 3) (.cons (.loc 4) .nil))) (.loc 5)) [some d, some (.int (p : Nat)), none, none, none, none] S = .ok (.int (as.length : Nat)) S := by
    have hI : evI (callF G m) S.length none (.iseq (.loc 0)) [some d, some (.int (p : Nat)), none, none, none, none] S = .ok (.seq d) S := by simp only [evI, ev, List.getElem?_cons_zero, bok, hv.now]
    have e : ev (callF G m) S.length none (.dln [("i", 3), ("j", 4), ("length", 5)] (.ttup (.cons (.tloc 3) (.cons (.tloc 4) (.cons (.tloc 5) .nil)))) (.iseq (.loc 0)) (.tup (.cons (.loc 3) (.cons (.loc 4) .nil))) (.loc 5)) [some d, some (.int (p : Nat)), none, none, none, none] S = (evI (callF G m) S.length none (.iseq (.loc 0)) [some d, some (.int (p : Nat)), none, none, none, none] S).bind fun j S' =>
      (compL j (fun x acc S' => ((asg (callF G m) S.length none (.ttup (.cons (.tloc 3) (.cons (.tloc 4) (.cons (.tloc 5) .nil)))) x [some d, some (.int (p : Nat)), none, none, none, none] S').bind fun env2 S' => (ev (callF G m) S.length none (.tup (.cons (.loc 3) (.cons (.loc 4) .nil))) env2 S').bind fun y S' => (ev (callF G m) S.length none (.loc 5) env2 S').bind fun _ S' =>
        keyL acc y S').calm) fuelW 0 [] S').bind fun ds S' => .ok (.int ds.length) S' := by
      simp only [ev]
      rfl
    rw [e, hI]
    simp only [bok]
    obtain ⟨acc, T, h, rfl, rfl⟩ := compL_inv (j := .seq d) (turn := fun x acc S' => ((asg (callF G m) S.length none (.ttup (.cons (.tloc 3) (.cons (.tloc 4) (.cons (.tloc 5) .nil)))) x [some d, some (.int (p : Nat)), none, none, none, none] S').bind fun env2 S' => (ev (callF G m) S.length none (.tup (.cons (.loc 3) (.cons (.loc 4) .nil))) env2 S').bind fun y S' => (ev (callF G m) S.length none (.loc 5) env2 S').bind fun _ S' =>
        keyL acc y S').calm) (fun i acc T => T = S ∧ acc = (as.take i).map dK) (n := as.length) (fun i acc T hi h => by
      obtain ⟨rfl, rfl⟩ := h
      refine ⟨dA as[i], (as.take (i + 1)).map dK, T, ?_, ?_, rfl, rfl⟩
      · show (seqOf T d).map (·[i]?) = _
        rw [hv.now]
        show some (as.map dA)[i]? = _
        rw [List.getElem?_map, List.getElem?_eq_getElem hi]
        rfl
      · have nd : (as[i].1, as[i].2.1) ∉ (as.take i).map fun a => (a.1, a.2.1) := by
          have h1 := ha.nd
          rw [← List.take_append_drop i as, List.map_append, List.nodup_append] at h1
          intro q
          refine h1.2.2 _ q (as[i].1, as[i].2.1) ?_ rfl
          rw [List.drop_eq_getElem_cons hi]
          exact List.mem_map.mpr ⟨as[i], List.mem_cons_self, rfl⟩
        have k1 := keyL_new (S := T) (l := as.take i) (a := as[i]) nd (by rw [List.length_take]; have := ha.len; omega)
        have e1 : asg (callF G m) T.length none (.ttup (.cons (.tloc 3) (.cons (.tloc 4) (.cons (.tloc 5) .nil)))) (dA as[i]) [some d, some (.int (p : Nat)), none, none, none, none] T = .ok [some d, some (.int (p : Nat)), none, some (.int (as[i].1 : Nat)), some (.int (as[i].2.1 : Nat)), some (dL as[i].2.2)] T := by
          simp only [asg, asgs, dA, seqOf, bok, List.set_cons_succ, List.set_cons_zero]
        have e2 : ev (callF G m) T.length none (.tup (.cons (.loc 3) (.cons (.loc 4) .nil))) [some d, some (.int (p : Nat)), none, some (.int (as[i].1 : Nat)), some (.int (as[i].2.1 : Nat)), some (dL as[i].2.2)] T = .ok (dK as[i]) T := by
          simp only [ev, evs, List.getElem?_cons_succ, List.getElem?_cons_zero, bok]
          rfl
        have e3 : ev (callF G m) T.length none (.loc 5) [some d, some (.int (p : Nat)), none, some (.int (as[i].1 : Nat)), some (.int (as[i].2.1 : Nat)), some (dL as[i].2.2)] T = .ok (dL as[i].2.2) T := by
          simp only [ev, List.getElem?_cons_succ, List.getElem?_cons_zero]
        simp only [e1, e2, e3, bok, k1, cok]
        rw [List.take_succ_eq_append_getElem hi]) (fun acc T h => by
      show (seqOf T d).map (·[as.length]?) = _
      rw [h.1, hv.now]
      show some (as.map dA)[as.length]? = _
      rw [List.getElem?_eq_none (by simp)]) (f := fuelW) (i := 0) (acc := []) (S := S) (Nat.zero_le _) (by unfold fuelW; have := ha.len; omega) ⟨rfl, rfl⟩
    rw [h]
    simp only [bok, List.length_map, List.take_length]
  have tot : VI.run (callF G m) S.length b_are_answers [some d, some (.int (p : Nat)), none, none, none, none] S = .go (.rt (.bl true)) [some d, some (.int (p : Nat)), none, none, none, none] S := by
    have c4 : ev (callF G m) S.length none (.call 4 (.cons (.loc 0) .nil)) [some d, some (.int (p : Nat)), none, none, none, none] S = .ok (.bl true) S := by
      simp only [ev, evs, List.getElem?_cons_zero, bok, l4]
    have t4 : evT (callF G m) S.length none (.call 4 (.cons (.loc 0) .nil)) [some d, some (.int (p : Nat)), none, none, none, none] S = .ok true S := by
      simp only [evT, evs, ev, List.getElem?_cons_zero, bok, l4, truR, truD]
    have ta : evT (callF G m) S.length none (.bi .all false (.cons (.lc false [("item", 2)] (.tloc 2) (.iseq (.loc 0)) .nil (.call 10 (.cons (.loc 2) (.cons (.loc 1) .nil)))) .nil)) [some d, some (.int (p : Nat)), none, none, none, none] S = .ok true S := by
      have e : ∀ ve : VE, evT (callF G m) S.length none (.bi .all false ve) [some d, some (.int (p : Nat)), none, none, none, none] S = (ev (callF G m) S.length none (.bi .all false ve) [some d, some (.int (p : Nat)), none, none, none, none] S).bind truR := fun ve => by
        simp only [evT, ev, bind_bind]
      rw [e, all]
      rfl
    have test : evT (callF G m) S.length none (.orv (.notv (.call 4 (.cons (.loc 0) .nil))) (.notv (.bi .all false (.cons (.lc false [("item", 2)] (.tloc 2) (.iseq (.loc 0)) .nil (.call 10 (.cons (.loc 2) (.cons (.loc 1) .nil)))) .nil)))) [some d, some (.int (p : Nat)), none, none, none, none] S = .ok false S := by
      have e : ∀ a b : VE, evT (callF G m) S.length none (.orv (.notv a) (.notv b)) [some d, some (.int (p : Nat)), none, none, none, none] S = (evT (callF G m) S.length none a [some d, some (.int (p : Nat)), none, none, none, none] S).bind fun t S' => if (!t) = true then .ok true S' else (evT (callF G m) S.length none b [some d, some (.int (p : Nat)), none, none, none, none] S').bind fun t S' => .ok (!t) S' := fun a b => by
        simp only [evT, bind_bind, bok]
      rw [e, t4]
      simp only [bok, Bool.not_true, Bool.false_eq_true, if_false, ta]
    have rt : ev (callF G m) S.length none (.cmp .eq (.dln [("i", 3), ("j", 4), ("length", 5)] (.ttup (.cons (.tloc 3) (.cons (.tloc 4) (.cons (.tloc 5) .nil)))) (.iseq (.loc 0)) (.tup (.cons (.loc 3) (.cons (.loc 4) .nil))) (.loc 5)) (.bi .len false (.cons (.loc 0) .nil))) [some d, some (.int (p : Nat)), none, none, none, none] S = .ok (.bl true) S := by
      have e : ∀ a b : VE, ev (callF G m) S.length none (.cmp .eq a b) [some d, some (.int (p : Nat)), none, none, none, none] S = (ev (callF G m) S.length none a [some d, some (.int (p : Nat)), none, none, none, none] S).bind fun x S' => (ev (callF G m) S.length none b [some d, some (.int (p : Nat)), none, none, none, none] S').bind fun y S' => cmpD .eq x y S' := fun a b => by
        simp only [ev]
      rw [e, dln]
      simp only [bok, len, eq_int, beq_self_eq_true]
    have ite : VI.run (callF G m) S.length (.ite (.orv (.notv (.call 4 (.cons (.loc 0) .nil))) (.notv (.bi .all false (.cons (.lc false [("item", 2)] (.tloc 2) (.iseq (.loc 0)) .nil (.call 10 (.cons (.loc 2) (.cons (.loc 1) .nil)))) .nil)))) (.seq (.ret (.bl false)) .skip) .skip) [some d, some (.int (p : Nat)), none, none, none, none] S = .go .nx [some d, some (.int (p : Nat)), none, none, none, none] S := by
      simp only [VI.run, test, sok, Bool.false_eq_true, if_false]
    unfold b_are_answers
    rw [seq_go ite]
    exact ret_go rt
  rw [tot]
  exact end_rt rfl (Flat.bl _) (take_self S)
end
end K36

set_option Elab.async false
set_option linter.all false
set_option maxRecDepth 100000
set_option maxHeartbeats 4000000
namespace K36
open VI PySem L2
def fillN (M : Mat) (as : List An) : Mat := as.foldl (fun M a => st M a.1 a.2.1 a.2.2) M
def zero (p : Nat) : Mat := List.replicate p (List.replicate p none)
def W (p : Nat) (as : List An) : Mat := fw p (fillN (zero p) as)
theorem wf_zero (p : Nat) : Wf p (zero p) := ⟨by simp [zero], fun r hr => by rw [(List.mem_replicate.mp hr).2]; simp⟩
theorem wf_fill {p : Nat} : ∀ {as : List An} {M : Mat}, Wf p M → (∀ a ∈ as, a.1 < p) → Wf p (fillN M as)
  | [], _, h, _ => h
  | a :: as, M, h, ha => show Wf p (fillN (st M a.1 a.2.1 a.2.2) as) from wf_fill (as := as) (h.st (ha a List.mem_cons_self)) fun b hb => ha b (List.mem_cons_of_mem _ hb)
theorem fill_take {M : Mat} {as : List An} {i : Nat} (h : i < as.length) : fillN M (as.take (i + 1)) = st (fillN M (as.take i)) as[i].1 as[i].2.1 as[i].2.2 := by
  rw [List.take_succ_eq_append_getElem h]
  unfold fillN
  rw [List.foldl_append]
  rfl
theorem VA.lt {p : Nat} {as : List An} (h : VA p as) : ∀ a ∈ as, a.1 < p := fun a ha => (h.ok a ha).1
theorem VA.take {p : Nat} {as : List An} (h : VA p as) (i : Nat) : ∀ a ∈ as.take i, a.1 < p := fun a ha => h.lt a (List.mem_of_mem_take ha)
theorem wf_W {p : Nat} {as : List An} (h : VA p as) : Wf p (W p as) := (wf_fill (wf_zero p) h.lt).fw
section
variable {S : Sto} {f p k : Nat} {as : List An} {d : DD} {F : FT}
/-- [[None] * posts for _ in range(posts)] -/
theorem new_rows {own : List (Str × Nat)} {env : VEnv} (hp : 2 ≤ p ∧ p ≤ 5) (hown : own.map (·.2) = [3]) (h0 : env[0]? = some (some (.int (p : Nat)))) :
    ev F k none (.lc false own (.tloc 3) (.irg1 (.loc 0)) .nil (.bin .mul true (.lst false (.cons .non .nil)) (.loc 0))) env S = .ok (.lst (cels S.length p)) (SM S (zero p)) := by
  have hI := evI_rng (F := F) (k := k) (e := .loc 0) (env := env) (T := S) (m := p) (ev_loc h0) (by omega)
  have e : ev F k none (.lc false own (.tloc 3) (.irg1 (.loc 0)) .nil (.bin .mul true (.lst false (.cons .non .nil)) (.loc 0))) env S = (evI F k none (.irg1 (.loc 0)) env S).bind fun j S =>
      (compL j (fun x acc S => ((asg F k none (.tloc 3) x (wipeE env (own.map (·.2))) S).bind fun env2 S => (evT F k none .nil env2 S).bind fun t S =>
        if t = true then (ev F k none (.bin .mul true (.lst false (.cons .non .nil)) (.loc 0)) env2 S).bind fun y S => addL acc y S else .ok acc S).calm) fuelW 0 [] S).bind fun ds S => VI.alloc false ds S := by simp only [ev]
  rw [e, hI]
  simp only [bok]
  have ztake : ∀ i, i < p → (zero p).take (i + 1) = (zero p).take i ++ [List.replicate p none] := fun i hi => take_succ' (by simp [zero, hi])
  obtain ⟨acc, T, h, rfl, rfl⟩ := compL_inv (j := .rng 0 p) (turn := fun x acc S => ((asg F k none (.tloc 3) x (wipeE env (own.map (·.2))) S).bind fun env2 S => (evT F k none .nil env2 S).bind fun t S =>
        if t = true then (ev F k none (.bin .mul true (.lst false (.cons .non .nil)) (.loc 0)) env2 S).bind fun y S => addL acc y S else .ok acc S).calm) (fun i acc T => acc = cels S.length i ∧ T = SM S ((zero p).take i)) (n := p) (fun i acc T hi h => by
    obtain ⟨rfl, rfl⟩ := h
    refine ⟨.int (i : Nat), cels S.length (i + 1), SM S ((zero p).take (i + 1)), rng_lt _ hi, ?_, rfl, rfl⟩
    have g : ((wipeE env (own.map (·.2))).set 3 (some (DD.int (i : Nat))))[0]? = some (some (.int (p : Nat))) := by
      rw [hown]
      show ((env.set 3 none).set 3 _)[0]? = _
      rw [List.set_set, List.getElem?_set_ne (by omega), h0]
    have b : binD .mul true (.lst [.non]) (.int (p : Nat)) (SM S ((zero p).take i)) = .ok (.cel (S.length + i)) (SM S ((zero p).take (i + 1))) := by
      have e1 : (List.replicate p [DD.non]).flatten = dRow (List.replicate p none) := by
        unfold dRow
        rw [List.map_replicate, List.flatten_replicate_singleton]
        rfl
      show (if -1000000 ≤ (p : Int) ∧ (p : Int) ≤ 1000000 ∧ ([DD.non] : List DD).length * (p : Int).toNat ≤ lenMax then VI.alloc true (List.replicate (p : Int).toNat [DD.non]).flatten (SM S ((zero p).take i)) else .stuck) = _
      rw [if_pos (by unfold lenMax; simp; omega)]
      show R.ok (DD.cel (SM S ((zero p).take i)).length) (SM S ((zero p).take i) ++ [(List.replicate p [DD.non]).flatten]) = _
      rw [e1, SM_len, List.length_take, Nat.min_eq_left (by simp [zero]; omega)]
      congr 1
      unfold SM
      rw [ztake i hi, List.map_append, List.append_assoc]
      rfl
    have e3 : ev F k none (.bin .mul true (.lst false (.cons .non .nil)) (.loc 0)) ((wipeE env (own.map (·.2))).set 3 (some (DD.int (i : Nat)))) (SM S ((zero p).take i)) = .ok (.cel (S.length + i)) (SM S ((zero p).take (i + 1))) := by
      have : ev F k none (.bin .mul true (.lst false (.cons .non .nil)) (.loc 0)) ((wipeE env (own.map (·.2))).set 3 (some (DD.int (i : Nat)))) (SM S ((zero p).take i)) = (ev F k none (.lst false (.cons .non .nil)) ((wipeE env (own.map (·.2))).set 3 (some (DD.int (i : Nat)))) (SM S ((zero p).take i))).bind fun x S' => (ev F k none (.loc 0) ((wipeE env (own.map (·.2))).set 3 (some (DD.int (i : Nat)))) S').bind fun y S' => binD .mul true x y S' := by simp only [ev]
      rw [this]
      have l1 : ev F k none (.lst false (.cons .non .nil)) ((wipeE env (own.map (·.2))).set 3 (some (DD.int (i : Nat)))) (SM S ((zero p).take i)) = .ok (.lst [.non]) (SM S ((zero p).take i)) := by
        simp only [ev, evs, bok, VI.alloc]
        rw [if_pos (by unfold lenMax; simp)]
      rw [l1]
      simp only [bok, ev_loc g, b]
    have e5 : ∀ T, evT F k none .nil ((wipeE env (own.map (·.2))).set 3 (some (DD.int (i : Nat)))) T = .ok true T := fun T => by simp only [evT]
    have e4 : asg F k none (.tloc 3) (.int (i : Nat)) (wipeE env (own.map (·.2))) (SM S ((zero p).take i)) = .ok ((wipeE env (own.map (·.2))).set 3 (some (DD.int (i : Nat)))) (SM S ((zero p).take i)) := by simp only [asg]
    simp only [e4, e5, bok, if_true, e3, addL, cels_len]
    rw [if_pos (by unfold lenMax; omega), cels_succ]
    rfl) (fun acc T h => rng_end T) (f := fuelW) (i := 0) (acc := []) (S := S) (Nat.zero_le _) (by unfold fuelW; omega) ⟨rfl, by simp [SM_nil]⟩
  rw [h]
  simp only [bok, VI.alloc]
  rw [List.take_of_length_le (by simp [zero])]
/-- three names are stored from a triple -/
theorem asg_tri {x y z : Nat} {a b c : DD} {env : VEnv} {T : Sto} {body : VS} : (asg F k none (.ttup (.cons (.tloc x) (.cons (.tloc y) (.cons (.tloc z) .nil)))) (.tup [a, b, c]) env T).stm env (fun env S => VI.run F k body env S) = VI.run F k body (((env.set x (some a)).set y (some b)).set z (some c)) T := by simp only [asg, asgs, seqOf, bok, sok]
theorem fill_rows {env : VEnv} (hv : ValAt S d as) (ha : VA p as) (hk : k ≤ S.length) (hl : env.length = 7) (h1 : env[1]? = some (some d)) (h2 : env[2]? = some (some (.lst (cels S.length p)))) :
    ∃ env', VI.run F k (.fr (.ttup (.cons (.tloc 4) (.cons (.tloc 5) (.cons (.tloc 6) .nil)))) (.iseq (.loc 1)) (.seq (.asg (.tsub (.ix (.loc 2) (.loc 4)) (.loc 5)) (.loc 6)) .skip)) env (SM S (zero p)) = .go .nx env' (SM S (fillN (zero p) as)) ∧ Eb [4, 5, 6] env env' := by
  have hs : ∀ M, seqOf (SM S M) d = some (as.map dA) := fun M => hv _
  have hI : evI F k none (.iseq (.loc 1)) env (SM S (zero p)) = .ok (.seq d) (SM S (zero p)) := by simp only [evI, ev_loc h1, bok, hs]
  obtain ⟨env', S', e, rfl, eb⟩ := forL_inv (j := .seq d) (turn := fun x env S => (asg F k none (.ttup (.cons (.tloc 4) (.cons (.tloc 5) (.cons (.tloc 6) .nil)))) x env S).stm env fun env S => VI.run F k (.seq (.asg (.tsub (.ix (.loc 2) (.loc 4)) (.loc 5)) (.loc 6)) .skip) env S) (fun i e T => T = SM S (fillN (zero p) (as.take i)) ∧ Eb [4, 5, 6] env e) (n := as.length) (fun i e T hi h => by
    obtain ⟨rfl, eb⟩ := h
    have el : e.length = 7 := eb.1.trans hl
    have hwi : Wf p (fillN (zero p) (as.take i)) := wf_fill (wf_zero p) (ha.take i)
    have oa := ha.ok as[i] (List.getElem_mem hi)
    refine ⟨dA as[i], ((e.set 4 (some (.int (as[i].1 : Nat)))).set 5 (some (.int (as[i].2.1 : Nat)))).set 6 (some (dL as[i].2.2)), SM S (fillN (zero p) (as.take (i + 1))), ?_, .inl (asg_tri.trans ?_), rfl, eb.trans (((Eb.set (by simp)).trans (.set (by simp))).trans (.set (by simp)))⟩
    · show (seqOf (SM S _) d).map (·[i]?) = _
      rw [hs]
      show some (as.map dA)[i]? = _
      rw [List.getElem?_map, List.getElem?_eq_getElem hi]
      rfl
    · generalize hE : ((e.set 4 (some (DD.int (as[i].1 : Nat)))).set 5 (some (.int (as[i].2.1 : Nat)))).set 6 (some (dL as[i].2.2)) = E
      have g2 : E[2]? = some (some (.lst (cels S.length p))) := by
        rw [← hE, List.getElem?_set_ne (by omega), List.getElem?_set_ne (by omega), List.getElem?_set_ne (by omega)]
        exact eb.at_ (by simp) h2
      have g4 : E[4]? = some (some (.int (as[i].1 : Nat))) := by
        rw [← hE, List.getElem?_set_ne (by omega), List.getElem?_set_ne (by omega)]
        exact set_at (by omega)
      have g5 : E[5]? = some (some (.int (as[i].2.1 : Nat))) := by
        rw [← hE, List.getElem?_set_ne (by omega)]
        exact set_at (by simp; omega)
      have g6 : E[6]? = some (some (dL as[i].2.2)) := by
        rw [← hE]
        exact set_at (by simp; omega)
      have w := set_cell (k := k) (S := S) (v := as[i].2.2) hwi hk oa.1 oa.2.1
      have tsub : asg F k none (.tsub (.ix (.loc 2) (.loc 4)) (.loc 5)) (dL as[i].2.2) E (SM S (fillN (zero p) (as.take i))) = .ok E (SM S (fillN (zero p) (as.take (i + 1)))) := by
        have : asg F k none (.tsub (.ix (.loc 2) (.loc 4)) (.loc 5)) (dL as[i].2.2) E (SM S (fillN (zero p) (as.take i))) = (ev F k none (.ix (.loc 2) (.loc 4)) E (SM S (fillN (zero p) (as.take i)))).calm.bind fun u S => (ev F k none (.loc 5) E S).calm.bind fun v S => (setD k u v (dL as[i].2.2) S).bind fun _ S => .ok E S := by simp only [asg]
        rw [this, ev_row g2 g4 oa.1]
        simp only [cok, bok, ev_loc g5, w]
        rw [fill_take hi]
      have : VI.run F k (.asg (.tsub (.ix (.loc 2) (.loc 4)) (.loc 5)) (.loc 6)) E (SM S (fillN (zero p) (as.take i))) = .go .nx E (SM S (fillN (zero p) (as.take (i + 1)))) := by
        simp only [VI.run, ev_loc g6, sok, tsub]
      rw [seq_go this, skip_go]) (fun e T h => by
    show (seqOf T d).map (·[as.length]?) = _
    rw [h.1, hs]
    show some (as.map dA)[as.length]? = _
    rw [List.getElem?_eq_none (by simp)]) (f := fuelW) (i := 0) (env := env) (S := SM S (zero p)) (Nat.zero_le _) (by unfold fuelW; have := ha.len; omega) ⟨rfl, .refl⟩
  rw [List.take_length] at e
  exact ⟨env', (fr_eq hI).trans e, eb⟩
theorem rows_cels {M : Mat} (hw : Wf p M) : RowsAt (SM S M) (cels S.length p) M := ⟨by rw [cels_len, hw.1], fun i r h => by
  have hi : i < p := by rw [← hw.1]; exact (List.getElem?_eq_some_iff.mp h).1
  refine ⟨_, cels_at hi, fun T => ?_⟩
  show (SM S M ++ T)[S.length + i]? = _
  have hr := SM_row (S := S) hw hi
  rw [List.getElem?_append_left (List.getElem?_eq_some_iff.mp hr).1, hr, List.getD_eq_getElem?_getD, h]
  rfl⟩
theorem f_greatest_of (hf : 2 ≤ f) (hp : 2 ≤ p ∧ p ≤ 5) (hv : ValAt S d as) (ha : VA p as) : callF G f 12 [.int (p : Nat), d] S = .ok (dTM (W p as)) S := by
  obtain ⟨m, rfl⟩ : ∃ m, f = m + 1 := ⟨f - 1, by omega⟩
  rw [callF_eq (D := ⟨2, 7, b_greatest_of, false⟩) rfl rfl]
  show endOf _ S.length (VI.run (callF G m) S.length b_greatest_of [some (.int (p : Nat)), some d, none, none, none, none, none] S) = _
  have nr := new_rows (F := callF G m) (k := S.length) (S := S) (own := [("_", 3)]) (env := [some (.int (p : Nat)), some d, none, none, none, none, none]) hp rfl rfl
  have s1 : VI.run (callF G m) S.length (.asg (.tloc 2) (.lc false [("_", 3)] (.tloc 3) (.irg1 (.loc 0)) .nil (.bin .mul true (.lst false (.cons .non .nil)) (.loc 0)))) [some (.int (p : Nat)), some d, none, none, none, none, none] S = .go .nx [some (.int (p : Nat)), some d, some (.lst (cels S.length p)), none, none, none, none] (SM S (zero p)) := by
    simp only [VI.run, nr, sok, asg, List.set_cons_succ, List.set_cons_zero]
  obtain ⟨env1, s2, eb⟩ := fill_rows (F := callF G m) (k := S.length) (S := S) (env := [some (.int (p : Nat)), some d, some (.lst (cels S.length p)), none, none, none, none]) hv ha (Nat.le_refl _) rfl rfl rfl
  have h2 : env1[2]? = some (some (.lst (cels S.length p))) := eb.at_ (by simp) rfl
  have hwf : Wf p (fillN (zero p) as) := wf_fill (wf_zero p) ha.lt
  have c8 := f_closed_rows (S := SM S (fillN (zero p) as)) (f := m) (by omega) (rows := .lst (cels S.length p)) (ds := cels S.length p) (fun _ => rfl) (rows_cels hwf) (n := p) (by omega) hwf
  have rt : ev (callF G m) S.length none (.call 8 (.cons (.loc 2) .nil)) env1 (SM S (fillN (zero p) as)) = .ok (dTM (W p as)) (SM S (fillN (zero p) as)) := by
    simp only [ev, evs, h2, bok]
    exact c8
  have tot : VI.run (callF G m) S.length b_greatest_of [some (.int (p : Nat)), some d, none, none, none, none, none] S = .go (.rt (dTM (W p as))) env1 (SM S (fillN (zero p) as)) := by
    unfold b_greatest_of
    rw [seq_go s1, seq_go s2]
    exact ret_go rt
  rw [tot]
  exact end_rt rfl flat_TM (take_app S _)
theorem flat_LM {M : Mat} : Flat (dLM M) := fun k T => by
  show (mapO (snap k T 23) (M.map fun r => DD.lst (dRow r))).map DD.lst = _
  have : mapO (snap k T 23) (M.map fun r => DD.lst (dRow r)) = some ((M.map fun r => DD.lst (dRow r)).map id) := mapO_of fun x hx => by
    obtain ⟨r, _, rfl⟩ := List.mem_map.mp hx
    show (mapO (snap k T 22) (dRow r)).map DD.lst = _
    rw [snap_row]
    rfl
  rw [this, List.map_id]
  rfl
theorem f_law_ways (hf : 2 ≤ f) (hp : 2 ≤ p ∧ p ≤ 5) (hv : ValAt S d as) (ha : VA p as) : callF G f 31 [.int (p : Nat), d] S = .ok (dLM (W p as)) S := by
  obtain ⟨m, rfl⟩ : ∃ m, f = m + 1 := ⟨f - 1, by omega⟩
  rw [callF_eq (D := ⟨2, 7, b_law_ways, false⟩) rfl rfl]
  show endOf _ S.length (VI.run (callF G m) S.length b_law_ways [some (.int (p : Nat)), some d, none, none, none, none, none] S) = _
  have nr := new_rows (F := callF G m) (k := S.length) (S := S) (own := [("k", 3)]) (env := [some (.int (p : Nat)), some d, none, none, none, none, none]) hp rfl rfl
  have s1 : VI.run (callF G m) S.length (.asg (.tloc 2) (.lc false [("k", 3)] (.tloc 3) (.irg1 (.loc 0)) .nil (.bin .mul true (.lst false (.cons .non .nil)) (.loc 0)))) [some (.int (p : Nat)), some d, none, none, none, none, none] S = .go .nx [some (.int (p : Nat)), some d, some (.lst (cels S.length p)), none, none, none, none] (SM S (zero p)) := by
    simp only [VI.run, nr, sok, asg, List.set_cons_succ, List.set_cons_zero]
  obtain ⟨env1, s2, eb⟩ := fill_rows (F := callF G m) (k := S.length) (S := S) (env := [some (.int (p : Nat)), some d, some (.lst (cels S.length p)), none, none, none, none]) hv ha (Nat.le_refl _) rfl rfl rfl
  have h2 : env1[2]? = some (some (.lst (cels S.length p))) := eb.at_ (by simp) rfl
  have hwf : Wf p (fillN (zero p) as) := wf_fill (wf_zero p) ha.lt
  have c8 := f_law_closed (S := SM S (fillN (zero p) as)) (f := m) (by omega) (rows := .lst (cels S.length p)) (ds := cels S.length p) (fun _ => rfl) (fun _ => rfl) (rows_cels hwf) (n := p) (by omega) hwf
  have rt : ev (callF G m) S.length none (.call 26 (.cons (.loc 2) .nil)) env1 (SM S (fillN (zero p) as)) = .ok (dLM (W p as)) (SM S (fillN (zero p) as)) := by
    simp only [ev, evs, h2, bok]
    exact c8
  have tot : VI.run (callF G m) S.length b_law_ways [some (.int (p : Nat)), some d, none, none, none, none, none] S = .go (.rt (dLM (W p as))) env1 (SM S (fillN (zero p) as)) := by
    unfold b_law_ways
    rw [seq_go s1, seq_go s2]
    exact ret_go rt
  rw [tot]
  exact end_rt rfl flat_LM (take_app S _)
end
end K36

set_option Elab.async false
set_option linter.all false
set_option maxRecDepth 100000
set_option maxHeartbeats 4000000
namespace K36
open VI PySem L2
theorem ix_TM {M : Mat} {p i : Nat} {S : Sto} (hw : Wf p M) (hi : i < p) : ixD (dTM M) (.int (i : Nat)) S = .ok (.tup (dRow (M.getD i []))) S := by
  have : i < M.length := by rw [hw.1]; exact hi
  simp only [ixD, dTM, seqOf, atI_nat]
  rw [List.getElem?_map, List.getElem?_eq_getElem this, List.getD_eq_getElem?_getD, List.getElem?_eq_getElem this]
  rfl
theorem ix_LM {M : Mat} {p i : Nat} {S : Sto} (hw : Wf p M) (hi : i < p) : ixD (dLM M) (.int (i : Nat)) S = .ok (.lst (dRow (M.getD i []))) S := by
  have : i < M.length := by rw [hw.1]; exact hi
  simp only [ixD, dLM, seqOf, atI_nat]
  rw [List.getElem?_map, List.getElem?_eq_getElem this, List.getD_eq_getElem?_getD, List.getElem?_eq_getElem this]
  rfl
theorem ix_row {M : Mat} {p i j : Nat} {S : Sto} (hw : Wf p M) (hi : i < p) (hj : j < p) : ixD (.tup (dRow (M.getD i []))) (.int (j : Nat)) S = .ok (dL (gt M i j)) S := by
  simp only [ixD, seqOf, atI_nat, dRow_at (show j < (M.getD i []).length by rw [hw.row hi]; exact hj)]
  rfl
theorem ix_rowL {M : Mat} {p i j : Nat} {S : Sto} (hw : Wf p M) (hi : i < p) (hj : j < p) : ixD (.lst (dRow (M.getD i []))) (.int (j : Nat)) S = .ok (dL (gt M i j)) S := by
  simp only [ixD, seqOf, atI_nat, dRow_at (show j < (M.getD i []).length by rw [hw.row hi]; exact hj)]
  rfl
section
variable {S : Sto} {f p k : Nat} {as : List An} {d : DD} {F : FT} {M : Mat} {env : VEnv} {a i j x y : Nat}
theorem ev_T2 {T : Sto} (hw : Wf p M) (h1 : env[a]? = some (some (dTM M))) (h2 : env[i]? = some (some (.int (x : Nat)))) (h3 : env[j]? = some (some (.int (y : Nat)))) (hx : x < p) (hy : y < p) : ev F k none (.ix (.ix (.loc a) (.loc i)) (.loc j)) env T = .ok (dL (gt M x y)) T := by
  simp only [ev, h1, h2, h3, bok, ix_TM hw hx, ix_row hw hx hy]
theorem ev_L2 {T : Sto} (hw : Wf p M) (h1 : env[a]? = some (some (dLM M))) (h2 : env[i]? = some (some (.int (x : Nat)))) (h3 : env[j]? = some (some (.int (y : Nat)))) (hx : x < p) (hy : y < p) : ev F k none (.ix (.ix (.loc a) (.loc i)) (.loc j)) env T = .ok (dL (gt M x y)) T := by
  simp only [ev, h1, h2, h3, bok, ix_LM hw hx, ix_rowL hw hx hy]
def agr (M : Mat) (as : List An) : Bool := as.all fun a => decide (gt M a.1 a.2.1 = a.2.2)
theorem bls_map {α : Type} {g : α → Bool} : ∀ l : List α, blsOf (l.map fun a => DD.bl (g a)) = some (l.map g)
  | [] => rfl
  | a :: l => by simp only [List.map_cons, blsOf, bls_map l, Option.map_some]
theorem f_agrees (hf : 1 ≤ f) (hw : Wf p M) (hv : ValAt S d as) (ha : VA p as) : callF G f 13 [dTM M, d] S = .ok (.bl (agr M as)) S := by
  obtain ⟨m, rfl⟩ : ∃ m, f = m + 1 := ⟨f - 1, by omega⟩
  rw [callF_eq (D := ⟨2, 5, b_agrees, false⟩) rfl rfl]
  show endOf _ S.length (VI.run (callF G m) S.length b_agrees [some (dTM M), some d, none, none, none] S) = _
  let gg : DD → DD := fun y => match y with
    | .tup [.int i, .int j, l] => match ixD (dTM M) (.int i) S with
      | .ok r _ => match ixD r (.int j) S with
        | .ok v _ => match cmpD .eq v l S with
          | .ok b _ => b
          | _ => .non
        | _ => .non
      | _ => .non
    | _ => .non
  have hg : ∀ a ∈ as, gg (dA a) = .bl (decide (gt M a.1 a.2.1 = a.2.2)) := fun a haa => by
    obtain ⟨h1, h2, _, _⟩ := ha.ok a haa
    show (match ixD (dTM M) (.int (a.1 : Nat)) S with
      | .ok r _ => match ixD r (.int (a.2.1 : Nat)) S with
        | .ok v _ => match cmpD .eq v (dL a.2.2) S with
          | .ok b _ => b
          | _ => DD.non
        | _ => .non
      | _ => .non) = _
    rw [ix_TM hw h1]
    simp only [ix_row hw h1 h2, eq_dL]
  have lc := lc_map (F := callF G m) (k := S.length) (c := false) (own := [("i", 2), ("j", 3), ("length", 4)]) (tv := .ttup (.cons (.tloc 2) (.cons (.tloc 3) (.cons (.tloc 4) .nil)))) (elt := .cmp .eq (.ix (.ix (.loc 0) (.loc 2)) (.loc 3)) (.loc 4)) (x := 1) (env := [some (dTM M), some d, none, none, none]) (g := gg) rfl hv.now (fun y hy => by
    obtain ⟨a, haa, rfl⟩ := List.mem_map.mp hy
    obtain ⟨h1, h2, _, _⟩ := ha.ok a haa
    refine ⟨[some (dTM M), some d, some (.int (a.1 : Nat)), some (.int (a.2.1 : Nat)), some (dL a.2.2)], by simp only [asg, asgs, dA, seqOf, bok, List.map_cons, List.map_nil, wipeE, List.set_cons_succ, List.set_cons_zero], ?_⟩
    have e2 := ev_T2 (F := callF G m) (k := S.length) (T := S) (env := [some (dTM M), some d, some (.int (a.1 : Nat)), some (.int (a.2.1 : Nat)), some (dL a.2.2)]) hw (a := 0) (i := 2) (j := 3) rfl rfl rfl h1 h2
    have e3 : ∀ u v : VE, ev (callF G m) S.length none (.cmp .eq u v) [some (dTM M), some d, some (.int (a.1 : Nat)), some (.int (a.2.1 : Nat)), some (dL a.2.2)] S = (ev (callF G m) S.length none u [some (dTM M), some d, some (.int (a.1 : Nat)), some (.int (a.2.1 : Nat)), some (dL a.2.2)] S).bind fun x S' => (ev (callF G m) S.length none v [some (dTM M), some d, some (.int (a.1 : Nat)), some (.int (a.2.1 : Nat)), some (dL a.2.2)] S').bind fun y S' => cmpD .eq x y S' := fun u v => by simp only [ev]
    rw [e3, e2]
    simp only [bok, ev, List.getElem?_cons_succ, List.getElem?_cons_zero, eq_dL, hg a haa]) (by simpa using ha.len)
  have em : (as.map dA).map gg = as.map fun a => DD.bl (decide (gt M a.1 a.2.1 = a.2.2)) := by
    rw [List.map_map]
    exact List.map_congr_left fun a haa => hg a haa
  have rt : ev (callF G m) S.length none (.bi .all false (.cons (.lc false [("i", 2), ("j", 3), ("length", 4)] (.ttup (.cons (.tloc 2) (.cons (.tloc 3) (.cons (.tloc 4) .nil)))) (.iseq (.loc 1)) .nil (.cmp .eq (.ix (.ix (.loc 0) (.loc 2)) (.loc 3)) (.loc 4))) .nil)) [some (dTM M), some d, none, none, none] S = .ok (.bl (agr M as)) S := by
    have e : ∀ ve : VE, ev (callF G m) S.length none (.bi .all false (.cons ve .nil)) [some (dTM M), some d, none, none, none] S = (ev (callF G m) S.length none ve [some (dTM M), some d, none, none, none] S).bind fun x S => biD .all false [x] S := fun ve => by
      simp only [ev, evs, bind_bind, bok]
    rw [e, lc, em]
    show (match blsOf (as.map fun a => DD.bl (decide (gt M a.1 a.2.1 = a.2.2))) with
      | some bs => R.ok (DD.bl (bs.all id)) S
      | none => .stuck) = _
    rw [bls_map]
    simp only [agr, List.all_map]
    rfl
  have tot : VI.run (callF G m) S.length b_agrees [some (dTM M), some d, none, none, none] S = .go (.rt (.bl (agr M as))) [some (dTM M), some d, none, none, none] S := by
    unfold b_agrees
    exact ret_go rt
  rw [tot]
  exact end_rt rfl (Flat.bl _) (take_self S)
theorem f_check_many (hf : 3 ≤ f) (hp : 2 ≤ p ∧ p ≤ 5) : callF G f 6 [.int (p : Nat)] S = .ok .non S := by
  obtain ⟨m, rfl⟩ : ∃ m, f = m + 1 := ⟨f - 1, by omega⟩
  rw [callF_eq (D := ⟨1, 1, b_check_many, false⟩) rfl rfl]
  have h1 : (2 : Int) ≤ (p : Int) := by omega
  have h2 : (p : Int) ≤ 5 := by omega
  have : VI.run (callF G m) S.length b_check_many [some (.int (p : Nat))] S = .go .nx [some (.int (p : Nat))] S := by
    simp [b_check_many, VI.run, ev, evs, evT, bok, sok, gnx, f_is_within (show 2 ≤ m by omega), truR, truD, h1, h2]
  exact (congrArg _ this).trans (end_nx rfl (take_self S))
theorem f_check_asked (hf : 6 ≤ f) (hp : 2 ≤ p ∧ p ≤ 5) (hv : ValAt S d as) (ha : VA p as) : callF G f 14 [.int (p : Nat), d] S = .ok .non S := by
  obtain ⟨m, rfl⟩ : ∃ m, f = m + 1 := ⟨f - 1, by omega⟩
  rw [callF_eq (D := ⟨2, 2, b_check_asked, false⟩) rfl rfl]
  have : VI.run (callF G m) S.length b_check_asked [some (.int (p : Nat)), some d] S = .go .nx [some (.int (p : Nat)), some d] S := by
    simp [b_check_asked, VI.run, ev, evs, evT, bok, sok, gnx, f_check_many (S := S) (show 3 ≤ m by omega) hp, f_are_answers (show 5 ≤ m by omega) hv ha, truR, truD]
  exact (congrArg _ this).trans (end_nx rfl (take_self S))
theorem f_possible (hf : 7 ≤ f) (hp : 2 ≤ p ∧ p ≤ 5) (hv : ValAt S d as) (ha : VA p as) : callF G f 16 [.int (p : Nat), d] S = .ok (.bl (agr (W p as) as)) S := by
  obtain ⟨m, rfl⟩ : ∃ m, f = m + 1 := ⟨f - 1, by omega⟩
  rw [callF_eq (D := ⟨2, 2, b_possible, false⟩) rfl rfl]
  have : VI.run (callF G m) S.length b_possible [some (.int (p : Nat)), some d] S = .go (.rt (.bl (agr (W p as) as))) [some (.int (p : Nat)), some d] S := by
    simp [b_possible, VI.run, ev, evs, bok, sok, gnx, grt, f_check_asked (show 6 ≤ m by omega) hp hv ha, f_greatest_of (show 2 ≤ m by omega) hp hv ha, f_agrees (show 1 ≤ m by omega) (wf_W ha) hv ha]
  exact (congrArg _ this).trans (end_rt rfl (Flat.bl _) (take_self S))
/-- what is given back is what was given -/
def SnapId (S : Sto) (d : DD) : Prop := ∀ T, snap S.length (S ++ T) depthMax d = some d
theorem SnapId.now {S : Sto} {d : DD} (h : SnapId S d) : snap S.length S depthMax d = some d := by have := h []; rwa [List.append_nil] at this
theorem exc_end {D : Df} {c : Nat} {env : VEnv} (hk : D.keep = false) (h : SnapId S d) : endOf D S.length (.exc c d env S) = .exc c d S := by
  show finD D.keep S.length d S (fun d S => .exc c d S) = _
  unfold finD
  rw [hk, h.now]
  simp
theorem f_greatest_table (hf : 7 ≤ f) (hp : 2 ≤ p ∧ p ≤ 5) (hv : ValAt S d as) (ha : VA p as) (hs : SnapId S d) : callF G f 17 [.int (p : Nat), d] S = if agr (W p as) as = true then .ok (dTM (W p as)) S else .exc 3 d S := by
  obtain ⟨m, rfl⟩ : ∃ m, f = m + 1 := ⟨f - 1, by omega⟩
  rw [callF_eq (D := ⟨2, 3, b_greatest_table, false⟩) rfl rfl]
  have g1 := f_check_asked (show 6 ≤ m by omega) hp hv ha
  have g2 := f_greatest_of (show 2 ≤ m by omega) hp hv ha
  have g3 := f_agrees (show 1 ≤ m by omega) (wf_W ha) hv ha
  cases q : agr (W p as) as with
  | true =>
    rw [q] at g3
    have : VI.run (callF G m) S.length b_greatest_table [some (.int (p : Nat)), some d, none] S = .go (.rt (dTM (W p as))) [some (.int (p : Nat)), some d, some (dTM (W p as))] S := by
      simp [b_greatest_table, VI.run, ev, evs, evT, asg, bok, sok, gnx, grt, g1, g2, g3, truR, truD]
    exact (congrArg _ this).trans (end_rt rfl flat_TM (take_self S))
  | false =>
    rw [q] at g3
    have : VI.run (callF G m) S.length b_greatest_table [some (.int (p : Nat)), some d, none] S = .exc 3 d [some (.int (p : Nat)), some d, some (dTM (W p as))] S := by
      simp [b_greatest_table, VI.run, ev, evs, evT, asg, bok, sok, gnx, grt, gexc, g1, g2, g3, truR, truD]
    exact (congrArg _ this).trans (exc_end rfl hs)
end
end K36

set_option Elab.async false
set_option linter.all false
set_option maxRecDepth 100000
set_option maxHeartbeats 4000000
namespace K36
open VI PySem L2
/-! ### a walk over the answers, with an accumulator -/
def goA {α : Type} (g : An → α → Option α) : List An → α → Option α
  | [], c => some c
  | a :: as, c => match g a c with
    | some c => goA g as c
    | none => none
theorem goA_app {α : Type} {g : An → α → Option α} : ∀ {l r : List An} {c : α}, goA g (l ++ r) c = (goA g l c).bind (goA g r)
  | [], r, c => rfl
  | a :: l, r, c => by
    show (match g a c with | some c => goA g (l ++ r) c | none => none) = (match g a c with | some c => goA g l c | none => none).bind _
    cases g a c with
    | none => rfl
    | some c => exact goA_app
theorem goA_next {α : Type} {g : An → α → Option α} {as : List An} {i : Nat} {c0 c : α} (hi : i < as.length) (h : goA g (as.take i) c0 = some c) : goA g (as.take (i + 1)) c0 = g as[i] c ∧ (g as[i] c = none → goA g as c0 = none) := by
  have e : goA g (as.take (i + 1)) c0 = g as[i] c := by
    rw [List.take_succ_eq_append_getElem hi, goA_app, h]
    show (match g as[i] c with | some c => goA g [] c | none => none) = _
    cases g as[i] c <;> rfl
  refine ⟨e, fun q => ?_⟩
  rw [← List.take_append_drop (i + 1) as, goA_app, e, q]
  rfl
section
variable {S : Sto} {f p k : Nat} {as : List An} {d : DD} {F : FT} {M : Mat}
/-- the walk by a for: the accumulator is told by A -/
theorem for_go {α : Type} {g : An → α → Option α} {x t1 t2 t3 : Nat} {env : VEnv} {body : VS} {c0 : α} (A : α → VEnv → Prop) (J : VEnv → Prop) (rv : DD) (hx : env[x]? = some (some d)) (hv : ValAt S d as) (hl : as.length ≤ 1000)
    (step : ∀ a ∈ as, ∀ c e, A c e → J e → (∀ c', g a c = some c' → ∃ e', VI.run F k body (((e.set t1 (some (.int (a.1 : Nat)))).set t2 (some (.int (a.2.1 : Nat)))).set t3 (some (dL a.2.2))) S = .go .nx e' S ∧ A c' e' ∧ J e') ∧
      (g a c = none → ∃ e', VI.run F k body (((e.set t1 (some (.int (a.1 : Nat)))).set t2 (some (.int (a.2.1 : Nat)))).set t3 (some (dL a.2.2))) S = .go (.rt rv) e' S))
    (hA : A c0 env) (hJ : J env) :
    (∃ c env', goA g as c0 = some c ∧ VI.run F k (.fr (.ttup (.cons (.tloc t1) (.cons (.tloc t2) (.cons (.tloc t3) .nil)))) (.iseq (.loc x)) body) env S = .go .nx env' S ∧ A c env' ∧ J env') ∨
    (goA g as c0 = none ∧ ∃ env', VI.run F k (.fr (.ttup (.cons (.tloc t1) (.cons (.tloc t2) (.cons (.tloc t3) .nil)))) (.iseq (.loc x)) body) env S = .go (.rt rv) env' S) := by
  have hI : evI F k none (.iseq (.loc x)) env S = .ok (.seq d) S := by simp only [evI, ev_loc hx, bok, hv.now]
  rw [fr_eq hI]
  have r := forL_ret (j := .seq d) (turn := fun x env S => (asg F k none (.ttup (.cons (.tloc t1) (.cons (.tloc t2) (.cons (.tloc t3) .nil)))) x env S).stm env fun env S => VI.run F k body env S) (fun i e T => T = S ∧ J e ∧ ∃ c, goA g (as.take i) c0 = some c ∧ A c e) (fun r => goA g as c0 = none ∧ ∃ env', r = .go (.rt rv) env' S) (n := as.length) (fun i e T hi h => by
    obtain ⟨rfl, hj, c, hc, ha⟩ := h
    refine ⟨dA as[i], ?_, ?_⟩
    · show (seqOf T d).map (·[i]?) = _
      rw [hv.now]
      show some (as.map dA)[i]? = _
      rw [List.getElem?_map, List.getElem?_eq_getElem hi]
      rfl
    · obtain ⟨s1, s2⟩ := step as[i] (List.getElem_mem hi) c e ha hj
      obtain ⟨n1, n2⟩ := goA_next hi hc
      cases q : g as[i] c with
      | some c' =>
        obtain ⟨e', r, ha', hj'⟩ := s1 c' q
        exact .inl ⟨e', T, asg_tri.trans r, rfl, hj', c', by rw [n1, q], ha'⟩
      | none =>
        obtain ⟨e', r⟩ := s2 q
        exact .inr ⟨rv, e', T, asg_tri.trans r, n2 q, e', rfl⟩) (fun e T h => by
    show (seqOf T d).map (·[as.length]?) = _
    rw [h.1, hv.now]
    show some (as.map dA)[as.length]? = _
    rw [List.getElem?_eq_none (by simp)]) (f := fuelW) (i := 0) (env := env) (S := S) (Nat.zero_le _) (by unfold fuelW; omega) ⟨rfl, hJ, c0, rfl, hA⟩
  rcases r with ⟨env', S', e, rfl, hj, c, hc, ha⟩ | ⟨h1, env', h2⟩
  · rw [List.take_length] at hc
    exact .inl ⟨c, env', hc, e, ha, hj⟩
  · exact .inr ⟨h1, env', h2⟩
/-! ### _law_possible -/
def bad (M : Mat) (a : An) : Bool := match gt M a.1 a.2.1 with
  | some w => (match a.2.2 with
    | none => true
    | some x => decide (w < x))
  | none => false
def gP (M : Mat) (a : An) (_ : Unit) : Option Unit := if bad M a = true then none else some ()
theorem goP {M : Mat} : ∀ {as : List An}, goA (gP M) as () = if as.any (bad M) = true then none else some ()
  | [] => rfl
  | a :: as => by
    have ih := goP (M := M) (as := as)
    rw [List.any_cons]
    cases q : bad M a with
    | true =>
      have e : gP M a () = none := by unfold gP; rw [q]; rfl
      unfold goA
      rw [e]
      rfl
    | false =>
      have e : gP M a () = some () := by unfold gP; rw [q]; rfl
      unfold goA
      rw [e, Bool.false_or]
      exact ih
theorem f_law_possible (hf : 3 ≤ f) (hp : 2 ≤ p ∧ p ≤ 5) (hv : ValAt S d as) (ha : VA p as) : callF G f 32 [.int (p : Nat), d] S = .ok (.bl (!as.any (bad (W p as)))) S := by
  obtain ⟨m, rfl⟩ : ∃ m, f = m + 1 := ⟨f - 1, by omega⟩
  rw [callF_eq (D := ⟨2, 6, b_law_possible, false⟩) rfl rfl]
  show endOf _ S.length (VI.run (callF G m) S.length b_law_possible [some (.int (p : Nat)), some d, none, none, none, none] S) = _
  have g2 := f_law_ways (show 2 ≤ m by omega) hp hv ha
  have s1 : VI.run (callF G m) S.length (.asg (.tloc 2) (.call 31 (.cons (.loc 0) (.cons (.loc 1) .nil)))) [some (.int (p : Nat)), some d, none, none, none, none] S = .go .nx [some (.int (p : Nat)), some d, some (dLM (W p as)), none, none, none] S := by
    simp only [VI.run, ev, evs, List.getElem?_cons_succ, List.getElem?_cons_zero, bok, g2, sok, asg, List.set_cons_succ, List.set_cons_zero]
  have hw := wf_W ha
  have L := for_go (F := callF G m) (k := S.length) (S := S) (d := d) (as := as) (g := gP (W p as)) (x := 1) (t1 := 3) (t2 := 4) (t3 := 5) (env := [some (.int (p : Nat)), some d, some (dLM (W p as)), none, none, none])
    (body := (.seq (.ite (.andv (.cmp .isn (.ix (.ix (.loc 2) (.loc 3)) (.loc 4)) .non) (.orv (.cmp .iss (.loc 5) .non) (.cmp .lt (.ix (.ix (.loc 2) (.loc 3)) (.loc 4)) (.loc 5)))) (.seq (.ret (.bl false)) .skip) .skip) .skip)) (c0 := ()) (fun _ _ => True) (fun e => ∃ u v w, e = [some (.int (p : Nat)), some d, some (dLM (W p as)), u, v, w]) (.bl false) rfl hv ha.len (fun a haa c e _ hj => by
      obtain ⟨u, v, w, rfl⟩ := hj
      obtain ⟨h1, h2, _, _⟩ := ha.ok a haa
      have e2 := ev_L2 (F := callF G m) (k := S.length) (T := S) (env := [some (.int (p : Nat)), some d, some (dLM (W p as)), some (.int (a.1 : Nat)), some (.int (a.2.1 : Nat)), some (dL a.2.2)]) hw (a := 2) (i := 3) (j := 4) rfl rfl rfl h1 h2
      have e5 := ev_loc (F := callF G m) (k := S.length) (T := S) (env := [some (.int (p : Nat)), some d, some (dLM (W p as)), some (.int (a.1 : Nat)), some (.int (a.2.1 : Nat)), some (dL a.2.2)]) (x := 5) rfl
      simp only [List.set_cons_succ, List.set_cons_zero]
      have run : VI.run (callF G m) S.length (.seq (.ite (.andv (.cmp .isn (.ix (.ix (.loc 2) (.loc 3)) (.loc 4)) .non) (.orv (.cmp .iss (.loc 5) .non) (.cmp .lt (.ix (.ix (.loc 2) (.loc 3)) (.loc 4)) (.loc 5)))) (.seq (.ret (.bl false)) .skip) .skip) .skip) [some (.int (p : Nat)), some d, some (dLM (W p as)), some (.int (a.1 : Nat)), some (.int (a.2.1 : Nat)), some (dL a.2.2)] S = if bad (W p as) a = true then .go (.rt (.bl false)) [some (.int (p : Nat)), some d, some (dLM (W p as)), some (.int (a.1 : Nat)), some (.int (a.2.1 : Nat)), some (dL a.2.2)] S else .go .nx [some (.int (p : Nat)), some d, some (dLM (W p as)), some (.int (a.1 : Nat)), some (.int (a.2.1 : Nat)), some (dL a.2.2)] S := by
        unfold bad
        cases q1 : gt (W p as) a.1 a.2.1 with
        | none =>
          rw [q1] at e2
          simp [VI.run, evT, e2, ev_non, bok, isn_dL, of_bl', sok, gnx]
        | some w =>
          rw [q1] at e2
          cases q2 : a.2.2 with
          | none =>
            rw [q2] at e5 e2
            have b0 : ∀ env T, ev (callF G m) S.length none (.bl false) env T = .ok (.bl false) T := fun env T => by simp only [ev]
            simp [VI.run, evT, e2, e5, ev_non, b0, bok, isn_dL, iss_dL, of_bl', sok, gnx, grt]
          | some x =>
            rw [q2] at e5 e2
            have b0 : ∀ env T, ev (callF G m) S.length none (.bl false) env T = .ok (.bl false) T := fun env T => by simp only [ev]
            have c1 : cmpD .lt (dL (some w)) (dL (some x)) S = .ok (.bl (decide (w < x))) S := rfl
            by_cases hz : w < x
            · simp [VI.run, evT, e2, e5, ev_non, b0, bok, isn_dL, iss_dL, of_bl', sok, gnx, grt, c1, hz]
            · simp [VI.run, evT, e2, e5, ev_non, b0, bok, isn_dL, iss_dL, of_bl', sok, gnx, grt, c1, hz]
      refine ⟨fun c' hc' => ?_, fun hn => ?_⟩
      · unfold gP at hc'
        cases q : bad (W p as) a with
        | true => rw [q] at hc'; cases hc'
        | false =>
          rw [q] at run
          exact ⟨_, run, trivial, _, _, _, rfl⟩
      · unfold gP at hn
        cases q : bad (W p as) a with
        | true =>
          rw [q] at run
          exact ⟨_, run⟩
        | false => rw [q] at hn; cases hn) trivial ⟨none, none, none, rfl⟩
  rw [goP] at L
  cases q : as.any (bad (W p as)) with
  | true =>
    rw [q] at L
    rcases L with ⟨c, env', h, _⟩ | ⟨_, env', h⟩
    · cases h
    · have tot : VI.run (callF G m) S.length b_law_possible [some (.int (p : Nat)), some d, none, none, none, none] S = .go (.rt (.bl false)) env' S := by
        unfold b_law_possible
        rw [seq_go s1]
        simp only [VI.run] at h ⊢
        rw [h]
        rfl
      rw [tot]
      exact end_rt rfl (Flat.bl _) (take_self S)
  | false =>
    rw [q] at L
    rcases L with ⟨c, env', _, h, _⟩ | ⟨h, _⟩
    · have tot : VI.run (callF G m) S.length b_law_possible [some (.int (p : Nat)), some d, none, none, none, none] S = .go (.rt (.bl true)) env' S := by
        unfold b_law_possible
        rw [seq_go s1, seq_go h]
        exact ret_go (by simp only [ev])
      rw [tot]
      exact end_rt rfl (Flat.bl _) (take_self S)
    · cases h
end
end K36

set_option Elab.async false
set_option linter.all false
set_option maxRecDepth 100000
set_option maxHeartbeats 4000000
namespace K36
open VI PySem L2
/-! ### the tables, in plain -/
theorem gt_st {n i j : Nat} {M : Mat} {v : LN} (h : Wf n M) (hi : i < n) (hj : j < n) (u w : Nat) : gt (st M i j v) u w = if u = i ∧ w = j then v else gt M u w := by
  have hl : i < M.length := by rw [h.1]; exact hi
  have hr := h.row hi
  unfold gt st
  by_cases hu : u = i
  · subst hu
    have e : (M.set u ((M.getD u []).set j v)).getD u [] = (M.getD u []).set j v := by
      rw [List.getD_eq_getElem?_getD, List.getElem?_set_self hl]; rfl
    rw [e]
    by_cases hw : w = j
    · subst hw
      rw [if_pos ⟨rfl, rfl⟩, List.getD_eq_getElem?_getD, List.getElem?_set_self (by omega)]; rfl
    · rw [if_neg (fun q => hw q.2), List.getD_eq_getElem?_getD, List.getElem?_set_ne (Ne.symm hw), ← List.getD_eq_getElem?_getD]
  · rw [if_neg (fun q => hu q.1), List.getD_eq_getElem?_getD (l := M.set _ _), List.getElem?_set_ne (Ne.symm hu), ← List.getD_eq_getElem?_getD]
def leL (a b : LN) : Prop := ∀ y, b = some y → ∃ x, a = some x ∧ x ≤ y
theorem leL.refl (a : LN) : leL a a := fun y h => ⟨y, h, Int.le_refl y⟩
theorem leL.trans {a b c : LN} (h : leL a b) (g : leL b c) : leL a c := fun y hy => by
  obtain ⟨x, hx, l⟩ := g y hy
  obtain ⟨z, hz, l2⟩ := h x hx
  exact ⟨z, hz, Int.le_trans l2 l⟩
theorem relax_le {n b i j : Nat} {M : Mat} (h : Wf n M) (hi : i < n) (hj : j < n) (u w : Nat) : leL (gt (relax b i j M) u w) (gt M u w) := by
  unfold relax
  split
  · rename_i x y hx hy
    split
    · rename_i hz
      rw [gt_st h hi hj]
      by_cases q : u = i ∧ w = j
      · rw [if_pos q]
        intro z hz'
        rw [q.1, q.2, hz] at hz'
        cases hz'
      · rw [if_neg q]; exact leL.refl _
    · rename_i z hz
      split
      · rename_i hlt
        rw [gt_st h hi hj]
        by_cases q : u = i ∧ w = j
        · rw [if_pos q]
          intro z' hz'
          rw [q.1, q.2, hz] at hz'
          cases hz'
          exact ⟨_, rfl, Int.le_of_lt hlt⟩
        · rw [if_neg q]; exact leL.refl _
      · exact leL.refl _
  · exact leL.refl _
theorem rlJ_le {n b i : Nat} {M : Mat} (h : Wf n M) (hi : i < n) (u w : Nat) : ∀ j, j ≤ n → leL (gt (rlJ b i M j) u w) (gt M u w)
  | 0, _ => leL.refl _
  | j + 1, hj => (relax_le (h.rlJ hi j) hi (by omega) u w).trans (rlJ_le h hi u w j (by omega))
theorem rlI_le {n b : Nat} {M : Mat} (h : Wf n M) (u w : Nat) : ∀ i, i ≤ n → leL (gt (rlI n b M i) u w) (gt M u w)
  | 0, _ => leL.refl _
  | i + 1, hi => (rlJ_le (h.rlI i (by omega)) (by omega) u w n (Nat.le_refl _)).trans (rlI_le h u w i (by omega))
theorem rlB_le {n : Nat} {M : Mat} (h : Wf n M) (u w : Nat) : ∀ b, leL (gt (rlB n M b) u w) (gt M u w)
  | 0 => leL.refl _
  | b + 1 => (rlI_le (h.rlB b) u w n (Nat.le_refl _)).trans (rlB_le h u w b)
theorem diag_ne {n : Nat} {M : Mat} (h : Wf n M) {u w : Nat} (huw : u ≠ w) : ∀ i, i ≤ n → gt (diagTo M i) u w = gt M u w
  | 0, _ => rfl
  | i + 1, hi => by
    show gt (st (diagTo M i) i i (some 0)) u w = _
    rw [gt_st (h.diag i (by omega)) (by omega) (by omega), if_neg (fun q => huw (q.1.trans q.2.symm)), diag_ne h huw i (by omega)]
theorem fill_at {p : Nat} : ∀ {as : List An} {M : Mat}, Wf p M → (∀ a ∈ as, OkA p a) → (as.map fun a => (a.1, a.2.1)).Nodup → ∀ u w, gt (fillN M as) u w = match as.find? (fun a => decide (a.1 = u ∧ a.2.1 = w)) with
    | some a => a.2.2
    | none => gt M u w
  | [], _, _, _, _, _, _ => rfl
  | a :: as, M, h, ho, hn, u, w => by
    obtain ⟨h1, h2, _, _⟩ := ho a List.mem_cons_self
    rw [List.map_cons, List.nodup_cons] at hn
    have ih := fill_at (as := as) (h.st (j := a.2.1) (v := a.2.2) h1) (fun b hb => ho b (List.mem_cons_of_mem _ hb)) hn.2 u w
    show gt (fillN (st M a.1 a.2.1 a.2.2) as) u w = _
    rw [ih, List.find?_cons]
    by_cases q : a.1 = u ∧ a.2.1 = w
    · rw [decide_eq_true q]
      have nf : as.find? (fun a => decide (a.1 = u ∧ a.2.1 = w)) = none := by
        rw [List.find?_eq_none]
        intro b hb e
        have e := of_decide_eq_true e
        exact hn.1 (List.mem_map.mpr ⟨b, hb, by rw [e.1, e.2, q.1, q.2]⟩)
      rw [nf]
      show gt (st M a.1 a.2.1 a.2.2) u w = a.2.2
      rw [gt_st h h1 h2, if_pos ⟨q.1.symm, q.2.symm⟩]
    · rw [decide_eq_false q]
      have e : gt (st M a.1 a.2.1 a.2.2) u w = gt M u w := by
        rw [gt_st h h1 h2, if_neg (fun z => q ⟨z.1.symm, z.2.symm⟩)]
      rw [e]
theorem find_self {as : List An} (hn : (as.map fun a => (a.1, a.2.1)).Nodup) {a : An} (ha : a ∈ as) : as.find? (fun b => decide (b.1 = a.1 ∧ b.2.1 = a.2.1)) = some a := by
  induction as with
  | nil => simp at ha
  | cons b as ih =>
    rw [List.map_cons, List.nodup_cons] at hn
    rw [List.find?_cons]
    rcases List.mem_cons.mp ha with rfl | hm
    · rw [decide_eq_true ⟨rfl, rfl⟩]
    · have : ¬ (b.1 = a.1 ∧ b.2.1 = a.2.1) := fun q => hn.1 (List.mem_map.mpr ⟨a, hm, by rw [q.1, q.2]⟩)
      rw [decide_eq_false this]
      exact ih hn.2 hm
section
variable {p : Nat} {as : List An}
theorem W_le (h : VA p as) {a : An} (ha : a ∈ as) : leL (gt (W p as) a.1 a.2.1) a.2.2 := by
  have hw := wf_fill (wf_zero p) h.lt
  obtain ⟨_, _, hne, _⟩ := h.ok a ha
  have e := fill_at (wf_zero p) h.ok h.nd a.1 a.2.1
  rw [find_self h.nd ha] at e
  have l := rlB_le (hw.diag p (Nat.le_refl _)) a.1 a.2.1 p
  rw [diag_ne hw hne p (Nat.le_refl _), e] at l
  exact l
theorem agr_bad (h : VA p as) : agr (W p as) as = !as.any (bad (W p as)) := by
  have key : ∀ a ∈ as, decide (gt (W p as) a.1 a.2.1 = a.2.2) = !bad (W p as) a := fun a ha => by
    have l := W_le h ha
    unfold bad
    cases q1 : gt (W p as) a.1 a.2.1 with
    | none =>
      cases q2 : a.2.2 with
      | none => rfl
      | some x =>
        obtain ⟨y, hy, _⟩ := l x q2
        rw [q1] at hy; cases hy
    | some w =>
      cases q2 : a.2.2 with
      | none => rfl
      | some x =>
        obtain ⟨y, hy, hle⟩ := l x q2
        rw [q1] at hy; cases hy
        by_cases c : w = x
        · subst c; simp
        · have : w < x := by omega
          simp [c, this]
  unfold agr
  have : ∀ l : List An, (∀ a ∈ l, decide (gt (W p as) a.1 a.2.1 = a.2.2) = !bad (W p as) a) → l.all (fun a => decide (gt (W p as) a.1 a.2.1 = a.2.2)) = !l.any (bad (W p as)) := by
    intro l
    induction l with
    | nil => intro _; rfl
    | cons a l ih =>
      intro hh
      rw [List.all_cons, List.any_cons, hh a List.mem_cons_self, ih fun b hb => hh b (List.mem_cons_of_mem _ hb)]
      cases bad (W p as) a <;> rfl
  exact this as key
/-! ### which posts are reached -/
def Rs (M : Mat) (u v : Nat) : Prop := (gt M u v).isSome = true
theorem Rs_relax {n b i j : Nat} {M : Mat} (h : Wf n M) (hi : i < n) (hj : j < n) (u v : Nat) : Rs (relax b i j M) u v ↔ Rs M u v ∨ (u = i ∧ v = j ∧ Rs M i b ∧ Rs M b j) := by
  unfold Rs relax
  split
  · rename_i x y hx hy
    split
    · rename_i hz
      rw [gt_st h hi hj]
      by_cases q : u = i ∧ v = j
      · rw [if_pos q]; simp [q.1, q.2, hx, hy]
      · rw [if_neg q]
        exact ⟨.inl, fun z => z.elim id fun z => absurd ⟨z.1, z.2.1⟩ q⟩
    · rename_i z hz
      split
      · rw [gt_st h hi hj]
        by_cases q : u = i ∧ v = j
        · rw [if_pos q]; simp [q.1, q.2, hx, hy]
        · rw [if_neg q]
          exact ⟨.inl, fun z => z.elim id fun z => absurd ⟨z.1, z.2.1⟩ q⟩
      · refine ⟨.inl, fun z' => z'.elim id fun z' => ?_⟩
        rw [z'.1, z'.2.1, hz]; rfl
  · rename_i hno
    refine ⟨.inl, fun z => z.elim id fun z => ?_⟩
    obtain ⟨x, hx⟩ := Option.isSome_iff_exists.mp z.2.2.1
    obtain ⟨y, hy⟩ := Option.isSome_iff_exists.mp z.2.2.2
    exact (hno x y hx hy).elim
theorem Rs_J {n b i : Nat} {M : Mat} (h : Wf n M) (hi : i < n) (u v : Nat) : ∀ j, j ≤ n → (Rs (rlJ b i M j) u v ↔ Rs M u v ∨ (u = i ∧ v < j ∧ Rs M i b ∧ Rs M b v))
  | 0, _ => ⟨.inl, fun z => z.elim id fun z => absurd z.2.1 (by omega)⟩
  | j + 1, hj => by
    show Rs (relax b i j (rlJ b i M j)) u v ↔ _
    rw [Rs_relax (h.rlJ hi j) hi (by omega), Rs_J h hi u v j (by omega), Rs_J h hi i b j (by omega), Rs_J h hi b j j (by omega)]
    constructor
    · rintro ((z | ⟨z1, z2, z3, z4⟩) | ⟨rfl, rfl, z3, z4⟩)
      · exact .inl z
      · exact .inr ⟨z1, by omega, z3, z4⟩
      · refine .inr ⟨rfl, by omega, z3.elim id fun z => z.2.2.1, z4.elim id fun z => absurd z.2.1 (by omega)⟩
    · rintro (z | ⟨rfl, z2, z3, z4⟩)
      · exact .inl (.inl z)
      · by_cases q : v = j
        · subst q; exact .inr ⟨rfl, rfl, .inl z3, .inl z4⟩
        · exact .inl (.inr ⟨rfl, by omega, z3, z4⟩)
theorem Rs_I {n b : Nat} {M : Mat} (h : Wf n M) (u v : Nat) : ∀ i, i ≤ n → (Rs (rlI n b M i) u v ↔ Rs M u v ∨ (u < i ∧ v < n ∧ Rs M u b ∧ Rs M b v))
  | 0, _ => ⟨.inl, fun z => z.elim id fun z => absurd z.1 (by omega)⟩
  | i + 1, hi => by
    show Rs (rlJ b i (rlI n b M i) n) u v ↔ _
    rw [Rs_J (h.rlI i (by omega)) (by omega) u v n (Nat.le_refl _), Rs_I h u v i (by omega), Rs_I h i b i (by omega), Rs_I h b v i (by omega)]
    constructor
    · rintro ((z | ⟨z1, z2, z3, z4⟩) | ⟨rfl, z2, z3, z4⟩)
      · exact .inl z
      · exact .inr ⟨by omega, z2, z3, z4⟩
      · refine .inr ⟨by omega, z2, z3.elim id fun z => absurd z.1 (by omega), z4.elim id fun z => z.2.2.2⟩
    · rintro (z | ⟨z1, z2, z3, z4⟩)
      · exact .inl (.inl z)
      · by_cases q : u = i
        · subst q; exact .inr ⟨rfl, z2, .inl z3, .inl z4⟩
        · exact .inl (.inr ⟨by omega, z2, z3, z4⟩)
theorem Rs_B {n : Nat} {M : Mat} (h : Wf n M) : ∀ b, b ≤ n → ∀ x, x < b → ∀ u v, u < n → v < n → Rs (rlB n M b) u x → Rs (rlB n M b) x v → Rs (rlB n M b) u v
  | 0, _ => fun x hx => absurd hx (by omega)
  | b + 1, hb => fun x hx u v hu hv h1 h2 => by
    have ih := Rs_B h b (by omega)
    have e : ∀ u v, u < n → v < n → (Rs (rlB n M (b + 1)) u v ↔ Rs (rlB n M b) u v ∨ (Rs (rlB n M b) u b ∧ Rs (rlB n M b) b v)) := fun u v hu hv => by
      show Rs (rlI n b (rlB n M b) n) u v ↔ _
      rw [Rs_I (h.rlB b) u v n (Nat.le_refl _)]
      exact ⟨fun z => z.imp id fun z => ⟨z.2.2.1, z.2.2.2⟩, fun z => z.imp id fun z => ⟨hu, hv, z.1, z.2⟩⟩
    have hxn : x < n := by omega
    rw [e u x hu hxn] at h1
    rw [e x v hxn hv] at h2
    rw [e u v hu hv]
    by_cases q : x = b
    · subst q
      exact .inr ⟨h1.elim id fun z => z.1, h2.elim id fun z => z.2⟩
    · have hxb : x < b := by omega
      have hbn : b < n := by omega
      rcases h1 with h1 | ⟨h1, h1'⟩
      · rcases h2 with h2 | ⟨h2, h2'⟩
        · exact .inl (ih x hxb u v hu hv h1 h2)
        · exact .inr ⟨ih x hxb u b hu hbn h1 h2, h2'⟩
      · rcases h2 with h2 | ⟨h2, h2'⟩
        · exact .inr ⟨h1, ih x hxb b v hbn hv h1' h2⟩
        · exact .inr ⟨h1, h2'⟩
theorem W_trans (h : VA p as) {u x v : Nat} (hu : u < p) (hx : x < p) (hv : v < p) (h1 : Rs (W p as) u x) (h2 : Rs (W p as) x v) : Rs (W p as) u v :=
  Rs_B ((wf_fill (wf_zero p) h.lt).diag p (Nat.le_refl _)) p (Nat.le_refl _) x hx u v hu hv h1 h2
/-! ### no length below 0 -/
def Nn (M : Mat) : Prop := ∀ u v x, gt M u v = some x → 0 ≤ x
theorem Nn.st {n i j : Nat} {M : Mat} {v : LN} (h : Wf n M) (hi : i < n) (hj : j < n) (hn : Nn M) (hv : okL v) : Nn (st M i j v) := fun u w x hx => by
  rw [gt_st h hi hj] at hx
  split at hx
  · exact hv x hx
  · exact hn u w x hx
theorem Nn.relax {n b i j : Nat} {M : Mat} (h : Wf n M) (hi : i < n) (hj : j < n) (hn : Nn M) : Nn (relax b i j M) := by
  unfold K36.relax
  split
  · rename_i x y hx hy
    have := hn _ _ _ hx
    have := hn _ _ _ hy
    have o : okL (some (x + y)) := fun z hz => by cases hz; omega
    split
    · exact hn.st h hi hj o
    · split
      · exact hn.st h hi hj o
      · exact hn
  · exact hn
theorem Nn.diag {n : Nat} {M : Mat} (h : Wf n M) (hn : Nn M) : ∀ i, i ≤ n → Nn (diagTo M i)
  | 0, _ => hn
  | i + 1, hi => (Nn.diag h hn i (by omega)).st (h.diag i (by omega)) (by omega) (by omega) fun z hz => by cases hz; omega
theorem Nn.rlJ {n b i : Nat} {M : Mat} (h : Wf n M) (hi : i < n) (hn : Nn M) : ∀ j, j ≤ n → Nn (rlJ b i M j)
  | 0, _ => hn
  | j + 1, hj => (Nn.rlJ h hi hn j (by omega)).relax (h.rlJ hi j) hi (by omega)
theorem Nn.rlI {n b : Nat} {M : Mat} (h : Wf n M) (hn : Nn M) : ∀ i, i ≤ n → Nn (rlI n b M i)
  | 0, _ => hn
  | i + 1, hi => (Nn.rlI h hn i (by omega)).rlJ (h.rlI i (by omega)) (by omega) n (Nat.le_refl _)
theorem Nn.rlB {n : Nat} {M : Mat} (h : Wf n M) (hn : Nn M) : ∀ b, Nn (rlB n M b)
  | 0 => hn
  | b + 1 => (Nn.rlB h hn b).rlI (h.rlB b) n (Nat.le_refl _)
theorem Nn.fw {n : Nat} {M : Mat} (h : Wf n M) (hn : Nn M) : Nn (fw n M) := (hn.diag h n (Nat.le_refl _)).rlB (h.diag n (Nat.le_refl _)) n
theorem nn_zero : Nn (zero p) := fun u v x hx => by
  unfold gt zero at hx
  by_cases hu : u < p
  · rw [List.getD_eq_getElem?_getD (l := List.replicate p (List.replicate p none)), List.getElem?_replicate, if_pos hu] at hx
    simp only [Option.getD_some] at hx
    rw [List.getD_eq_getElem?_getD, List.getElem?_replicate] at hx
    split at hx <;> cases hx
  · rw [List.getD_eq_getElem?_getD (l := List.replicate p (List.replicate p none)), List.getElem?_replicate, if_neg hu] at hx
    simp at hx
theorem nn_W (h : VA p as) : Nn (W p as) := by
  refine Nn.fw (wf_fill (wf_zero p) h.lt) fun u v x hx => ?_
  rw [fill_at (wf_zero p) h.ok h.nd] at hx
  split at hx
  · rename_i a ha
    exact (h.ok a (List.mem_of_find?_eq_some ha)).2.2.2 x hx
  · exact nn_zero u v x hx
end
end K36

set_option Elab.async false
set_option linter.all false
set_option maxRecDepth 100000
set_option maxHeartbeats 4000000
namespace K36
open VI PySem L2
def mx (i j : Int) : Int := if j > i then j else i
/-- one answer more: the least length from i to j -/
def gL (M : Mat) (i j : Nat) (a : An) (c : Int) : Option Int := match gt M a.1 i, gt M j a.2.1 with
  | some x, some y => (match a.2.2 with
    | none => none
    | some l => some (mx c (l - x - y)))
  | _, _ => some c
def low (M : Mat) (i j : Nat) (as : List An) : LN := goA (gL M i j) as 0
theorem max_ok (S : Sto) (i j : Int) : biD .max false [.int i, .int j] S = .ok (.int (mx i j)) S := rfl
section
variable {S : Sto} {f p k : Nat} {as : List An} {d : DD} {F : FT} {M : Mat} {i j : Nat}
def liBody : VS := (.seq (.par (.cons (.tloc 8) (.cons (.tloc 9) .nil)) (.cons (.ix (.ix (.loc 0) (.loc 5)) (.loc 2)) (.cons (.ix (.ix (.loc 0) (.loc 3)) (.loc 6)) .nil))) (.seq (.ite (.andv (.cmp .isn (.loc 8) .non) (.cmp .isn (.loc 9) .non)) (.seq (.ite (.cmp .iss (.loc 7) .non) (.seq (.ret .non) .skip) .skip) (.seq (.asg (.tloc 4) (.bi .max false (.cons (.loc 4) (.cons (.bin .sub false (.bin .sub false (.loc 7) (.loc 8)) (.loc 9)) .nil)))) .skip)) .skip) .skip))
theorem f_least_item (hf : 1 ≤ f) (hw : Wf p M) (hv : ValAt S d as) (ha : VA p as) (hi : i < p) (hj : j < p) : callF G f 18 [dTM M, d, .int (i : Nat), .int (j : Nat)] S = .ok (dL (low M i j as)) S := by
  obtain ⟨m, rfl⟩ : ∃ m, f = m + 1 := ⟨f - 1, by omega⟩
  rw [callF_eq (D := ⟨4, 10, b_least_item, false⟩) rfl rfl]
  show endOf _ S.length (VI.run (callF G m) S.length b_least_item [some (dTM M), some d, some (.int (i : Nat)), some (.int (j : Nat)), none, none, none, none, none, none] S) = _
  have s1 : VI.run (callF G m) S.length (.asg (.tloc 4) (.int 0)) [some (dTM M), some d, some (.int (i : Nat)), some (.int (j : Nat)), none, none, none, none, none, none] S = .go .nx [some (dTM M), some d, some (.int (i : Nat)), some (.int (j : Nat)), some (.int 0), none, none, none, none, none] S := by
    simp only [VI.run, ev, sok, asg, List.set_cons_succ, List.set_cons_zero]
  have L := for_go (F := callF G m) (k := S.length) (S := S) (d := d) (as := as) (g := gL M i j) (x := 1) (t1 := 5) (t2 := 6) (t3 := 7) (env := [some (dTM M), some d, some (.int (i : Nat)), some (.int (j : Nat)), some (.int 0), none, none, none, none, none]) (body := liBody) (c0 := 0)
    (fun c e => ∃ u v w x y, e = [some (dTM M), some d, some (.int (i : Nat)), some (.int (j : Nat)), some (.int c), u, v, w, x, y]) (fun _ => True) .non rfl hv ha.len (fun a haa c e hc _ => by
      obtain ⟨u, v, w, x, y, rfl⟩ := hc
      obtain ⟨h1, h2, _, _⟩ := ha.ok a haa
      simp only [List.set_cons_succ, List.set_cons_zero]
      have e1 := ev_T2 (F := callF G m) (k := S.length) (T := S) (env := [some (dTM M), some d, some (.int (i : Nat)), some (.int (j : Nat)), some (.int c), some (.int (a.1 : Nat)), some (.int (a.2.1 : Nat)), some (dL a.2.2), x, y]) hw (a := 0) (i := 5) (j := 2) rfl rfl rfl h1 hi
      have e2 := ev_T2 (F := callF G m) (k := S.length) (T := S) (env := [some (dTM M), some d, some (.int (i : Nat)), some (.int (j : Nat)), some (.int c), some (.int (a.1 : Nat)), some (.int (a.2.1 : Nat)), some (dL a.2.2), x, y]) hw (a := 0) (i := 3) (j := 6) rfl rfl rfl hj h2
      have pr : VI.run (callF G m) S.length (.par (.cons (.tloc 8) (.cons (.tloc 9) .nil)) (.cons (.ix (.ix (.loc 0) (.loc 5)) (.loc 2)) (.cons (.ix (.ix (.loc 0) (.loc 3)) (.loc 6)) .nil))) [some (dTM M), some d, some (.int (i : Nat)), some (.int (j : Nat)), some (.int c), some (.int (a.1 : Nat)), some (.int (a.2.1 : Nat)), some (dL a.2.2), x, y] S = .go .nx [some (dTM M), some d, some (.int (i : Nat)), some (.int (j : Nat)), some (.int c), some (.int (a.1 : Nat)), some (.int (a.2.1 : Nat)), some (dL a.2.2), some (dL (gt M a.1 i)), some (dL (gt M j a.2.1))] S := by
        simp only [VI.run, evs, e1, e2, bok, sok, asgs, asg, List.set_cons_succ, List.set_cons_zero]
      have run : ∀ q, VI.run (callF G m) S.length (.seq (.ite (.andv (.cmp .isn (.loc 8) .non) (.cmp .isn (.loc 9) .non)) (.seq (.ite (.cmp .iss (.loc 7) .non) (.seq (.ret .non) .skip) .skip) (.seq (.asg (.tloc 4) (.bi .max false (.cons (.loc 4) (.cons (.bin .sub false (.bin .sub false (.loc 7) (.loc 8)) (.loc 9)) .nil)))) .skip)) .skip) .skip) [some (dTM M), some d, some (.int (i : Nat)), some (.int (j : Nat)), some (.int c), some (.int (a.1 : Nat)), some (.int (a.2.1 : Nat)), some (dL a.2.2), some (dL (gt M a.1 i)), some (dL (gt M j a.2.1))] S = q ↔ (match gL M i j a c with
          | some c' => RS.go .nx [some (dTM M), some d, some (.int (i : Nat)), some (.int (j : Nat)), some (.int c'), some (.int (a.1 : Nat)), some (.int (a.2.1 : Nat)), some (dL a.2.2), some (dL (gt M a.1 i)), some (dL (gt M j a.2.1))] S
          | none => RS.go (.rt .non) [some (dTM M), some d, some (.int (i : Nat)), some (.int (j : Nat)), some (.int c), some (.int (a.1 : Nat)), some (.int (a.2.1 : Nat)), some (dL a.2.2), some (dL (gt M a.1 i)), some (dL (gt M j a.2.1))] S) = q := fun q => by
        unfold gL
        cases q1 : gt M a.1 i with
        | none => simp [VI.run, ev, evT, bok, sok, gnx, isn_dL, of_bl']
        | some x1 =>
          cases q2 : gt M j a.2.1 with
          | none => simp [VI.run, ev, evT, bok, sok, gnx, isn_dL, of_bl']
          | some y1 =>
            cases q3 : a.2.2 with
            | none => simp [VI.run, ev, evT, bok, sok, gnx, grt, isn_dL, iss_dL, of_bl']
            | some l =>
              have b1 : ∀ T, binD .sub false (dL (some l)) (dL (some x1)) T = .ok (.int (l - x1)) T := fun _ => rfl
              have b2 : ∀ T, binD .sub false (.int (l - x1)) (dL (some y1)) T = .ok (.int (l - x1 - y1)) T := fun _ => rfl
              simp [VI.run, ev, evs, evT, asg, bok, sok, gnx, grt, isn_dL, iss_dL, of_bl', b1, b2, max_ok]
      refine ⟨fun c' hc' => ?_, fun hn => ?_⟩
      · refine ⟨[some (dTM M), some d, some (.int (i : Nat)), some (.int (j : Nat)), some (.int c'), some (.int (a.1 : Nat)), some (.int (a.2.1 : Nat)), some (dL a.2.2), some (dL (gt M a.1 i)), some (dL (gt M j a.2.1))], ?_, ⟨_, _, _, _, _, rfl⟩, trivial⟩
        unfold liBody
        rw [seq_go pr]
        rw [run, hc']
      · refine ⟨[some (dTM M), some d, some (.int (i : Nat)), some (.int (j : Nat)), some (.int c), some (.int (a.1 : Nat)), some (.int (a.2.1 : Nat)), some (dL a.2.2), some (dL (gt M a.1 i)), some (dL (gt M j a.2.1))], ?_⟩
        unfold liBody
        rw [seq_go pr]
        rw [run, hn]) ⟨_, _, _, _, _, rfl⟩ trivial
  unfold low
  rcases L with ⟨c, env', h, r, ⟨u1, u2, u3, u4, u5, rfl⟩, _⟩ | ⟨h, env', r⟩
  · have tot : VI.run (callF G m) S.length b_least_item [some (dTM M), some d, some (.int (i : Nat)), some (.int (j : Nat)), none, none, none, none, none, none] S = .go (.rt (.int c)) [some (dTM M), some d, some (.int (i : Nat)), some (.int (j : Nat)), some (.int c), u1, u2, u3, u4, u5] S := by
      unfold b_least_item
      rw [seq_go s1]
      unfold liBody at r
      rw [seq_go r]
      exact ret_go (by simp only [ev, List.getElem?_cons_succ, List.getElem?_cons_zero])
    rw [tot, h]
    exact end_rt rfl (Flat.int _) (take_self S)
  · have tot : VI.run (callF G m) S.length b_least_item [some (dTM M), some d, some (.int (i : Nat)), some (.int (j : Nat)), none, none, none, none, none, none] S = .go (.rt .non) env' S := by
      unfold b_least_item
      rw [seq_go s1]
      unfold liBody at r
      simp only [VI.run] at r ⊢
      rw [r]
      rfl
    rw [tot, h]
    exact end_rt rfl Flat.non (take_self S)
end
end K36

set_option Elab.async false
set_option linter.all false
set_option maxRecDepth 100000
set_option maxHeartbeats 4000000
namespace K36
open VI PySem L2
section
variable {S : Sto} {f p k : Nat} {as : List An} {d : DD} {F : FT} {M : Mat} {i j : Nat}
/-- what _law_range tells -/
def rng (M : Mat) (i j : Nat) (as : List An) : LN × LN := match low M i j as with
  | some c => (some c, gt M i j)
  | none => (none, none)
theorem flat_dL (v : LN) : Flat (dL v) := fun _ _ => by cases v <;> rfl
theorem flat_two (u v : LN) : Flat (.tup [dL u, dL v]) := fun k T => by
  show (mapO (snap k T 23) [dL u, dL v]).map DD.tup = _
  simp only [mapO, snap_dL, Option.map_some]
def lrBody : VS := (.seq (.ite (.andv (.cmp .isn (.ix (.ix (.loc 4) (.loc 6)) (.loc 2)) .non) (.cmp .isn (.ix (.ix (.loc 4) (.loc 3)) (.loc 7)) .non)) (.seq (.ite (.cmp .iss (.loc 8) .non) (.seq (.ret (.tup (.cons .non (.cons .non .nil)))) .skip) .skip) (.seq (.asg (.tloc 5) (.bi .max false (.cons (.loc 5) (.cons (.bin .sub false (.bin .sub false (.loc 8) (.ix (.ix (.loc 4) (.loc 6)) (.loc 2))) (.ix (.ix (.loc 4) (.loc 3)) (.loc 7))) .nil)))) .skip)) .skip) .skip)
theorem f_law_range (hf : 3 ≤ f) (hp : 2 ≤ p ∧ p ≤ 5) (hv : ValAt S d as) (ha : VA p as) (hi : i < p) (hj : j < p) : callF G f 33 [.int (p : Nat), d, .int (i : Nat), .int (j : Nat)] S = .ok (.tup [dL (rng (W p as) i j as).1, dL (rng (W p as) i j as).2]) S := by
  obtain ⟨m, rfl⟩ : ∃ m, f = m + 1 := ⟨f - 1, by omega⟩
  rw [callF_eq (D := ⟨4, 9, b_law_range, false⟩) rfl rfl]
  show endOf _ S.length (VI.run (callF G m) S.length b_law_range [some (.int (p : Nat)), some d, some (.int (i : Nat)), some (.int (j : Nat)), none, none, none, none, none] S) = _
  have g2 := f_law_ways (show 2 ≤ m by omega) hp hv ha
  have hw := wf_W ha
  have s1 : VI.run (callF G m) S.length (.par (.cons (.tloc 4) (.cons (.tloc 5) .nil)) (.cons (.call 31 (.cons (.loc 0) (.cons (.loc 1) .nil))) (.cons (.int 0) .nil))) [some (.int (p : Nat)), some d, some (.int (i : Nat)), some (.int (j : Nat)), none, none, none, none, none] S = .go .nx [some (.int (p : Nat)), some d, some (.int (i : Nat)), some (.int (j : Nat)), some (dLM (W p as)), some (.int 0), none, none, none] S := by
    simp only [VI.run, ev, evs, List.getElem?_cons_succ, List.getElem?_cons_zero, bok, g2, sok, asgs, asg, List.set_cons_succ, List.set_cons_zero]
  have L := for_go (F := callF G m) (k := S.length) (S := S) (d := d) (as := as) (g := gL (W p as) i j) (x := 1) (t1 := 6) (t2 := 7) (t3 := 8) (env := [some (.int (p : Nat)), some d, some (.int (i : Nat)), some (.int (j : Nat)), some (dLM (W p as)), some (.int 0), none, none, none]) (body := lrBody) (c0 := 0)
    (fun c e => ∃ u v w, e = [some (.int (p : Nat)), some d, some (.int (i : Nat)), some (.int (j : Nat)), some (dLM (W p as)), some (.int c), u, v, w]) (fun _ => True) (.tup [.non, .non]) rfl hv ha.len (fun a haa c e hc _ => by
      obtain ⟨u, v, w, rfl⟩ := hc
      obtain ⟨h1, h2, _, _⟩ := ha.ok a haa
      simp only [List.set_cons_succ, List.set_cons_zero]
      have e1 := ev_L2 (F := callF G m) (k := S.length) (T := S) (env := [some (.int (p : Nat)), some d, some (.int (i : Nat)), some (.int (j : Nat)), some (dLM (W p as)), some (.int c), some (.int (a.1 : Nat)), some (.int (a.2.1 : Nat)), some (dL a.2.2)]) hw (a := 4) (i := 6) (j := 2) rfl rfl rfl h1 hi
      have e2 := ev_L2 (F := callF G m) (k := S.length) (T := S) (env := [some (.int (p : Nat)), some d, some (.int (i : Nat)), some (.int (j : Nat)), some (dLM (W p as)), some (.int c), some (.int (a.1 : Nat)), some (.int (a.2.1 : Nat)), some (dL a.2.2)]) hw (a := 4) (i := 3) (j := 7) rfl rfl rfl hj h2
      have l8 := fun T => ev_loc (F := callF G m) (k := S.length) (T := T) (env := [some (.int (p : Nat)), some d, some (.int (i : Nat)), some (.int (j : Nat)), some (dLM (W p as)), some (.int c), some (.int (a.1 : Nat)), some (.int (a.2.1 : Nat)), some (dL a.2.2)]) (x := 8) rfl
      have l5 := fun T => ev_loc (F := callF G m) (k := S.length) (T := T) (env := [some (.int (p : Nat)), some d, some (.int (i : Nat)), some (.int (j : Nat)), some (dLM (W p as)), some (.int c), some (.int (a.1 : Nat)), some (.int (a.2.1 : Nat)), some (dL a.2.2)]) (x := 5) rfl
      have nn : ∀ env T, ev (callF G m) S.length none (.tup (.cons .non (.cons .non .nil))) env T = .ok (.tup [.non, .non]) T := fun env T => by
        simp only [ev, evs, bok]
        rfl
      have run : VI.run (callF G m) S.length lrBody [some (.int (p : Nat)), some d, some (.int (i : Nat)), some (.int (j : Nat)), some (dLM (W p as)), some (.int c), some (.int (a.1 : Nat)), some (.int (a.2.1 : Nat)), some (dL a.2.2)] S = (match gL (W p as) i j a c with
          | some c' => RS.go .nx [some (.int (p : Nat)), some d, some (.int (i : Nat)), some (.int (j : Nat)), some (dLM (W p as)), some (.int c'), some (.int (a.1 : Nat)), some (.int (a.2.1 : Nat)), some (dL a.2.2)] S
          | none => RS.go (.rt (.tup [.non, .non])) [some (.int (p : Nat)), some d, some (.int (i : Nat)), some (.int (j : Nat)), some (dLM (W p as)), some (.int c), some (.int (a.1 : Nat)), some (.int (a.2.1 : Nat)), some (dL a.2.2)] S) := by
        unfold gL lrBody
        cases q1 : gt (W p as) a.1 i with
        | none =>
          rw [q1] at e1
          simp [VI.run, evT, e1, ev_non, bok, sok, gnx, isn_dL, of_bl']
        | some x1 =>
          rw [q1] at e1
          cases q2 : gt (W p as) j a.2.1 with
          | none =>
            rw [q2] at e2
            simp [VI.run, evT, e1, e2, ev_non, bok, sok, gnx, isn_dL, of_bl']
          | some y1 =>
            rw [q2] at e2
            cases q3 : a.2.2 with
            | none =>
              rw [q3] at l8 e1 e2
              simp [VI.run, evT, e1, e2, ev_non, l8, nn, bok, sok, gnx, grt, isn_dL, iss_dL, of_bl']
            | some l =>
              rw [q3] at l8 e1 e2 l5
              have b1 : binD .sub false (dL (some l)) (dL (some x1)) S = .ok (.int (l - x1)) S := rfl
              have b2 : binD .sub false (.int (l - x1)) (dL (some y1)) S = .ok (.int (l - x1 - y1)) S := rfl
              have sb : ev (callF G m) S.length none (.bi .max false (.cons (.loc 5) (.cons (.bin .sub false (.bin .sub false (.loc 8) (.ix (.ix (.loc 4) (.loc 6)) (.loc 2))) (.ix (.ix (.loc 4) (.loc 3)) (.loc 7))) .nil))) [some (.int (p : Nat)), some d, some (.int (i : Nat)), some (.int (j : Nat)), some (dLM (W p as)), some (.int c), some (.int (a.1 : Nat)), some (.int (a.2.1 : Nat)), some (dL (some l))] S = .ok (.int (mx c (l - x1 - y1))) S := by
                have u : ∀ A B C D : VE, ∀ env, ev (callF G m) S.length none (.bi .max false (.cons A (.cons (.bin .sub false (.bin .sub false B C) D) .nil))) env S = (ev (callF G m) S.length none A env S).bind fun a S1 => ((ev (callF G m) S.length none B env S1).bind fun b S2 => (ev (callF G m) S.length none C env S2).bind fun c S3 => (binD .sub false b c S3).bind fun bc S4 => (ev (callF G m) S.length none D env S4).bind fun e S5 => (binD .sub false bc e S5).bind fun r S6 => biD .max false [a, r] S6) := fun A B C D env => by
                  simp only [ev, evs, bind_bind, bok]
                rw [u, l5]
                simp only [bok, l8, e1, b1, e2, b2, max_ok]
              simp [VI.run, evT, e1, e2, ev_non, l8, sb, asg, bok, sok, gnx, grt, isn_dL, iss_dL, of_bl']
      refine ⟨fun c' hc' => ?_, fun hn => ?_⟩
      · rw [hc'] at run
        exact ⟨_, run, ⟨_, _, _, rfl⟩, trivial⟩
      · rw [hn] at run
        exact ⟨_, run⟩) ⟨_, _, _, rfl⟩ trivial
  unfold rng low
  rcases L with ⟨c, env', h, r, ⟨u1, u2, u3, rfl⟩, _⟩ | ⟨h, env', r⟩
  · have e2 := ev_L2 (F := callF G m) (k := S.length) (T := S) (env := [some (.int (p : Nat)), some d, some (.int (i : Nat)), some (.int (j : Nat)), some (dLM (W p as)), some (.int c), u1, u2, u3]) hw (a := 4) (i := 2) (j := 3) rfl rfl rfl hi hj
    have rt : ev (callF G m) S.length none (.tup (.cons (.loc 5) (.cons (.ix (.ix (.loc 4) (.loc 2)) (.loc 3)) .nil))) [some (.int (p : Nat)), some d, some (.int (i : Nat)), some (.int (j : Nat)), some (dLM (W p as)), some (.int c), u1, u2, u3] S = .ok (.tup [.int c, dL (gt (W p as) i j)]) S := by
      have u : ∀ A : VE, ev (callF G m) S.length none (.tup (.cons (.loc 5) (.cons A .nil))) [some (.int (p : Nat)), some d, some (.int (i : Nat)), some (.int (j : Nat)), some (dLM (W p as)), some (.int c), u1, u2, u3] S = (ev (callF G m) S.length none A [some (.int (p : Nat)), some d, some (.int (i : Nat)), some (.int (j : Nat)), some (dLM (W p as)), some (.int c), u1, u2, u3] S).bind fun b S => if 2 ≤ lenMax then .ok (.tup [.int c, b]) S else .stuck := fun A => by
        simp only [ev, evs, List.getElem?_cons_succ, List.getElem?_cons_zero, bind_bind, bok]
        rfl
      rw [u, e2]
      simp only [bok]
      rw [if_pos (by unfold lenMax; omega)]
    have tot : VI.run (callF G m) S.length b_law_range [some (.int (p : Nat)), some d, some (.int (i : Nat)), some (.int (j : Nat)), none, none, none, none, none] S = .go (.rt (.tup [.int c, dL (gt (W p as) i j)])) [some (.int (p : Nat)), some d, some (.int (i : Nat)), some (.int (j : Nat)), some (dLM (W p as)), some (.int c), u1, u2, u3] S := by
      unfold b_law_range
      rw [seq_go s1]
      unfold lrBody at r
      rw [seq_go r]
      exact ret_go rt
    rw [tot, h]
    exact end_rt rfl (flat_two (some c) _) (take_self S)
  · have tot : VI.run (callF G m) S.length b_law_range [some (.int (p : Nat)), some d, some (.int (i : Nat)), some (.int (j : Nat)), none, none, none, none, none] S = .go (.rt (.tup [.non, .non])) env' S := by
      unfold b_law_range
      rw [seq_go s1]
      unfold lrBody at r
      simp only [VI.run] at r ⊢
      rw [r]
      rfl
    rw [tot, h]
    exact end_rt rfl (flat_two none none) (take_self S)
end
end K36

set_option Elab.async false
set_option linter.all false
set_option maxRecDepth 100000
set_option maxHeartbeats 4000000
namespace K36
open VI PySem L2
theorem goA_none {α : Type} {g : An → α → Option α} : ∀ {as : List An} {c : α}, goA g as c = none → ∃ a ∈ as, ∃ c', g a c' = none
  | [], c, h => by cases h
  | a :: as, c, h => by
    unfold goA at h
    cases q : g a c with
    | none => exact ⟨a, List.mem_cons_self, c, q⟩
    | some c1 =>
      rw [q] at h
      obtain ⟨b, hb, r⟩ := goA_none (as := as) h
      exact ⟨b, List.mem_cons_of_mem _ hb, r⟩
section
variable {S : Sto} {f p k : Nat} {as : List An} {d : DD} {F : FT} {M : Mat} {i j : Nat}
/-- what is not bounded has no way -/
theorem low_none (ha : VA p as) (hg : agr (W p as) as = true) (hi : i < p) (hj : j < p) (h : low (W p as) i j as = none) : gt (W p as) i j = none := by
  obtain ⟨a, haa, c, hc⟩ := goA_none h
  obtain ⟨h1, h2, _, _⟩ := ha.ok a haa
  have e := List.all_eq_true.mp hg a haa
  have e := of_decide_eq_true e
  unfold gL at hc
  split at hc
  · rename_i x y hx hy
    split at hc
    · rename_i hl
      cases q : gt (W p as) i j with
      | none => rfl
      | some z =>
        have r1 : Rs (W p as) a.1 i := by unfold Rs; rw [hx]; rfl
        have r2 : Rs (W p as) i j := by unfold Rs; rw [q]; rfl
        have r3 : Rs (W p as) j a.2.1 := by unfold Rs; rw [hy]; rfl
        have r4 := W_trans ha h1 hj h2 (W_trans ha h1 hi hj r1 r2) r3
        unfold Rs at r4
        rw [e, hl] at r4
        cases r4
    · cases hc
  · cases hc
theorem rng_of (ha : VA p as) (hg : agr (W p as) as = true) (hi : i < p) (hj : j < p) : rng (W p as) i j as = (low (W p as) i j as, gt (W p as) i j) := by
  unfold rng
  cases q : low (W p as) i j as with
  | some c => rfl
  | none => rw [low_none ha hg hi hj q]
theorem f_check_post (hf : 3 ≤ f) (hi : i < p) : callF G f 7 [.int (p : Nat), .int (i : Nat)] S = .ok .non S := by
  obtain ⟨m, rfl⟩ : ∃ m, f = m + 1 := ⟨f - 1, by omega⟩
  rw [callF_eq (D := ⟨2, 2, b_check_post, false⟩) rfl rfl]
  have : VI.run (callF G m) S.length b_check_post [some (.int (p : Nat)), some (.int (i : Nat))] S = .go .nx [some (.int (p : Nat)), some (.int (i : Nat))] S := by
    simp [b_check_post, VI.run, ev, evs, evT, bok, sok, gnx, f_is_index (show 2 ≤ m by omega), truR, truD, hi]
  exact (congrArg _ this).trans (end_nx rfl (take_self S))
theorem f_check_two (hf : 4 ≤ f) (hi : i < p) (hj : j < p) (hne : i ≠ j) : callF G f 15 [.int (p : Nat), .int (i : Nat), .int (j : Nat)] S = .ok .non S := by
  obtain ⟨m, rfl⟩ : ∃ m, f = m + 1 := ⟨f - 1, by omega⟩
  rw [callF_eq (D := ⟨3, 3, b_check_two, false⟩) rfl rfl]
  have n1 : ¬ ((i : Int) = (j : Int)) := by omega
  have : VI.run (callF G m) S.length b_check_two [some (.int (p : Nat)), some (.int (i : Nat)), some (.int (j : Nat))] S = .go .nx [some (.int (p : Nat)), some (.int (i : Nat)), some (.int (j : Nat))] S := by
    simp [b_check_two, VI.run, ev, evs, evT, bok, sok, gnx, f_check_post (S := S) (show 3 ≤ m by omega) hi, f_check_post (S := S) (show 3 ≤ m by omega) hj, eq_int, of_bl', n1]
  exact (congrArg _ this).trans (end_nx rfl (take_self S))
theorem f_between (hf : 8 ≤ f) (hp : 2 ≤ p ∧ p ≤ 5) (hv : ValAt S d as) (ha : VA p as) (hs : SnapId S d) (hi : i < p) (hj : j < p) (hne : i ≠ j) :
    callF G f 19 [.int (p : Nat), d, .int (i : Nat), .int (j : Nat)] S = if agr (W p as) as = true then .ok (.tup [dL (rng (W p as) i j as).1, dL (rng (W p as) i j as).2]) S else .exc 3 d S := by
  obtain ⟨m, rfl⟩ : ∃ m, f = m + 1 := ⟨f - 1, by omega⟩
  rw [callF_eq (D := ⟨4, 5, b_between, false⟩) rfl rfl]
  have g1 := f_greatest_table (show 7 ≤ m by omega) hp hv ha hs
  have g2 := f_check_two (S := S) (show 4 ≤ m by omega) hi hj hne
  have g3 := f_least_item (show 1 ≤ m by omega) (wf_W ha) hv ha hi hj
  cases q : agr (W p as) as with
  | true =>
    rw [q, if_pos rfl] at g1
    rw [rng_of ha q hi hj]
    have e2 := ev_T2 (F := callF G m) (k := S.length) (T := S) (env := [some (.int (p : Nat)), some d, some (.int (i : Nat)), some (.int (j : Nat)), some (dTM (W p as))]) (wf_W ha) (a := 4) (i := 2) (j := 3) rfl rfl rfl hi hj
    have rt : ev (callF G m) S.length none (.tup (.cons (.call 18 (.cons (.loc 4) (.cons (.loc 1) (.cons (.loc 2) (.cons (.loc 3) .nil))))) (.cons (.ix (.ix (.loc 4) (.loc 2)) (.loc 3)) .nil))) [some (.int (p : Nat)), some d, some (.int (i : Nat)), some (.int (j : Nat)), some (dTM (W p as))] S = .ok (.tup [dL (low (W p as) i j as), dL (gt (W p as) i j)]) S := by
      have u : ∀ A B : VE, ∀ env, ev (callF G m) S.length none (.tup (.cons A (.cons B .nil))) env S = (ev (callF G m) S.length none A env S).bind fun a S1 => (ev (callF G m) S.length none B env S1).bind fun b S2 => if 2 ≤ lenMax then .ok (.tup [a, b]) S2 else .stuck := fun A B env => by
        simp only [ev, evs, bind_bind, bok]
        rfl
      rw [u]
      have c : ev (callF G m) S.length none (.call 18 (.cons (.loc 4) (.cons (.loc 1) (.cons (.loc 2) (.cons (.loc 3) .nil))))) [some (.int (p : Nat)), some d, some (.int (i : Nat)), some (.int (j : Nat)), some (dTM (W p as))] S = .ok (dL (low (W p as) i j as)) S := by
        simp only [ev, evs, List.getElem?_cons_succ, List.getElem?_cons_zero, bok, g3]
      rw [c]
      simp only [bok, e2]
      rw [if_pos (by unfold lenMax; omega)]
    have s1 : VI.run (callF G m) S.length (.asg (.tloc 4) (.call 17 (.cons (.loc 0) (.cons (.loc 1) .nil)))) [some (.int (p : Nat)), some d, some (.int (i : Nat)), some (.int (j : Nat)), none] S = .go .nx [some (.int (p : Nat)), some d, some (.int (i : Nat)), some (.int (j : Nat)), some (dTM (W p as))] S := by
      simp only [VI.run, ev, evs, List.getElem?_cons_succ, List.getElem?_cons_zero, bok, g1, sok, asg, List.set_cons_succ, List.set_cons_zero]
    have s2 : VI.run (callF G m) S.length (.exp (.call 15 (.cons (.loc 0) (.cons (.loc 2) (.cons (.loc 3) .nil))))) [some (.int (p : Nat)), some d, some (.int (i : Nat)), some (.int (j : Nat)), some (dTM (W p as))] S = .go .nx [some (.int (p : Nat)), some d, some (.int (i : Nat)), some (.int (j : Nat)), some (dTM (W p as))] S := by
      simp only [VI.run, ev, evs, List.getElem?_cons_succ, List.getElem?_cons_zero, bok, g2, sok]
    have : VI.run (callF G m) S.length b_between [some (.int (p : Nat)), some d, some (.int (i : Nat)), some (.int (j : Nat)), none] S = .go (.rt (.tup [dL (low (W p as) i j as), dL (gt (W p as) i j)])) [some (.int (p : Nat)), some d, some (.int (i : Nat)), some (.int (j : Nat)), some (dTM (W p as))] S := by
      unfold b_between
      rw [seq_go s1, seq_go s2]
      exact ret_go rt
    exact (congrArg _ this).trans (end_rt rfl (flat_two _ _) (take_self S))
  | false =>
    rw [q, if_neg (by simp)] at g1
    have : VI.run (callF G m) S.length b_between [some (.int (p : Nat)), some d, some (.int (i : Nat)), some (.int (j : Nat)), none] S = .exc 3 d [some (.int (p : Nat)), some d, some (.int (i : Nat)), some (.int (j : Nat)), none] S := by
      simp only [b_between, VI.run, ev, evs, List.getElem?_cons_succ, List.getElem?_cons_zero, bok, g1, sexc, gexc]
    exact (congrArg _ this).trans (exc_end rfl hs)
/-! ### pairs -/
def pairsOf (p : Nat) : List (Nat × Nat) := (List.range p).flatMap fun i => ((List.range p).filter fun j => decide (i ≠ j)).map fun j => (i, j)
def dP (q : Nat × Nat) : DD := .tup [.int (q.1 : Nat), .int (q.2 : Nat)]
theorem pairs_mem {p i j : Nat} : (i, j) ∈ pairsOf p ↔ i < p ∧ j < p ∧ i ≠ j := by
  unfold pairsOf
  simp only [List.mem_flatMap, List.mem_range, List.mem_map, List.mem_filter, decide_eq_true_eq, Prod.mk.injEq]
  constructor
  · rintro ⟨a, ha, b, ⟨hb, hne⟩, rfl, rfl⟩
    exact ⟨ha, hb, hne⟩
  · rintro ⟨h1, h2, h3⟩
    exact ⟨i, h1, j, ⟨h2, h3⟩, rfl, rfl⟩
/-- a walk over a range that adds: from acc -/
theorem compL_rng {turn : DD → List DD → Sto → R (List DD)} {n : Nat} {g : Nat → List DD} (acc0 : List DD) (hn : n ≤ 1000) (ht : ∀ i, i < n → ∀ acc : List DD, acc.length ≤ acc0.length + ((List.range n).flatMap g).length → turn (.int (i : Nat)) acc S = .ok (acc ++ g i) S) :
    compL (.rng 0 n) turn fuelW 0 acc0 S = .ok (acc0 ++ (List.range n).flatMap g) S := by
  have lenle : ∀ i, i ≤ n → ((List.range i).flatMap g).length ≤ ((List.range n).flatMap g).length := fun i hi => by
    have : List.range n = List.range i ++ (List.range (n - i)).map (i + ·) := by
      rw [← List.range_add]; congr 1; omega
    rw [this, List.flatMap_append, List.length_append]
    omega
  obtain ⟨acc', S', h, e1, e2⟩ := compL_inv (j := .rng 0 n) (turn := turn) (fun i a T => T = S ∧ a = acc0 ++ (List.range i).flatMap g) (n := n) (fun i a T hi h => by
    obtain ⟨rfl, rfl⟩ := h
    refine ⟨.int (i : Nat), _, T, rng_lt _ hi, ht i hi _ ?_, rfl, ?_⟩
    · rw [List.length_append]
      have := lenle i (by omega)
      omega
    · rw [List.range_succ, List.flatMap_append, List.append_assoc, List.flatMap_cons, List.flatMap_nil, List.append_nil]) (fun a T h => rng_end T) (f := fuelW) (i := 0) (acc := acc0) (S := S) (Nat.zero_le _) (by unfold fuelW; omega) ⟨rfl, by simp⟩
  rw [h, e1, e2]
theorem add_ok' {acc : List DD} {y : DD} (h : acc.length ≤ 1000) : addL acc y S = .ok (acc ++ [y]) S := by
  unfold addL
  rw [if_pos (by unfold lenMax; omega)]
def rowP (p i : Nat) : List DD := ((List.range p).filter fun j => decide (i ≠ j)).map fun j => dP (i, j)
theorem rowP_eq {p i : Nat} : (List.range p).flatMap (fun j => if i ≠ j then [dP (i, j)] else []) = rowP p i := by
  unfold rowP
  generalize List.range p = l
  induction l with
  | nil => rfl
  | cons a l ih =>
    rw [List.flatMap_cons, ih, List.filter_cons]
    by_cases h : i = a
    · subst h; simp
    · simp [h]
theorem pairs_dP {p : Nat} : (List.range p).flatMap (rowP p) = (pairsOf p).map dP := by
  unfold pairsOf
  rw [List.map_flatMap]
  congr 1
  funext i
  rw [List.map_map]
  rfl
theorem rowP_len {p i : Nat} : (rowP p i).length ≤ p := by
  unfold rowP
  rw [List.length_map]
  exact Nat.le_trans (List.length_filter_le _ _) (by simp)
end
end K36

set_option Elab.async false
set_option linter.all false
set_option maxRecDepth 100000
set_option maxHeartbeats 4000000
namespace K36
open VI PySem L2
section
variable {S : Sto} {f p k : Nat} {as : List An} {d : DD} {F : FT} {M : Mat} {i j : Nat}
/-- the pairs that settled tells -/
def setl (M : Mat) (as : List An) (p : Nat) : List (Nat × Nat) := (pairsOf p).filter fun q => decide (low M q.1 q.2 as = gt M q.1 q.2)
theorem rows_len {p n : Nat} (hn : n ≤ 5) (hp : p ≤ 5) : ((List.range n).flatMap (rowP p)).length ≤ 25 := by
  have : ∀ n, ((List.range n).flatMap (rowP p)).length ≤ n * p := fun n => by
    induction n with
    | zero => simp
    | succ n ih =>
      rw [List.range_succ, List.flatMap_append, List.length_append, List.flatMap_cons, List.flatMap_nil, List.append_nil]
      have := rowP_len (p := p) (i := n)
      have e : (n + 1) * p = n * p + p := Nat.succ_mul n p
      omega
  have h := this n
  have h2 : n * p ≤ 5 * 5 := Nat.mul_le_mul hn hp
  omega
theorem ne_bl {i j : Nat} {T : Sto} : cmpD .ne (.int (i : Nat)) (.int (j : Nat)) T = .ok (.bl (decide (i ≠ j))) T := by
  rw [ne_int]
  congr 2
  by_cases h : i = j <;> simp [h]
  omega
theorem pairs2 {v w : Nat} {own : List (Str × Nat)} {env : VEnv} (hp : p ≤ 5) (hv : v < env.length) (hw : w < env.length) (hvw : v ≠ w) (h0 : env[0]? = some (some (.int (p : Nat)))) (hv0 : 0 ≠ v) (hw0 : 0 ≠ w) (hown : own.map (·.2) = [v, w]) :
    ev F k none (.lc2 false own [w] (.tloc v) (.irg1 (.loc 0)) (.tloc w) (.irg1 (.loc 0)) (.cmp .ne (.loc v) (.loc w)) (.tup (.cons (.loc v) (.cons (.loc w) .nil)))) env S = .ok (.lst ((pairsOf p).map dP)) S := by
  have hI := evI_rng (F := F) (k := k) (e := .loc 0) (env := env) (T := S) (m := p) (ev_loc h0) (by omega)
  have e : ev F k none (.lc2 false own [w] (.tloc v) (.irg1 (.loc 0)) (.tloc w) (.irg1 (.loc 0)) (.cmp .ne (.loc v) (.loc w)) (.tup (.cons (.loc v) (.cons (.loc w) .nil)))) env S = (evI F k none (.irg1 (.loc 0)) env S).bind fun j S =>
      (compL j (fun x acc S => ((asg F k none (.tloc v) x (wipeE env (own.map (·.2))) S).bind fun env2 S => (evI F k none (.irg1 (.loc 0)) env2 S).bind fun j2 S =>
        compL j2 (fun x2 acc S => ((asg F k none (.tloc w) x2 (wipeE env2 [w]) S).bind fun env3 S => (evT F k none (.cmp .ne (.loc v) (.loc w)) env3 S).bind fun t S =>
          if t = true then (ev F k none (.tup (.cons (.loc v) (.cons (.loc w) .nil))) env3 S).bind fun y S => addL acc y S else .ok acc S)) fuelW 0 acc S).calm) fuelW 0 [] S).bind fun ds S => VI.alloc false ds S := by simp only [ev]
  rw [e, hI]
  simp only [bok]
  have inner : ∀ i, i < p → ∀ acc : List DD, acc.length ≤ ([] : List DD).length + ((List.range p).flatMap (rowP p)).length → ((asg F k none (.tloc v) (.int (i : Nat)) (wipeE env (own.map (·.2))) S).bind fun env2 S => (evI F k none (.irg1 (.loc 0)) env2 S).bind fun j2 S =>
        compL j2 (fun x2 acc S => ((asg F k none (.tloc w) x2 (wipeE env2 [w]) S).bind fun env3 S => (evT F k none (.cmp .ne (.loc v) (.loc w)) env3 S).bind fun t S =>
          if t = true then (ev F k none (.tup (.cons (.loc v) (.cons (.loc w) .nil))) env3 S).bind fun y S => addL acc y S else .ok acc S)) fuelW 0 acc S).calm = .ok (acc ++ rowP p i) S := fun i hi acc hacc => by
    have hacc2 : acc.length ≤ 25 := by
      have := rows_len (p := p) (n := p) hp hp
      simp only [List.length_nil] at hacc
      omega
    generalize hE : (wipeE env (own.map (·.2))).set v (some (DD.int (i : Nat))) = E
    have hlE : E.length = env.length := by rw [← hE, hown]; simp [wipeE]
    have gv : E[v]? = some (some (.int (i : Nat))) := by
      rw [← hE, hown]
      exact set_at (by simpa [wipeE] using hv)
    have g0 : E[0]? = some (some (.int (p : Nat))) := by
      rw [← hE, hown]
      show ((((env.set w none).set v none)).set v _)[0]? = _
      rw [List.getElem?_set_ne (Ne.symm hv0), List.getElem?_set_ne (Ne.symm hv0), List.getElem?_set_ne (Ne.symm hw0), h0]
    have e4 : asg F k none (.tloc v) (.int (i : Nat)) (wipeE env (own.map (·.2))) S = .ok E S := by simp only [asg, hE]
    have hI2 := evI_rng (F := F) (k := k) (e := .loc 0) (env := E) (T := S) (m := p) (ev_loc g0) (by omega)
    rw [e4]
    simp only [bok, hI2]
    rw [compL_rng (g := fun j => if i ≠ j then [dP (i, j)] else []) acc (by omega) (fun j hj acc2 h2 => by
      have a2 : acc2.length ≤ 1000 := by
        rw [rowP_eq] at h2
        have := rowP_len (p := p) (i := i)
        omega
      have e5 : asg F k none (.tloc w) (.int (j : Nat)) (wipeE E [w]) S = .ok (E.set w (some (.int (j : Nat)))) S := by simp only [asg, wipeE, List.set_set]
      have b1 : (E.set w (some (DD.int (j : Nat))))[v]? = some (some (.int (i : Nat))) := by rw [List.getElem?_set_ne (Ne.symm hvw), gv]
      have b2 : (E.set w (some (DD.int (j : Nat))))[w]? = some (some (.int (j : Nat))) := set_at (by omega)
      have t : evT F k none (.cmp .ne (.loc v) (.loc w)) (E.set w (some (.int (j : Nat)))) S = .ok (decide (i ≠ j)) S := by
        simp only [evT, ev_loc b1, ev_loc b2, bok, ne_bl, of_bl']
      have tp : ev F k none (.tup (.cons (.loc v) (.cons (.loc w) .nil))) (E.set w (some (.int (j : Nat)))) S = .ok (dP (i, j)) S := by
        simp only [ev, evs, b1, b2, bok]
        rfl
      simp only [e5, bok, t, tp]
      by_cases hij : i = j
      · subst hij
        simp
      · simp only [ne_eq, hij, not_false_eq_true, decide_true, if_true, add_ok' a2]), rowP_eq]
    rfl
  rw [compL_rng (g := rowP p) [] (by omega) inner, pairs_dP]
  rfl
theorem pairs_len (hp : p ≤ 5) : (pairsOf p).length ≤ 25 := by
  have := rows_len (p := p) (n := p) hp hp
  rw [pairs_dP, List.length_map] at this
  exact this
theorem filt_map {α : Type} {g : α → Bool} {h : α → DD} : ∀ l : List α, (l.map h).flatMap (fun y => ([] : List DD)) = [] := fun l => by induction l <;> simp_all
theorem f_settled (hf : 8 ≤ f) (hp : 2 ≤ p ∧ p ≤ 5) (hv : ValAt S d as) (ha : VA p as) (hs : SnapId S d) :
    callF G f 20 [.int (p : Nat), d] S = if agr (W p as) as = true then .ok (.cel S.length) (S ++ [(setl (W p as) as p).map dP]) else .exc 3 d S := by
  obtain ⟨m, rfl⟩ : ∃ m, f = m + 1 := ⟨f - 1, by omega⟩
  rw [callF_eq (D := ⟨2, 6, b_settled, true⟩) rfl rfl]
  have g1 := f_greatest_table (show 7 ≤ m by omega) hp hv ha hs
  cases q : agr (W p as) as with
  | true =>
    rw [q, if_pos rfl] at g1
    have hw := wf_W ha
    have s1 : VI.run (callF G m) S.length (.asg (.tloc 2) (.call 17 (.cons (.loc 0) (.cons (.loc 1) .nil)))) [some (.int (p : Nat)), some d, none, none, none, none] S = .go .nx [some (.int (p : Nat)), some d, some (dTM (W p as)), none, none, none] S := by
      simp only [VI.run, ev, evs, List.getElem?_cons_succ, List.getElem?_cons_zero, bok, g1, sok, asg, List.set_cons_succ, List.set_cons_zero]
    have pp := pairs2 (F := callF G m) (k := S.length) (S := S) (p := p) (v := 4) (w := 5) (own := [("i", 4), ("j", 5)]) (env := [some (.int (p : Nat)), some d, some (dTM (W p as)), none, none, none]) hp.2 (by simp) (by simp) (by omega) rfl (by omega) (by omega) rfl
    have s2 : VI.run (callF G m) S.length (.asg (.tloc 3) (.lc2 false [("i", 4), ("j", 5)] [5] (.tloc 4) (.irg1 (.loc 0)) (.tloc 5) (.irg1 (.loc 0)) (.cmp .ne (.loc 4) (.loc 5)) (.tup (.cons (.loc 4) (.cons (.loc 5) .nil))))) [some (.int (p : Nat)), some d, some (dTM (W p as)), none, none, none] S = .go .nx [some (.int (p : Nat)), some d, some (dTM (W p as)), some (.lst ((pairsOf p).map dP)), none, none] S := by
      simp only [VI.run, pp, sok, asg, List.set_cons_succ, List.set_cons_zero]
    let gg : DD → List DD := fun y => match y with
      | .tup [.int i, .int j] => if decide (low (W p as) i.toNat j.toNat as = gt (W p as) i.toNat j.toNat) = true then [y] else []
      | _ => []
    have hgg : ∀ q : Nat × Nat, gg (dP q) = if decide (low (W p as) q.1 q.2 as = gt (W p as) q.1 q.2) = true then [dP q] else [] := fun q => rfl
    have lc := lc_seq (F := callF G m) (k := S.length) (S := S) (c := true) (own := [("i", 4), ("j", 5)]) (tv := .ttup (.cons (.tloc 4) (.cons (.tloc 5) .nil))) (ifs := .cmp .eq (.call 18 (.cons (.loc 2) (.cons (.loc 1) (.cons (.loc 4) (.cons (.loc 5) .nil))))) (.ix (.ix (.loc 2) (.loc 4)) (.loc 5))) (elt := .tup (.cons (.loc 4) (.cons (.loc 5) .nil))) (x := 3) (env := [some (.int (p : Nat)), some d, some (dTM (W p as)), some (.lst ((pairsOf p).map dP)), none, none]) (g := gg) (d := .lst ((pairsOf p).map dP)) (xs := (pairsOf p).map dP) rfl rfl (fun y hy acc => by
      obtain ⟨⟨i, j⟩, hq, rfl⟩ := List.mem_map.mp hy
      obtain ⟨hi, hj, _⟩ := pairs_mem.mp hq
      have e1 : asg (callF G m) S.length none (.ttup (.cons (.tloc 4) (.cons (.tloc 5) .nil))) (dP (i, j)) (wipeE [some (.int (p : Nat)), some d, some (dTM (W p as)), some (.lst ((pairsOf p).map dP)), none, none] ([(("i" : Str), 4), (("j" : Str), 5)].map (·.2))) S = .ok [some (.int (p : Nat)), some d, some (dTM (W p as)), some (.lst ((pairsOf p).map dP)), some (.int (i : Nat)), some (.int (j : Nat))] S := by
        simp only [asg, asgs, dP, seqOf, bok, List.map_cons, List.map_nil, wipeE, List.set_cons_succ, List.set_cons_zero]
      have e2 := ev_T2 (F := callF G m) (k := S.length) (T := S) (env := [some (.int (p : Nat)), some d, some (dTM (W p as)), some (.lst ((pairsOf p).map dP)), some (.int (i : Nat)), some (.int (j : Nat))]) hw (a := 2) (i := 4) (j := 5) rfl rfl rfl hi hj
      have g3 := f_least_item (show 1 ≤ m by omega) hw hv ha hi hj
      have c : ev (callF G m) S.length none (.call 18 (.cons (.loc 2) (.cons (.loc 1) (.cons (.loc 4) (.cons (.loc 5) .nil))))) [some (.int (p : Nat)), some d, some (dTM (W p as)), some (.lst ((pairsOf p).map dP)), some (.int (i : Nat)), some (.int (j : Nat))] S = .ok (dL (low (W p as) i j as)) S := by
        simp only [ev, evs, List.getElem?_cons_succ, List.getElem?_cons_zero, bok, g3]
      have t : evT (callF G m) S.length none (.cmp .eq (.call 18 (.cons (.loc 2) (.cons (.loc 1) (.cons (.loc 4) (.cons (.loc 5) .nil))))) (.ix (.ix (.loc 2) (.loc 4)) (.loc 5))) [some (.int (p : Nat)), some d, some (dTM (W p as)), some (.lst ((pairsOf p).map dP)), some (.int (i : Nat)), some (.int (j : Nat))] S = .ok (decide (low (W p as) i j as = gt (W p as) i j)) S := by
        have u : ∀ A B : VE, ∀ env, evT (callF G m) S.length none (.cmp .eq A B) env S = (ev (callF G m) S.length none A env S).bind fun a S1 => (ev (callF G m) S.length none B env S1).bind fun b S2 => (cmpD .eq a b S2).bind ofBl := fun A B env => by simp only [evT]
        rw [u, c]
        simp only [bok, e2, eq_dL, of_bl']
      have tp : ev (callF G m) S.length none (.tup (.cons (.loc 4) (.cons (.loc 5) .nil))) [some (.int (p : Nat)), some d, some (dTM (W p as)), some (.lst ((pairsOf p).map dP)), some (.int (i : Nat)), some (.int (j : Nat))] S = .ok (dP (i, j)) S := by
        simp only [ev, evs, List.getElem?_cons_succ, List.getElem?_cons_zero, bok]
        rfl
      rw [e1]
      simp only [bok, t, hgg]
      by_cases c1 : low (W p as) i j as = gt (W p as) i j
      · simp only [c1, decide_true, if_true, tp, bok]
        rcases add_one (S := S) (acc := acc) (y := dP (i, j)) with h | h
        · exact .inl (by rw [h]; rfl)
        · exact .inr h
      · refine .inl ?_
        simp [c1, cok]) (fun y hy => by
        obtain ⟨q, hq, rfl⟩ := List.mem_map.mp hy
        rw [hgg]
        split <;> simp) (by rw [List.length_map]; have := pairs_len hp.2; omega)
    have fl : ((pairsOf p).map dP).flatMap gg = (setl (W p as) as p).map dP := by
      unfold setl
      generalize pairsOf p = l
      induction l with
      | nil => rfl
      | cons q l ih =>
        rw [List.map_cons, List.flatMap_cons, ih, hgg, List.filter_cons]
        split <;> simp
    rw [fl] at lc
    have this : VI.run (callF G m) S.length b_settled [some (.int (p : Nat)), some d, none, none, none, none] S = .go (.rt (.cel S.length)) [some (.int (p : Nat)), some d, some (dTM (W p as)), some (.lst ((pairsOf p).map dP)), none, none] (S ++ [(setl (W p as) as p).map dP]) := by
      unfold b_settled
      rw [seq_go s1, seq_go s2]
      exact ret_go lc
    exact (congrArg _ this).trans rfl
  | false =>
    rw [q, if_neg (by simp)] at g1
    have this : VI.run (callF G m) S.length b_settled [some (.int (p : Nat)), some d, none, none, none, none] S = .exc 3 d [some (.int (p : Nat)), some d, none, none, none, none] S := by
      simp only [b_settled, VI.run, ev, evs, List.getElem?_cons_succ, List.getElem?_cons_zero, bok, g1, sexc, gexc]
    exact (congrArg _ this).trans rfl
end
end K36

set_option Elab.async false
set_option linter.all false
set_option maxRecDepth 100000
set_option maxHeartbeats 4000000
namespace K36
open VI PySem L2
/-- the same as data; n: the depth -/
def EqD (S : Sto) : Nat → DD → DD → Prop
  | 0, _, _ => False
  | n + 1, g, d => (g = .non ∧ d = .non) ∨ (∃ b, g = .bl b ∧ d = .bl b) ∨ (∃ i, g = .int i ∧ d = .int i) ∨ (g = .str "told" ∧ d = .str "told") ∨ (g = .str "more" ∧ d = .str "more") ∨
    ∃ xs ys, seqOf S g = some xs ∧ seqOf S d = some ys ∧ tyD S g = tyD S d ∧ xs.length = ys.length ∧ ys.length ≤ 1000 ∧ ∀ (i : Nat) x y, xs[i]? = some x → ys[i]? = some y → EqD S n x y
section
variable {S : Sto} {f p k : Nat} {F : FT}
theorem same_told {m : Nat} : VI.run (callF G m) S.length b_law_same [some (.str "told"), some (.str "told"), none] S = .go (.rt (.bl true)) [some (.str "told"), some (.str "told"), none] S := by kernel_rfl
theorem same_more {m : Nat} : VI.run (callF G m) S.length b_law_same [some (.str "more"), some (.str "more"), none] S = .go (.rt (.bl true)) [some (.str "more"), some (.str "more"), none] S := by kernel_rfl
theorem ty_seq {d : DD} {xs : List DD} (h : seqOf S d = some xs) : (tyD S d = "list" ∨ tyD S d = "tuple") ∧ ixD d = fun i S => ixD d i S := by
  cases d <;> first | (exact ⟨.inl rfl, rfl⟩) | (exact ⟨.inr rfl, rfl⟩) | (cases h)
theorem ix_seq {d : DD} {xs : List DD} (h : seqOf S d = some xs) (i : Nat) {x : DD} (hx : xs[i]? = some x) : ixD d (.int (i : Nat)) S = .ok x S := by
  have e : ixD d (.int (i : Nat)) S = match seqOf S d with
      | some xs => match atI xs (i : Nat) with
        | some d => .ok d S
        | none => .stuck
      | none => .stuck := by cases d <;> first | rfl | (cases h)
  rw [e, h]
  simp only [atI_nat, hx]
theorem len_seq {d : DD} {xs : List DD} (h : seqOf S d = some xs) : biD .len false [d] S = .ok (.int (xs.length : Nat)) S := by
  cases d <;> first | (cases h; done) | (simp only [biD, h])
theorem eq_nat {i j : Nat} {T : Sto} : cmpD .eq (.int (i : Nat)) (.int (j : Nat)) T = .ok (.bl (decide (i = j))) T := by
  rw [eq_int]
  congr 2
  by_cases h : i = j <;> simp [h]
  omega
theorem ne_bool {a b : Bool} {T : Sto} : cmpD .ne (.bl a) (.bl b) T = .ok (.bl (!(a == b))) T := by cases a <;> cases b <;> rfl
theorem eq_bool {a b : Bool} {T : Sto} : cmpD .eq (.bl a) (.bl b) T = .ok (.bl (a == b)) T := by cases a <;> cases b <;> rfl
theorem eq_nil {T : Sto} : cmpD .eq (.lst []) (.lst []) T = .ok (.bl true) T := rfl
/-- a comprehension over a range -/
theorem lc_rng {v n : Nat} {c : Bool} {own : List (Str × Nat)} {it ifs elt : VE} {env : VEnv} {g : Nat → List DD} (hI : evI F k none it env S = .ok (.rng 0 n) S) (hn : n ≤ 1000) (hown : own.map (·.2) = [v])
    (ht : ∀ i, i < n → ∀ acc : List DD, acc.length ≤ ((List.range n).flatMap g).length → ((evT F k none ifs (env.set v (some (.int (i : Nat)))) S).bind fun t S =>
        if t = true then (ev F k none elt (env.set v (some (.int (i : Nat)))) S).bind fun y S => addL acc y S else .ok acc S) = .ok (acc ++ g i) S) :
    ev F k none (.lc c own (.tloc v) it ifs elt) env S = VI.alloc c ((List.range n).flatMap g) S := by
  have e : ev F k none (.lc c own (.tloc v) it ifs elt) env S = (evI F k none it env S).bind fun j S =>
      (compL j (fun x acc S => ((asg F k none (.tloc v) x (wipeE env (own.map (·.2))) S).bind fun env2 S => (evT F k none ifs env2 S).bind fun t S =>
        if t = true then (ev F k none elt env2 S).bind fun y S => addL acc y S else .ok acc S).calm) fuelW 0 [] S).bind fun ds S => VI.alloc c ds S := by simp only [ev]
  rw [e, hI]
  simp only [bok]
  rw [compL_rng (g := g) [] hn (fun i hi acc ha => by
    have e4 : asg F k none (.tloc v) (.int (i : Nat)) (wipeE env (own.map (·.2))) S = .ok (env.set v (some (.int (i : Nat)))) S := by
      rw [hown]
      simp only [asg, wipeE, List.set_set]
    rw [e4]
    simp only [bok]
    rw [ht i hi acc (by simpa using ha)]
    rfl)]
  rfl
theorem f_same : ∀ (n : Nat) {f : Nat} {g d : DD}, n ≤ f → EqD S n g d → callF G f 25 [g, d] S = .ok (.bl true) S
  | 0, _, _, _, _, h => h.elim
  | n + 1, f, g, d, hf, h => by
    obtain ⟨m, rfl⟩ : ∃ m, f = m + 1 := ⟨f - 1, by omega⟩
    rw [callF_eq (D := ⟨2, 3, b_law_same, false⟩) rfl rfl]
    show endOf _ S.length (VI.run (callF G m) S.length b_law_same [some g, some d, none] S) = _
    have fin : VI.run (callF G m) S.length b_law_same [some g, some d, none] S = .go (.rt (.bl true)) [some g, some d, none] S → endOf ⟨2, 3, b_law_same, false⟩ S.length (VI.run (callF G m) S.length b_law_same [some g, some d, none] S) = .ok (.bl true) S := fun e => by
      rw [e]; exact end_rt rfl (Flat.bl _) (take_self S)
    apply fin
    rcases h with ⟨rfl, rfl⟩ | ⟨b, rfl, rfl⟩ | ⟨i, rfl, rfl⟩ | ⟨rfl, rfl⟩ | ⟨rfl, rfl⟩ | ⟨xs, ys, h1, h2, h3, h4, h5, h6⟩
    · simp [b_law_same, VI.run, ev, evT, bok, sok, gnx, grt, cmpD, of_bl', tyD, isiB]
    · simp [b_law_same, VI.run, ev, evT, bok, sok, gnx, grt, cmpD, of_bl', tyD, isiB]
      cases b <;> rfl
    · simp [b_law_same, VI.run, ev, evs, evT, bok, sok, gnx, grt, of_bl', tyD, isiB, biD, binD, eq_int, cmpD]
      rfl
    · exact same_told
    · exact same_more
    · have t1 : cmpD .iss d .non S = .ok (.bl false) S := by cases d <;> first | rfl | (cases h2)
      have tb : isiB (tyD S d) "bool" = false ∧ isiB (tyD S d) "int" = false ∧ isiB (tyD S d) "str" = false := by
        rcases (ty_seq h2).1 with q | q <;> rw [q] <;> decide
      have lcE : ev (callF G m) S.length none (.lc false [("k", 2)] (.tloc 2) (.irg1 (.bi .len false (.cons (.loc 1) .nil))) (.notv (.call 25 (.cons (.ix (.loc 0) (.loc 2)) (.cons (.ix (.loc 1) (.loc 2)) .nil)))) (.loc 2)) [some g, some d, none] S = .ok (.lst []) S := by
        have hI := evI_rng (F := callF G m) (k := S.length) (e := .bi .len false (.cons (.loc 1) .nil)) (env := [some g, some d, none]) (T := S) (m := ys.length) (by simp only [ev, evs, List.getElem?_cons_succ, List.getElem?_cons_zero, bok, len_seq h2]) (by omega)
        rw [lc_rng (g := fun _ => []) hI h5 rfl (fun i hi acc _ => by
          have hx : xs[i]? = some (xs[i]'(by omega)) := List.getElem?_eq_getElem (by omega)
          have hy : ys[i]? = some ys[i] := List.getElem?_eq_getElem hi
          have ih := f_same n (f := m) (by omega) (h6 i _ _ hx hy)
          have t : evT (callF G m) S.length none (.notv (.call 25 (.cons (.ix (.loc 0) (.loc 2)) (.cons (.ix (.loc 1) (.loc 2)) .nil)))) ([some g, some d, none].set 2 (some (.int (i : Nat)))) S = .ok false S := by
            simp only [List.set_cons_succ, List.set_cons_zero, evT, evs, ev, List.getElem?_cons_succ, List.getElem?_cons_zero, bok, ix_seq h1 i hx, ix_seq h2 i hy, ih, truR, truD]
            rfl
          rw [t]
          simp [bok])]
        have : ∀ l : List Nat, l.flatMap (fun _ => ([] : List DD)) = [] := fun l => by induction l <;> simp_all
        rw [this]
        rfl
      have rt : ev (callF G m) S.length none (.andv (.cmp .eq (.bi .len false (.cons (.loc 0) .nil)) (.bi .len false (.cons (.loc 1) .nil))) (.cmp .eq (.lc false [("k", 2)] (.tloc 2) (.irg1 (.bi .len false (.cons (.loc 1) .nil))) (.notv (.call 25 (.cons (.ix (.loc 0) (.loc 2)) (.cons (.ix (.loc 1) (.loc 2)) .nil)))) (.loc 2)) (.lst false .nil))) [some g, some d, none] S = .ok (.bl true) S := by
        have u : ∀ A B C D : VE, ∀ env, ev (callF G m) S.length none (.andv (.cmp .eq A B) (.cmp .eq C D)) env S = ((ev (callF G m) S.length none A env S).bind fun a S1 => (ev (callF G m) S.length none B env S1).bind fun b S2 => cmpD .eq a b S2).bind fun x S3 => (ofBl x S3).bind fun t S3 => if t = true then (ev (callF G m) S.length none C env S3).bind fun c S4 => (ev (callF G m) S.length none D env S4).bind fun d S5 => cmpD .eq c d S5 else .ok (.bl false) S3 := fun A B C D env => by simp only [ev]
        rw [u]
        have la : ev (callF G m) S.length none (.bi .len false (.cons (.loc 0) .nil)) [some g, some d, none] S = .ok (.int (ys.length : Nat)) S := by simp only [ev, evs, List.getElem?_cons_zero, bok, len_seq h1, h4]
        have lb : ev (callF G m) S.length none (.bi .len false (.cons (.loc 1) .nil)) [some g, some d, none] S = .ok (.int (ys.length : Nat)) S := by simp only [ev, evs, List.getElem?_cons_succ, List.getElem?_cons_zero, bok, len_seq h2]
        have l0 : ev (callF G m) S.length none (.lst false .nil) [some g, some d, none] S = .ok (.lst []) S := by
          simp only [ev, evs, bok]; rfl
        rw [la]
        simp only [bok, lb, eq_nat, decide_true, of_bl', if_true, lcE, l0, eq_nil]
      have ia : ∀ t : String, ev (callF G m) S.length none (.isi (.loc 0) [t]) [some g, some d, none] S = .ok (.bl (isiB (tyD S d) t)) S := fun t => by
        simp only [ev, List.getElem?_cons_zero, bok, List.any_cons, List.any_nil, Bool.or_false, h3]
      have ib : ∀ t : String, ev (callF G m) S.length none (.isi (.loc 1) [t]) [some g, some d, none] S = .ok (.bl (isiB (tyD S d) t)) S := fun t => by
        simp only [ev, List.getElem?_cons_zero, List.getElem?_cons_succ, bok, List.any_cons, List.any_nil, Bool.or_false]
      have c3 : evT (callF G m) S.length none (.orv (.cmp .ne (.isi (.loc 0) ["list"]) (.isi (.loc 1) ["list"])) (.cmp .ne (.isi (.loc 0) ["tuple"]) (.isi (.loc 1) ["tuple"]))) [some g, some d, none] S = .ok false S := by
        have u : ∀ A B C D : VE, evT (callF G m) S.length none (.orv (.cmp .ne A B) (.cmp .ne C D)) [some g, some d, none] S = ((ev (callF G m) S.length none A [some g, some d, none] S).bind fun a S1 => (ev (callF G m) S.length none B [some g, some d, none] S1).bind fun b S2 => (cmpD .ne a b S2).bind ofBl).bind fun t S3 => if t = true then .ok true S3 else (ev (callF G m) S.length none C [some g, some d, none] S3).bind fun c S4 => (ev (callF G m) S.length none D [some g, some d, none] S4).bind fun d S5 => (cmpD .ne c d S5).bind ofBl := fun A B C D => by simp only [evT]
        rw [u]
        simp only [ia, ib, bok, ne_bool, beq_self_eq_true, Bool.not_true, of_bl', Bool.false_eq_true, if_false]
      unfold b_law_same
      have s1 : VI.run (callF G m) S.length (.ite (.orv (.cmp .iss (.loc 1) .non) (.isi (.loc 1) ["bool"])) (.seq (.ret (.itev (.cmp .iss (.loc 1) .non) (.cmp .iss (.loc 0) .non) (.andv (.isi (.loc 0) ["bool"]) (.cmp .eq (.cmp .iss (.loc 0) (.bl true)) (.cmp .iss (.loc 1) (.bl true)))))) .skip) .skip) [some g, some d, none] S = .go .nx [some g, some d, none] S := by
        simp [VI.run, ev, evT, bok, sok, t1, of_bl', tb.1]
      have s2 : ∀ X : VS, VI.run (callF G m) S.length (.ite (.isi (.loc 1) ["int"]) X .skip) [some g, some d, none] S = .go .nx [some g, some d, none] S := fun X => by
        simp [VI.run, ev, evT, bok, sok, tb.2.1]
      have s3 : ∀ X : VS, VI.run (callF G m) S.length (.ite (.isi (.loc 1) ["str"]) X .skip) [some g, some d, none] S = .go .nx [some g, some d, none] S := fun X => by
        simp [VI.run, ev, evT, bok, sok, tb.2.2]
      have s4 : ∀ X : VS, VI.run (callF G m) S.length (.ite (.orv (.cmp .ne (.isi (.loc 0) ["list"]) (.isi (.loc 1) ["list"])) (.cmp .ne (.isi (.loc 0) ["tuple"]) (.isi (.loc 1) ["tuple"]))) X .skip) [some g, some d, none] S = .go .nx [some g, some d, none] S := fun X => by
        simp only [VI.run, c3, sok, Bool.false_eq_true, if_false]
      rw [seq_go s1, seq_go (s2 _), seq_go (s3 _), seq_go (s4 _)]
      exact ret_go rt
end
end K36

set_option Elab.async false
set_option linter.all false
set_option maxRecDepth 100000
set_option maxHeartbeats 4000000
set_option exponentiation.threshold 500
namespace K36
open VI PySem L2
/-- the draws' box: n bounds its count -/
def Bit (n : Nat) (it : List DD) : Prop := ∃ (x : Int) (g : Bool) (r c : Int), it = [.int x, .bl g, .int r, .int c] ∧ 0 ≤ x ∧ 0 ≤ r ∧ r < 2147483648 ∧ 0 ≤ c ∧ c ≤ n
theorem Bit.mono {n m : Nat} {it : List DD} (h : Bit n it) (hm : n ≤ m) : Bit m it := by
  obtain ⟨x, g, r, c, h1, h2, h3, h4, h5, h6⟩ := h
  exact ⟨x, g, r, c, h1, h2, h3, h4, h5, by omega⟩
section
variable {U : Sto} {f b k n : Nat} {it : List DD} {F : FT}
theorem b_mul {i j : Int} {T : Sto} (h : i.natAbs < 2 ^ 64 ∨ j.natAbs < 2 ^ 64) : binD .mul false (.int i) (.int j) T = .ok (.int (i * j)) T := if_pos h
theorem b_mod {i j : Int} {T : Sto} (h : 0 < j) : binD .mod false (.int i) (.int j) T = .ok (.int (i % j)) T := if_pos h
theorem b_fdv {i j : Int} {T : Sto} (h : 0 < j ∧ j < 2 ^ 64) : binD .fdv false (.int i) (.int j) T = .ok (.int (i / j)) T := if_pos h
theorem b_pow {i j : Int} {T : Sto} (h : 0 ≤ j ∧ j ≤ 1000 ∧ i.natAbs < 2 ^ 400) : binD .pow false (.int i) (.int j) T = .ok (.int (i ^ j.toNat)) T := if_pos h
theorem set_take {V : List DD} : (U.set b V).take U.length = U.set b V := by
  rw [List.take_of_length_le (by simp)]
theorem take_ok (hf : 1 ≤ f) (hb : U[b]? = some it) (hi : Bit n it) (hn : n ≤ 1000000000) (hk : 1 ≤ k ∧ k ≤ 10000000) :
    ∃ (v : Nat) (it' : List DD), callF G f 23 [.cel b, .int (k : Nat)] U = .ok (.int (v : Nat)) (U.set b it') ∧ v < k ∧ Bit (n + 1) it' := by
  obtain ⟨m, rfl⟩ : ∃ m, f = m + 1 := ⟨f - 1, by omega⟩
  rw [callF_eq (D := ⟨2, 4, b_law_take, false⟩) rfl rfl]
  show ∃ v it', endOf _ U.length (VI.run (callF G m) U.length b_law_take [some (.cel b), some (.int (k : Nat)), none, none] U) = _ ∧ _
  obtain ⟨x, g, r, c, rfl, hx, hr0, hr, hc0, hc⟩ := hi
  have hbl : b < U.length := (List.getElem?_eq_some_iff.mp hb).1
  have i0 : ixD (.cel b) (.int 0) U = .ok (.int x) U := by simp [ixD, seqOf, hb]; rfl
  have i1 : ixD (.cel b) (.int 1) U = .ok (.bl g) U := by simp [ixD, seqOf, hb]; rfl
  have i3 : ixD (.cel b) (.int 3) U = .ok (.int c) U := by simp [ixD, seqOf, hb]; rfl
  by_cases hg : g = true ∧ 0 < x
  · -- a digit of the cell
    obtain ⟨rfl, hx0⟩ := hg
    refine ⟨(x % (k : Int)).toNat, [.int (x / (k : Int)), .bl true, .int r, .int c], ?_, ?_, ?_⟩
    · have hv : (((x % (k : Int)).toNat : Nat) : Int) = x % (k : Int) := Int.toNat_of_nonneg (Int.emod_nonneg x (by omega))
      have hk0 : (0 : Int) < (k : Int) := by omega
      have hk1 : (k : Int) < 2 ^ 64 := by omega
      have md : ∀ T, binD .mod false (.int x) (.int (k : Nat)) T = .ok (.int (x % (k : Int))) T := fun T => if_pos hk0
      have fd : ∀ T, binD .fdv false (.int x) (.int (k : Nat)) T = .ok (.int (x / (k : Int))) T := fun T => if_pos ⟨hk0, hk1⟩
      have st : setD U.length (.cel b) (.int 0) (.int (x / (k : Int))) U = .ok () (U.set b [.int (x / (k : Int)), .bl true, .int r, .int c]) := by
        simp only [setD, hb]
        show (if U.length ≤ b ∨ refsL b [DD.int (x / (k : Int)), .bl true, .int r, .int c] = true then R.ok () (U.set b [DD.int (x / (k : Int)), .bl true, .int r, .int c]) else .stuck) = _
        rw [if_pos (.inr rfl)]
      have : VI.run (callF G m) U.length b_law_take [some (.cel b), some (.int (k : Nat)), none, none] U = .go (.rt (.int (x % (k : Int)))) [some (.cel b), some (.int (k : Nat)), some (.int (x % (k : Int))), none] (U.set b [.int (x / (k : Int)), .bl true, .int r, .int c]) := by
        have gt0 : ∀ T, cmpD .gt (.int x) (.int 0) T = .ok (.bl true) T := fun T => by simp [cmpD, hx0]
        have bi1 : ∀ T, biD .int false [.int x] T = .ok (.int x) T := fun T => rfl
        simp [b_law_take, VI.run, ev, evs, evT, asg, bok, cok, sok, gnx, grt, i0, i1, truR, truD, gt0, of_bl', bi1, md, fd, st]
      rw [this, hv]
      exact end_rt rfl (Flat.int _) set_take
    · have h1 := Int.emod_nonneg x (show (k : Int) ≠ 0 by omega)
      have h2 := Int.emod_lt_of_pos x (show (0 : Int) < (k : Int) by omega)
      omega
    · exact ⟨_, _, _, _, rfl, Int.ediv_nonneg hx (by omega), hr0, hr, hc0, by omega⟩
  · -- a mixed number
    let q1 : Int := (r + 15486209 * (c + 1) + 179424929) ^ (5 : Nat) % 2147483647
    let q2 : Int := (q1 * 48271 + 7919 * (c + 1)) ^ (3 : Nat) % 2147483587 / 64 % (k : Int)
    have hq1 : 0 ≤ q1 ∧ q1 < 2147483647 := ⟨Int.emod_nonneg _ (by omega), Int.emod_lt_of_pos _ (by omega)⟩
    have hk0 : (0 : Int) < (k : Int) := by omega
    refine ⟨q2.toNat, [.int x, .bl g, .int r, .int (c + 1)], ?_, ?_, ?_⟩
    · have hv : ((q2.toNat : Nat) : Int) = q2 := Int.toNat_of_nonneg (Int.emod_nonneg _ (by omega))
      have st : setD U.length (.cel b) (.int 3) (.int (c + 1)) U = .ok () (U.set b [.int x, .bl g, .int r, .int (c + 1)]) := by
        simp only [setD, hb]
        show (if U.length ≤ b ∨ refsL b [DD.int x, .bl g, .int r, .int (c + 1)] = true then R.ok () (U.set b [DD.int x, .bl g, .int r, .int (c + 1)]) else .stuck) = _
        rw [if_pos (.inr rfl)]
      have hb' : (U.set b [.int x, .bl g, .int r, .int (c + 1)])[b]? = some [.int x, .bl g, .int r, .int (c + 1)] := List.getElem?_set_self hbl
      have j2 : ixD (.cel b) (.int 2) (U.set b [.int x, .bl g, .int r, .int (c + 1)]) = .ok (.int r) (U.set b [.int x, .bl g, .int r, .int (c + 1)]) := by simp only [ixD, seqOf, hb']; rfl
      have j3 : ixD (.cel b) (.int 3) (U.set b [.int x, .bl g, .int r, .int (c + 1)]) = .ok (.int (c + 1)) (U.set b [.int x, .bl g, .int r, .int (c + 1)]) := by simp only [ixD, seqOf, hb']; rfl
      have big : ∀ z : Int, z.natAbs < 2 ^ 62 → z.natAbs < 2 ^ 400 := fun z hz => Nat.lt_trans hz (by decide)
      have m1 : ∀ T, binD .mul false (.int 15486209) (.int (c + 1)) T = .ok (.int (15486209 * (c + 1))) T := fun T => b_mul (.inl (by decide))
      have p1 : ∀ T, binD .pow false (.int (r + 15486209 * (c + 1) + 179424929)) (.int 5) T = .ok (.int ((r + 15486209 * (c + 1) + 179424929) ^ (5 : Nat))) T := fun T => b_pow ⟨by omega, by omega, big _ (by omega)⟩
      have o1 : ∀ T, binD .mod false (.int ((r + 15486209 * (c + 1) + 179424929) ^ (5 : Nat))) (.int 2147483647) T = .ok (.int q1) T := fun T => b_mod (by omega)
      have m2 : ∀ T, binD .mul false (.int q1) (.int 48271) T = .ok (.int (q1 * 48271)) T := fun T => b_mul (.inr (by decide))
      have m3 : ∀ T, binD .mul false (.int 7919) (.int (c + 1)) T = .ok (.int (7919 * (c + 1))) T := fun T => b_mul (.inl (by decide))
      have p2 : ∀ T, binD .pow false (.int (q1 * 48271 + 7919 * (c + 1))) (.int 3) T = .ok (.int ((q1 * 48271 + 7919 * (c + 1)) ^ (3 : Nat))) T := fun T => b_pow ⟨by omega, by omega, big _ (by omega)⟩
      have o2 : ∀ T, binD .mod false (.int ((q1 * 48271 + 7919 * (c + 1)) ^ (3 : Nat))) (.int 2147483587) T = .ok (.int ((q1 * 48271 + 7919 * (c + 1)) ^ (3 : Nat) % 2147483587)) T := fun T => b_mod (by omega)
      have o3 : ∀ T, binD .fdv false (.int ((q1 * 48271 + 7919 * (c + 1)) ^ (3 : Nat) % 2147483587)) (.int 64) T = .ok (.int ((q1 * 48271 + 7919 * (c + 1)) ^ (3 : Nat) % 2147483587 / 64)) T := fun T => b_fdv (by omega)
      have o4 : ∀ T, binD .mod false (.int ((q1 * 48271 + 7919 * (c + 1)) ^ (3 : Nat) % 2147483587 / 64)) (.int (k : Nat)) T = .ok (.int q2) T := fun T => if_pos hk0
      have ad : ∀ (u v : Int) T, binD .add false (.int u) (.int v) T = .ok (.int (u + v)) T := fun _ _ _ => rfl
      have bi1 : ∀ (z : Int) T, biD .int false [.int z] T = .ok (.int z) T := fun _ _ => rfl
      have : VI.run (callF G m) U.length b_law_take [some (.cel b), some (.int (k : Nat)), none, none] U = .go (.rt (.int q2)) [some (.cel b), some (.int (k : Nat)), none, some (.int q1)] (U.set b [.int x, .bl g, .int r, .int (c + 1)]) := by
        have tst : evT (callF G m) U.length none (.andv (.ix (.loc 0) (.int 1)) (.cmp .gt (.ix (.loc 0) (.int 0)) (.int 0))) [some (.cel b), some (.int (k : Nat)), none, none] U = .ok false U := by
          cases g with
          | false => simp [ev, evT, bok, i1, truR, truD]
          | true =>
            have : ¬ 0 < x := fun h => hg ⟨rfl, h⟩
            have gt0 : ∀ T, cmpD .gt (.int x) (.int 0) T = .ok (.bl false) T := fun T => by simp [cmpD]; omega
            simp [ev, evT, bok, i0, i1, truR, truD, gt0, of_bl']
        simp only [b_law_take, VI.run, tst, sok, gnx, Bool.false_eq_true, if_false]
        simp only [ev, evs, asg, List.getElem?_cons_succ, List.getElem?_cons_zero, bok, cok, sok, gnx, grt, i3, ad, st, j2, j3, m1, p1, bi1, o1, m2, m3, p2, o2, o3, o4, List.set_cons_succ, List.set_cons_zero]
      rw [this, hv]
      exact end_rt rfl (Flat.int _) set_take
    · have h1 := Int.emod_nonneg ((q1 * 48271 + 7919 * (c + 1)) ^ (3 : Nat) % 2147483587 / 64) (show (k : Int) ≠ 0 by omega)
      have h2 := Int.emod_lt_of_pos ((q1 * 48271 + 7919 * (c + 1)) ^ (3 : Nat) % 2147483587 / 64) hk0
      show q2.toNat < k
      have : q2 < (k : Int) := h2
      omega
    · exact ⟨_, _, _, _, rfl, hx, hr0, hr, by omega, by omega⟩
end
end K36

set_option Elab.async false
set_option linter.all false
set_option maxRecDepth 100000
set_option maxHeartbeats 4000000
namespace K36
open VI PySem L2
theorem whL_inv {c : VEnv → Sto → R Bool} {bd : VEnv → Sto → RS} (I : Nat → VEnv → Sto → Prop)
    (step : ∀ n env S, I (n + 1) env S → c env S = .ok true S ∧ ∃ env' S', bd env S = .go .nx env' S' ∧ I n env' S')
    (stop : ∀ env S, I 0 env S → c env S = .ok false S) : ∀ {f n : Nat} {env : VEnv} {S : Sto}, n < f → I n env S → ∃ env' S', whL c bd f env S = .go .nx env' S' ∧ I 0 env' S'
  | 0, _, _, _, h, _ => by omega
  | f + 1, 0, env, S, _, h => by
    refine ⟨env, S, ?_, h⟩
    unfold whL
    rw [stop env S h]
    rfl
  | f + 1, n + 1, env, S, hf, h => by
    obtain ⟨h1, env', S', h2, h3⟩ := step n env S h
    obtain ⟨env2, S2, h4, h5⟩ := whL_inv I step stop (f := f) (n := n) (env := env') (S := S') (by omega) h3
    refine ⟨env2, S2, ?_, h5⟩
    unfold whL
    rw [h1]
    simp only [sok, h2]
    exact h4
theorem erase_map {α β : Type} {g : α → β} : ∀ (l : List α) (v : Nat), (l.map g).eraseIdx v = (l.eraseIdx v).map g
  | [], _ => rfl
  | a :: l, 0 => rfl
  | a :: l, v + 1 => by
    show g a :: (l.map g).eraseIdx v = g a :: (l.eraseIdx v).map g
    rw [erase_map l v]
theorem erase_perm {α : Type} : ∀ {l : List α} {v : Nat} (h : v < l.length), (l[v] :: l.eraseIdx v).Perm l
  | a :: l, 0, _ => List.Perm.refl _
  | a :: l, v + 1, h => by
    have ih := erase_perm (l := l) (v := v) (by simpa using h)
    show (l[v]'(by simpa using h) :: a :: l.eraseIdx v).Perm (a :: l)
    exact (List.Perm.swap _ _ _).trans (ih.cons a)
/-! ### lists that are compared with [] -/
def Pln (x : DD) : Prop := ∀ S : Sto, ∃ q : PyData, toPy S 23 x = some q ∧ q.canLay0 = true ∧ q.depth ≤ 10
theorem pln_dP (q : Nat × Nat) : Pln (dP q) := fun S => ⟨.tuple [.int q.1, .int q.2], rfl, rfl, by simp [PyData.depth, PyData.depthAll]⟩
theorem pln_dA (a : An) : Pln (dA a) := fun S => by
  obtain ⟨i, j, l⟩ := a
  cases l with
  | none => exact ⟨.tuple [.int i, .int j, .none], rfl, rfl, by simp [PyData.depth, PyData.depthAll]⟩
  | some x => exact ⟨.tuple [.int i, .int j, .int x], rfl, rfl, by simp [PyData.depth, PyData.depthAll]⟩
theorem pln_all {S : Sto} : ∀ {xs : List DD}, (∀ x ∈ xs, Pln x) → ∃ qs : List PyData, mapO (toPy S 23) xs = some qs ∧ qs.length = xs.length ∧ PyData.canLayAll0 qs = true ∧ PyData.depthAll qs ≤ 10
  | [], _ => ⟨[], rfl, rfl, rfl, by simp [PyData.depth, PyData.depthAll]⟩
  | x :: xs, h => by
    obtain ⟨q, h1, h2, h3⟩ := h x List.mem_cons_self S
    obtain ⟨qs, g1, g2, g3, g4⟩ := pln_all (S := S) (xs := xs) fun y hy => h y (List.mem_cons_of_mem _ hy)
    refine ⟨q :: qs, ?_, by simp [g2], ?_, ?_⟩
    · unfold mapO
      rw [h1, g1]
      rfl
    · simp only [PyData.canLayAll0, h2, g3, Bool.and_self]
    · simp only [PyData.depthAll]
      omega
theorem ne_nil {S : Sto} {d : DD} {xs : List DD} (h : toPy S 24 d = (mapO (toPy S 23) xs).map PyData.list) (hp : ∀ x ∈ xs, Pln x) : cmpD .ne d (.lst []) S = .ok (.bl (!xs.isEmpty)) S := by
  obtain ⟨qs, g1, g2, g3, g4⟩ := pln_all (S := S) hp
  have e : eqO S d (.lst []) = some xs.isEmpty := by
    unfold eqO
    rw [show depthMax = 24 from rfl, h, g1]
    have s1 : SeqAt.shaped (.list qs) = true := by
      show ((PyData.list qs).canLay0 && decide ((PyData.list qs).depth ≤ 64)) = true
      have d1 : (PyData.list qs).depth = PyData.depthAll qs + 1 := by simp only [PyData.depth]
      have c1 : (PyData.list qs).canLay0 = true := by simp only [PyData.canLay0, g3]
      rw [c1, d1, Bool.true_and, decide_eq_true_eq]
      omega
    show (if SeqAt.shaped (.list qs) = true ∧ SeqAt.shaped (.list []) = true then some (PyData.eqv (.list qs) (.list [])) else none) = _
    rw [if_pos ⟨s1, rfl⟩]
    cases qs with
    | nil =>
      cases xs with
      | nil => rfl
      | cons _ _ => simp at g2
    | cons q qs =>
      cases xs with
      | nil => simp at g2
      | cons _ _ => rfl
  show rB S ((eqO S d (.lst [])).map (!·)) = _
  rw [e]
  rfl
theorem ne_cel {S : Sto} {n : Nat} {xs : List DD} (h : S[n]? = some xs) (hp : ∀ x ∈ xs, Pln x) : cmpD .ne (.cel n) (.lst []) S = .ok (.bl (!xs.isEmpty)) S := by
  refine ne_nil ?_ hp
  show (match S[n]? with
    | some xs => (mapO (toPy S 23) xs).map PyData.list
    | none => none) = _
  rw [h]
theorem ne_lst {S : Sto} {xs : List DD} (hp : ∀ x ∈ xs, Pln x) : cmpD .ne (.lst xs) (.lst []) S = .ok (.bl (!xs.isEmpty)) S := ne_nil rfl hp
section
variable {U : Sto} {f b n : Nat} {it : List DD}
theorem set_app1 {V T : List (List DD)} {x : List DD} (h : b < V.length) : (V ++ T).set b x = V.set b x ++ T := by rw [List.set_append_left _ _ h]
theorem snap_dP {k m : Nat} {T : Sto} (q : Nat × Nat) : snap k T (m + 2) (dP q) = some (dP q) := rfl
theorem snap_dPs {k m : Nat} {T : Sto} : ∀ l : List (Nat × Nat), mapO (snap k T (m + 2)) (l.map dP) = some (l.map dP)
  | [] => rfl
  | q :: l => by
    have := snap_dPs (k := k) (m := m) (T := T) l
    simp only [List.map_cons, mapO, snap_dP, this, Option.map_some]
theorem mixed_ok (hf : 2 ≤ f) (hb : U[b]? = some it) (hi : Bit n it) {ps : List (Nat × Nat)} (hps : ps.length ≤ 1000) (hn : n + ps.length ≤ 1000000000) :
    ∃ (rs : List (Nat × Nat)) (it' : List DD), callF G f 24 [.cel b, .lst (ps.map dP)] U = .ok (.lst (rs.map dP)) (U.set b it') ∧ rs.Perm ps ∧ Bit (n + ps.length) it' := by
  obtain ⟨m, rfl⟩ : ∃ m, f = m + 1 := ⟨f - 1, by omega⟩
  rw [callF_eq (D := ⟨2, 4, b_law_mixed, false⟩) rfl rfl]
  show ∃ rs it', endOf _ U.length (VI.run (callF G m) U.length b_law_mixed [some (.cel b), some (.lst (ps.map dP)), none, none] U) = _ ∧ _
  have hbl : b < U.length := (List.getElem?_eq_some_iff.mp hb).1
  have ub : U.set b it = U := by
    refine List.ext_getElem? fun i => ?_
    by_cases h : i = b
    · subst h; rw [List.getElem?_set_self hbl, hb]
    · rw [List.getElem?_set_ne (Ne.symm h)]
  let E : VEnv := [some (.cel b), some (.lst (ps.map dP)), some (.cel U.length), some (.cel (U.length + 1))]
  have s1 : VI.run (callF G m) U.length (.par (.cons (.tloc 2) (.cons (.tloc 3) .nil)) (.cons (.bi .list true (.cons (.loc 1) .nil)) (.cons (.lst true .nil) .nil))) [some (.cel b), some (.lst (ps.map dP)), none, none] U = .go .nx E (U.set b it ++ [ps.map dP, []]) := by
    have a1 : biD .list true [.lst (ps.map dP)] U = .ok (.cel U.length) (U ++ [ps.map dP]) := rfl
    have a2 : ev (callF G m) U.length none (.lst true .nil) [some (.cel b), some (.lst (ps.map dP)), none, none] (U ++ [ps.map dP]) = .ok (.cel (U.length + 1)) (U ++ [ps.map dP] ++ [[]]) := by
      simp only [ev, evs, bok]
      show R.ok (DD.cel (U ++ [ps.map dP]).length) (U ++ [ps.map dP] ++ [[]]) = _
      rw [List.length_append]
      rfl
    have a3 : ev (callF G m) U.length none (.bi .list true (.cons (.loc 1) .nil)) [some (.cel b), some (.lst (ps.map dP)), none, none] U = .ok (.cel U.length) (U ++ [ps.map dP]) := by
      simp only [ev, evs, List.getElem?_cons_succ, List.getElem?_cons_zero, bok, a1]
    simp only [VI.run, evs, a3, a2, bok, sok, asgs, asg, List.set_cons_succ, List.set_cons_zero]
    rw [ub, List.append_assoc]
    rfl
  -- the loop
  have L := whL_inv (c := fun env S => evT (callF G m) U.length none (.cmp .ne (.loc 2) (.lst false .nil)) env S) (bd := fun env S => VI.run (callF G m) U.length (.seq (.exp (.mt .append (.loc 3) (.cons (.mt .popAt (.loc 2) (.cons (.call 23 (.cons (.loc 0) (.cons (.bi .len false (.cons (.loc 2) .nil)) .nil))) .nil)) .nil))) .skip) env S)
    (fun k env S => env = E ∧ ∃ (l r : List (Nat × Nat)) (it' : List DD), l.length = k ∧ (l ++ r).Perm ps ∧ S = U.set b it' ++ [l.map dP, r.map dP] ∧ Bit (n + r.length) it') (fun k env S h => by
      obtain ⟨rfl, l, r, it', hl, hp, rfl, hit⟩ := h
      have hlr : l.length + r.length = ps.length := by rw [← List.length_append]; exact hp.length_eq
      have at1 : (U.set b it' ++ [l.map dP, r.map dP])[U.length]? = some (l.map dP) := by
        rw [List.getElem?_append_right (by simp)]; simp
      have atb : (U.set b it' ++ [l.map dP, r.map dP])[b]? = some it' := by
        rw [List.getElem?_append_left (by simpa using hbl), List.getElem?_set_self hbl]
      constructor
      · have c := ne_cel at1 (fun x hx => by obtain ⟨q, _, rfl⟩ := List.mem_map.mp hx; exact pln_dP q)
        have l0 : ∀ T, ev (callF G m) U.length none (.lst false .nil) E T = .ok (.lst []) T := fun T => by simp only [ev, evs, bok]; rfl
        have l2 : ∀ T, ev (callF G m) U.length none (.loc 2) E T = .ok (.cel U.length) T := fun T => ev_loc rfl
        simp only [evT, l2, l0, bok, c, of_bl']
        cases l with
        | nil => simp at hl
        | cons _ _ => rfl
      · obtain ⟨v, it2, t1, t2, t3⟩ := take_ok (f := m) (U := U.set b it' ++ [l.map dP, r.map dP]) (b := b) (k := l.length) (by omega) atb hit (by omega) ⟨by omega, by omega⟩
        rw [set_app1 (by simpa using hbl), List.set_set] at t1
        have at1' : (U.set b it2 ++ [l.map dP, r.map dP])[U.length]? = some (l.map dP) := by
          rw [List.getElem?_append_right (by simp)]; simp
        have lv : l[v]? = some l[v] := List.getElem?_eq_getElem t2
        have pop : mtD U.length .popAt (.cel U.length) [.int (v : Nat)] (U.set b it2 ++ [l.map dP, r.map dP]) = .ok (dP l[v]) (U.set b it2 ++ [(l.eraseIdx v).map dP, r.map dP]) := by
          have ixv : ixN (l.map dP).length (v : Int) = some v := by
            unfold L2.ixN
            rw [if_pos (Int.natCast_nonneg v), if_pos (by rw [List.length_map]; omega)]
            rfl
          simp only [mtD, at1', mtL, ixv, List.getElem?_map, lv, Option.map_some]
          rw [if_pos (by rw [List.length_map]; unfold lenMax; omega)]
          unfold putC
          rw [if_pos (.inl (Nat.le_refl _)), List.set_append_right _ _ (by simp)]
          simp [erase_map]
        have app : mtD U.length .append (.cel (U.length + 1)) [dP l[v]] (U.set b it2 ++ [(l.eraseIdx v).map dP, r.map dP]) = .ok .non (U.set b it2 ++ [(l.eraseIdx v).map dP, (r ++ [l[v]]).map dP]) := by
          have at2 : (U.set b it2 ++ [(l.eraseIdx v).map dP, r.map dP])[U.length + 1]? = some (r.map dP) := by
            rw [List.getElem?_append_right (by simp)]; simp
          simp only [mtD, at2, mtL]
          rw [if_pos (by rw [List.length_map]; unfold lenMax; omega)]
          unfold putC
          rw [if_pos (.inl (by omega)), List.set_append_right _ _ (by simp)]
          simp
        have ln : ev (callF G m) U.length none (.bi .len false (.cons (.loc 2) .nil)) E (U.set b it' ++ [l.map dP, r.map dP]) = .ok (.int (l.length : Nat)) (U.set b it' ++ [l.map dP, r.map dP]) := by
          have l2 : ∀ T, ev (callF G m) U.length none (.loc 2) E T = .ok (.cel U.length) T := fun T => ev_loc rfl
          simp only [ev, evs] at l2 ⊢
          simp only [l2, bok, biD, seqOf, at1, List.length_map]
        have whole : ev (callF G m) U.length none (.mt .append (.loc 3) (.cons (.mt .popAt (.loc 2) (.cons (.call 23 (.cons (.loc 0) (.cons (.bi .len false (.cons (.loc 2) .nil)) .nil))) .nil)) .nil)) E (U.set b it' ++ [l.map dP, r.map dP]) = .ok .non (U.set b it2 ++ [(l.eraseIdx v).map dP, (r ++ [l[v]]).map dP]) := by
          have l0 : ∀ T, ev (callF G m) U.length none (.loc 0) E T = .ok (.cel b) T := fun T => ev_loc rfl
          have l2 : ∀ T, ev (callF G m) U.length none (.loc 2) E T = .ok (.cel U.length) T := fun T => ev_loc rfl
          have l3 : ∀ T, ev (callF G m) U.length none (.loc 3) E T = .ok (.cel (U.length + 1)) T := fun T => ev_loc rfl
          have cl : ev (callF G m) U.length none (.call 23 (.cons (.loc 0) (.cons (.bi .len false (.cons (.loc 2) .nil)) .nil))) E (U.set b it' ++ [l.map dP, r.map dP]) = .ok (.int (v : Nat)) (U.set b it2 ++ [l.map dP, r.map dP]) := by
            have u : ∀ A B : VE, ∀ T, ev (callF G m) U.length none (.call 23 (.cons A (.cons B .nil))) E T = (ev (callF G m) U.length none A E T).bind fun a T1 => (ev (callF G m) U.length none B E T1).bind fun b T2 => callF G m 23 [a, b] T2 := fun A B T => by
              simp only [ev, evs, bind_bind, bok]
            rw [u, l0]
            simp only [bok, ln, t1]
          have u : ∀ A B C : VE, ∀ T, ev (callF G m) U.length none (.mt .append A (.cons (.mt .popAt B (.cons C .nil)) .nil)) E T = (ev (callF G m) U.length none A E T).bind fun x S => match x with
              | .cel n => ((ev (callF G m) U.length none B E S).bind fun x S => match x with
                | .cel n => (ev (callF G m) U.length none C E S).bind fun c S => mtD U.length .popAt (.cel n) [c] S
                | _ => .stuck).bind fun y S => mtD U.length .append (.cel n) [y] S
              | _ => .stuck := fun A B C T => by
            simp only [ev, evs, bind_bind, bok]
            try rfl
          rw [u, l3]
          simp only [bok, l2, cl, pop, app]
        refine ⟨E, U.set b it2 ++ [(l.eraseIdx v).map dP, (r ++ [l[v]]).map dP], ?_, rfl, l.eraseIdx v, r ++ [l[v]], it2, ?_, ?_, rfl, ?_⟩
        · have : VI.run (callF G m) U.length (.exp (.mt .append (.loc 3) (.cons (.mt .popAt (.loc 2) (.cons (.call 23 (.cons (.loc 0) (.cons (.bi .len false (.cons (.loc 2) .nil)) .nil))) .nil)) .nil))) E (U.set b it' ++ [l.map dP, r.map dP]) = .go .nx E (U.set b it2 ++ [(l.eraseIdx v).map dP, (r ++ [l[v]]).map dP]) := by
            simp only [VI.run, whole, sok]
          rw [seq_go this, skip_go]
        · rw [List.length_eraseIdx_of_lt t2]; omega
        · have h1 : (l[v] :: l.eraseIdx v).Perm l := erase_perm t2
          have h2 : (l.eraseIdx v ++ (r ++ [l[v]])).Perm (l[v] :: l.eraseIdx v ++ r) := by
            rw [← List.append_assoc]
            exact List.perm_append_comm
          exact (h2.trans (h1.append_right r)).trans hp
        · rw [List.length_append]
          exact t3) (fun env S h => by
      obtain ⟨rfl, l, r, it', hl, hp, rfl, hit⟩ := h
      have at1 : (U.set b it' ++ [l.map dP, r.map dP])[U.length]? = some (l.map dP) := by
        rw [List.getElem?_append_right (by simp)]; simp
      have c := ne_cel at1 (fun x hx => by obtain ⟨q, _, rfl⟩ := List.mem_map.mp hx; exact pln_dP q)
      have l0 : ∀ T, ev (callF G m) U.length none (.lst false .nil) E T = .ok (.lst []) T := fun T => by simp only [ev, evs, bok]; rfl
      have l2 : ∀ T, ev (callF G m) U.length none (.loc 2) E T = .ok (.cel U.length) T := fun T => ev_loc rfl
      simp only [evT, l2, l0, bok, c, of_bl']
      cases l with
      | nil => rfl
      | cons _ _ => simp at hl) (f := fuelW) (n := ps.length) (env := E) (S := U.set b it ++ [ps.map dP, []]) (by unfold fuelW; omega) ⟨rfl, ps, [], it, rfl, by simp, rfl, hi⟩
  obtain ⟨env', S', w, rfl, l, r, it', hl, hp, rfl, hit⟩ := L
  have l0 : l = [] := List.length_eq_zero_iff.mp hl
  subst l0
  have tot : VI.run (callF G m) U.length b_law_mixed [some (.cel b), some (.lst (ps.map dP)), none, none] U = .go (.rt (.cel (U.length + 1))) E (U.set b it' ++ [[], r.map dP]) := by
    unfold b_law_mixed
    rw [seq_go s1]
    have w' : VI.run (callF G m) U.length (.wh (.cmp .ne (.loc 2) (.lst false .nil)) (.seq (.exp (.mt .append (.loc 3) (.cons (.mt .popAt (.loc 2) (.cons (.call 23 (.cons (.loc 0) (.cons (.bi .len false (.cons (.loc 2) .nil)) .nil))) .nil)) .nil))) .skip)) E (U.set b it ++ [ps.map dP, []]) = .go .nx E (U.set b it' ++ [[], r.map dP]) := by
      simp only [VI.run]
      simp only [VI.run] at w
      exact w
    rw [seq_go w']
    exact ret_go (ev_loc rfl)
  refine ⟨r, it', ?_, hp, ?_⟩
  · rw [tot]
    show finD false U.length (.cel (U.length + 1)) (U.set b it' ++ [[], r.map dP]) .ok = _
    unfold finD
    have sn : snap U.length (U.set b it' ++ [[], r.map dP]) depthMax (.cel (U.length + 1)) = some (.lst (r.map dP)) := by
      show (if U.length + 1 < U.length then some (DD.cel (U.length + 1)) else match (U.set b it' ++ [[], r.map dP])[U.length + 1]? with
        | some xs => (mapO (snap U.length (U.set b it' ++ [[], r.map dP]) 23) xs).map .lst
        | none => none) = _
      rw [if_neg (by omega), List.getElem?_append_right (by simp)]
      simp only [List.length_set, Nat.add_sub_cancel_left, List.getElem?_cons_succ, List.getElem?_cons_zero]
      rw [snap_dPs]
      rfl
    rw [sn]
    simp
  · have : r.length = ps.length := by simpa using hp.length_eq
    rw [← this]
    exact hit
end
end K36

set_option Elab.async false
set_option linter.all false
set_option maxRecDepth 100000
set_option maxHeartbeats 4000000
set_option exponentiation.threshold 2000
namespace K36
open VI PySem L2
section
variable {U : Sto} {f b k n p : Nat} {it : List DD}
theorem tk (hf : 1 ≤ f) (hb : b < U.length) (hi : Bit n it) (hn : n ≤ 1000000000) (hk : 1 ≤ k ∧ k ≤ 10000000) :
    ∃ (v : Nat) (it' : List DD), callF G f 23 [.cel b, .int (k : Nat)] (U.set b it) = .ok (.int (v : Nat)) (U.set b it') ∧ v < k ∧ Bit (n + 1) it' := by
  obtain ⟨v, it', h1, h2, h3⟩ := take_ok (U := U.set b it) hf (List.getElem?_set_self hb) hi hn hk
  rw [List.set_set] at h1
  exact ⟨v, it', h1, h2, h3⟩
theorem set_len {it' : List DD} : (U.set b it').length = U.length := by simp
theorem length_ok (hf : 2 ≤ f) (hb : b < U.length) (hi : Bit n it) (hn : n ≤ 100000000) (g : Bool) :
    ∃ (v : Nat) (it' : List DD), callF G f 27 [.cel b, .bl g] (U.set b it) = .ok (.int (v : Nat)) (U.set b it') ∧ Bit (n + 6) it' := by
  obtain ⟨m, rfl⟩ : ∃ m, f = m + 1 := ⟨f - 1, by omega⟩
  rw [callF_eq (D := ⟨2, 2, b_law_length, false⟩) rfl rfl]
  show ∃ v it', endOf _ (U.set b it).length (VI.run (callF G m) (U.set b it).length b_law_length [some (.cel b), some (.bl g)] (U.set b it)) = _ ∧ _
  rw [set_len]
  have hm : 1 ≤ m := by omega
  -- the second part, from any box
  have second : ∀ (n1 : Nat) (it1 : List DD), n1 ≤ n + 1 → Bit n1 it1 → ∃ (v : Nat) (it' : List DD), VI.run (callF G m) U.length (.seq (.ret (.ix (.lst false (.cons (.int 0) (.cons (.call 23 (.cons (.loc 0) (.cons (.int 4) .nil))) (.cons (.call 23 (.cons (.loc 0) (.cons (.int 9) .nil))) (.cons (.bin .add false (.int 5) (.call 23 (.cons (.loc 0) (.cons (.int 30) .nil)))) .nil))))) (.call 23 (.cons (.loc 0) (.cons (.int 4) .nil))))) .skip) [some (.cel b), some (.bl g)] (U.set b it1) = .go (.rt (.int (v : Nat))) [some (.cel b), some (.bl g)] (U.set b it') ∧ Bit (n1 + 4) it' := fun n1 it1 h1 hit1 => by
    obtain ⟨v1, j1, a1, b1, c1⟩ := tk (k := 4) hm hb hit1 (by omega) (by omega)
    obtain ⟨v2, j2, a2, b2, c2⟩ := tk (k := 9) hm hb c1 (by omega) (by omega)
    obtain ⟨v3, j3, a3, b3, c3⟩ := tk (k := 30) hm hb c2 (by omega) (by omega)
    obtain ⟨v4, j4, a4, b4, c4⟩ := tk (k := 4) hm hb c3 (by omega) (by omega)
    have a1 : callF G m 23 [.cel b, .int 4] (U.set b it1) = .ok (.int (v1 : Nat)) (U.set b j1) := a1
    have a2 : callF G m 23 [.cel b, .int 9] (U.set b j1) = .ok (.int (v2 : Nat)) (U.set b j2) := a2
    have a3 : callF G m 23 [.cel b, .int 30] (U.set b j2) = .ok (.int (v3 : Nat)) (U.set b j3) := a3
    have a4 : callF G m 23 [.cel b, .int 4] (U.set b j3) = .ok (.int (v4 : Nat)) (U.set b j4) := a4
    have ad : ∀ (u v : Int) T, binD .add false (.int u) (.int v) T = .ok (.int (u + v)) T := fun _ _ _ => rfl
    have lst : ev (callF G m) U.length none (.lst false (.cons (.int 0) (.cons (.call 23 (.cons (.loc 0) (.cons (.int 4) .nil))) (.cons (.call 23 (.cons (.loc 0) (.cons (.int 9) .nil))) (.cons (.bin .add false (.int 5) (.call 23 (.cons (.loc 0) (.cons (.int 30) .nil)))) .nil))))) [some (.cel b), some (.bl g)] (U.set b it1) = .ok (.lst [.int 0, .int (v1 : Nat), .int (v2 : Nat), .int (5 + (v3 : Nat))]) (U.set b j3) := by
      simp only [ev, evs, List.getElem?_cons_zero, bok, a1, a2, a3, ad]
      rfl
    have e : ev (callF G m) U.length none (.ix (.lst false (.cons (.int 0) (.cons (.call 23 (.cons (.loc 0) (.cons (.int 4) .nil))) (.cons (.call 23 (.cons (.loc 0) (.cons (.int 9) .nil))) (.cons (.bin .add false (.int 5) (.call 23 (.cons (.loc 0) (.cons (.int 30) .nil)))) .nil))))) (.call 23 (.cons (.loc 0) (.cons (.int 4) .nil)))) [some (.cel b), some (.bl g)] (U.set b it1) = ixD (.lst [.int 0, .int (v1 : Nat), .int (v2 : Nat), .int (5 + (v3 : Nat))]) (.int (v4 : Nat)) (U.set b j4) := by
      have u : ∀ A B : VE, ∀ T, ev (callF G m) U.length none (.ix A B) [some (.cel b), some (.bl g)] T = (ev (callF G m) U.length none A [some (.cel b), some (.bl g)] T).bind fun x T1 => (ev (callF G m) U.length none B [some (.cel b), some (.bl g)] T1).bind fun y T2 => ixD x y T2 := fun A B T => by simp only [ev]
      rw [u, lst]
      simp only [ev, evs, List.getElem?_cons_zero, bok, a4]
    have pick : ∃ w : Nat, ixD (.lst [.int 0, .int (v1 : Nat), .int (v2 : Nat), .int (5 + (v3 : Nat))]) (.int (v4 : Nat)) (U.set b j4) = .ok (.int (w : Nat)) (U.set b j4) := by
      match v4, b4 with
      | 0, _ => exact ⟨0, rfl⟩
      | 1, _ => exact ⟨v1, rfl⟩
      | 2, _ => exact ⟨v2, rfl⟩
      | 3, _ => exact ⟨5 + v3, rfl⟩
      | v + 4, h => omega
    obtain ⟨w, hw⟩ := pick
    exact ⟨w, j4, ret_go (e.trans hw), c4⟩
  cases g with
  | false =>
    obtain ⟨v, it', h1, h2⟩ := second n it (by omega) hi
    refine ⟨v, it', ?_, h2.mono (by omega)⟩
    have : VI.run (callF G m) U.length b_law_length [some (.cel b), some (.bl false)] (U.set b it) = .go (.rt (.int (v : Nat))) [some (.cel b), some (.bl false)] (U.set b it') := by
      unfold b_law_length
      rw [seq_go (env' := [some (.cel b), some (.bl false)]) (T' := U.set b it) (by simp [VI.run, evT, bok, sok, truR, truD]), h1]
    rw [this]
    exact end_rt rfl (Flat.int _) (by rw [← set_len (U := U) (b := b) (it' := it')]; exact take_self _)
  | true =>
    obtain ⟨v1, j1, a1, b1, c1⟩ := tk (k := 2) hm hb hi (by omega) (by omega)
    have a1 : callF G m 23 [.cel b, .int 2] (U.set b it) = .ok (.int (v1 : Nat)) (U.set b j1) := a1
    by_cases h0 : v1 = 0
    · subst h0
      obtain ⟨v2, j2, a2, b2, c2⟩ := tk (k := 1000000) hm hb c1 (by omega) (by omega)
      have a2 : callF G m 23 [.cel b, .int 1000000] (U.set b j1) = .ok (.int (v2 : Nat)) (U.set b j2) := a2
      refine ⟨((10 ^ 60) ^ 4) + v2, j2, ?_, c2.mono (by omega)⟩
      have p1 : ∀ T, binD .pow false (.int 10) (.int 60) T = .ok (.int (10 ^ 60)) T := fun T => b_pow ⟨by omega, by omega, by decide⟩
      have p2 : ∀ T, binD .pow false (.int (10 ^ 60)) (.int 4) T = .ok (.int ((10 ^ 60) ^ 4)) T := fun T => b_pow ⟨by omega, by omega, by decide⟩
      have p3 : ∀ T, binD .pow false (.int 10) (.int 6) T = .ok (.int 1000000) T := fun T => b_pow ⟨by omega, by omega, by decide⟩
      have ad : ∀ (u v : Int) T, binD .add false (.int u) (.int v) T = .ok (.int (u + v)) T := fun _ _ _ => rfl
      have rt : ev (callF G m) U.length none (.bin .add false (.bin .pow false (.bin .pow false (.int 10) (.int 60)) (.int 4)) (.call 23 (.cons (.loc 0) (.cons (.bin .pow false (.int 10) (.int 6)) .nil)))) [some (.cel b), some (.bl true)] (U.set b j1) = .ok (.int ((10 ^ 60) ^ 4 + (v2 : Nat))) (U.set b j2) := by
        simp only [ev, evs, List.getElem?_cons_zero, bok, p1, p2, p3, a2, ad]
      have ts : evT (callF G m) U.length none (.andv (.loc 1) (.cmp .eq (.call 23 (.cons (.loc 0) (.cons (.int 2) .nil))) (.int 0))) [some (.cel b), some (.bl true)] (U.set b it) = .ok true (U.set b j1) := by
        simp only [evT, ev, evs, List.getElem?_cons_succ, List.getElem?_cons_zero, bok, truR, truD, if_true, a1, eq_int, of_bl']
        rfl
      have : VI.run (callF G m) U.length b_law_length [some (.cel b), some (.bl true)] (U.set b it) = .go (.rt (.int ((10 ^ 60) ^ 4 + (v2 : Nat)))) [some (.cel b), some (.bl true)] (U.set b j2) := by
        unfold b_law_length
        simp only [VI.run, ts, sok, if_true, rt, grt]
      rw [this]
      have cast : (((10 ^ 60) ^ 4 + v2 : Nat) : Int) = (10 ^ 60) ^ 4 + (v2 : Nat) := by simp
      rw [cast]
      exact end_rt rfl (Flat.int _) (by rw [← set_len (U := U) (b := b) (it' := j2)]; exact take_self _)
    · obtain ⟨v, it', h1, h2⟩ := second (n + 1) j1 (by omega) c1
      refine ⟨v, it', ?_, h2.mono (by omega)⟩
      have ts : evT (callF G m) U.length none (.andv (.loc 1) (.cmp .eq (.call 23 (.cons (.loc 0) (.cons (.int 2) .nil))) (.int 0))) [some (.cel b), some (.bl true)] (U.set b it) = .ok false (U.set b j1) := by
        simp only [evT, ev, evs, List.getElem?_cons_succ, List.getElem?_cons_zero, bok, truR, truD, if_true, a1, eq_int, of_bl']
        congr 1
        simp
        omega
      have : VI.run (callF G m) U.length b_law_length [some (.cel b), some (.bl true)] (U.set b it) = .go (.rt (.int (v : Nat))) [some (.cel b), some (.bl true)] (U.set b it') := by
        unfold b_law_length
        rw [seq_go (env' := [some (.cel b), some (.bl true)]) (T' := U.set b j1) (by simp only [VI.run, ts, sok, Bool.false_eq_true, if_false]), h1]
      rw [this]
      exact end_rt rfl (Flat.int _) (by rw [← set_len (U := U) (b := b) (it' := it')]; exact take_self _)
theorem f_law_pairs (hf : 1 ≤ f) (hp : p ≤ 5) : callF G f 29 [.int (p : Nat)] U = .ok (.lst ((pairsOf p).map dP)) U := by
  obtain ⟨m, rfl⟩ : ∃ m, f = m + 1 := ⟨f - 1, by omega⟩
  rw [callF_eq (D := ⟨1, 4, b_law_pairs, false⟩) rfl rfl]
  show endOf _ U.length (VI.run (callF G m) U.length b_law_pairs [some (.int (p : Nat)), none, none, none] U) = _
  have s1 : VI.run (callF G m) U.length (.asg (.tloc 1) (.lst false .nil)) [some (.int (p : Nat)), none, none, none] U = .go .nx [some (.int (p : Nat)), some (.lst []), none, none] U := by
    simp only [VI.run, ev, evs, bok]
    rfl
  have hI := evI_rng (F := callF G m) (k := U.length) (e := .loc 0) (env := [some (.int (p : Nat)), some (.lst []), none, none]) (T := U) (m := p) (ev_loc rfl) (by omega)
  obtain ⟨env', S', e, rfl, w, rfl⟩ := forL_inv (j := .rng 0 p) (turn := fun x env S => (asg (callF G m) U.length none (.tloc 2) x env S).stm env fun env S => VI.run (callF G m) U.length (.seq (.asg (.tloc 1) (.bin .add false (.loc 1) (.lc false [("j", 3)] (.tloc 3) (.irg1 (.loc 0)) (.cmp .ne (.loc 2) (.loc 3)) (.tup (.cons (.loc 2) (.cons (.loc 3) .nil)))))) .skip) env S) (fun i e T => T = U ∧ ∃ w, e = [some (.int (p : Nat)), some (.lst ((List.range i).flatMap (rowP p))), w, none]) (n := p) (fun i e T hi h => by
    obtain ⟨rfl, w, rfl⟩ := h
    have lc := lc_rng (F := callF G m) (k := T.length) (S := T) (v := 3) (c := false) (own := [("j", 3)]) (it := .irg1 (.loc 0)) (ifs := .cmp .ne (.loc 2) (.loc 3)) (elt := .tup (.cons (.loc 2) (.cons (.loc 3) .nil))) (env := [some (.int (p : Nat)), some (.lst ((List.range i).flatMap (rowP p))), some (.int (i : Nat)), none]) (g := fun j => if i ≠ j then [dP (i, j)] else []) (evI_rng (ev_loc rfl) (by omega)) (by omega) rfl (fun j hj acc ha => by
      have a2 : acc.length ≤ 1000 := by
        rw [rowP_eq] at ha
        have := rowP_len (p := p) (i := i)
        omega
      simp only [List.set_cons_succ, List.set_cons_zero, evT, ev, evs, List.getElem?_cons_succ, List.getElem?_cons_zero, bok, ne_bl, of_bl']
      by_cases hij : i = j
      · subst hij; simp
      · simp only [ne_eq, hij, not_false_eq_true, decide_true, if_true]
        exact add_ok' a2)
    rw [rowP_eq] at lc
    have ad : binD .add false (.lst ((List.range i).flatMap (rowP p))) (.lst (rowP p i)) T = .ok (.lst ((List.range (i + 1)).flatMap (rowP p))) T := by
      have l1 := rows_len (p := p) (n := i) (by omega) hp
      have l2 := rowP_len (p := p) (i := i)
      show (if ((List.range i).flatMap (rowP p)).length + (rowP p i).length ≤ lenMax then VI.alloc false ((List.range i).flatMap (rowP p) ++ rowP p i) T else .stuck) = _
      rw [if_pos (by unfold lenMax; omega), List.range_succ, List.flatMap_append, List.flatMap_cons, List.flatMap_nil, List.append_nil]
      rfl
    have b1 : ev (callF G m) T.length none (.bin .add false (.loc 1) (.lc false [("j", 3)] (.tloc 3) (.irg1 (.loc 0)) (.cmp .ne (.loc 2) (.loc 3)) (.tup (.cons (.loc 2) (.cons (.loc 3) .nil))))) [some (.int (p : Nat)), some (.lst ((List.range i).flatMap (rowP p))), some (.int (i : Nat)), none] T = .ok (.lst ((List.range (i + 1)).flatMap (rowP p))) T := by
      have u : ∀ B : VE, ∀ env, ev (callF G m) T.length none (.bin .add false (.loc 1) B) env T = (ev (callF G m) T.length none (.loc 1) env T).bind fun x S => (ev (callF G m) T.length none B env S).bind fun y S => binD .add false x y S := fun B env => by simp only [ev]
      rw [u, ev_loc rfl]
      simp only [bok, lc, VI.alloc, ad]
    refine ⟨_, [some (.int (p : Nat)), some (.lst ((List.range (i + 1)).flatMap (rowP p))), some (.int (i : Nat)), none], T, rng_lt _ hi, .inl (asg_loc.trans ?_), rfl, _, rfl⟩
    simp only [List.set_cons_succ, List.set_cons_zero]
    have : VI.run (callF G m) T.length (.asg (.tloc 1) (.bin .add false (.loc 1) (.lc false [("j", 3)] (.tloc 3) (.irg1 (.loc 0)) (.cmp .ne (.loc 2) (.loc 3)) (.tup (.cons (.loc 2) (.cons (.loc 3) .nil)))))) [some (.int (p : Nat)), some (.lst ((List.range i).flatMap (rowP p))), some (.int (i : Nat)), none] T = .go .nx [some (.int (p : Nat)), some (.lst ((List.range (i + 1)).flatMap (rowP p))), some (.int (i : Nat)), none] T := by
      simp only [VI.run, b1, sok, asg, List.set_cons_succ, List.set_cons_zero]
    rw [seq_go this, skip_go]) (fun e T h => rng_end T) (f := fuelW) (i := 0) (env := [some (.int (p : Nat)), some (.lst []), none, none]) (S := U) (Nat.zero_le _) (by unfold fuelW; omega) ⟨rfl, _, rfl⟩
  rw [pairs_dP] at e
  have tot : VI.run (callF G m) S'.length b_law_pairs [some (.int (p : Nat)), none, none, none] S' = .go (.rt (.lst ((pairsOf p).map dP))) [some (.int (p : Nat)), some (.lst ((pairsOf p).map dP)), w, none] S' := by
    unfold b_law_pairs
    rw [seq_go s1, seq_go ((fr_eq hI).trans e)]
    exact ret_go (ev_loc rfl)
  rw [tot]
  refine end_rt rfl (fun k T => ?_) (take_self _)
  show (mapO (snap k T 23) ((pairsOf p).map dP)).map DD.lst = _
  rw [snap_dPs]
  rfl
end
end K36

set_option Elab.async false
set_option linter.all false
set_option maxRecDepth 100000
set_option maxHeartbeats 4000000
namespace K36
open VI PySem L2
section
variable {F : FT} {k : Nat}
/-- a comprehension over a range, the store by an invariant -/
theorem lc_inv {S : Sto} {v n : Nat} {c : Bool} {own : List (Str × Nat)} {it ifs elt : VE} {env : VEnv} (I : Nat → List DD → Sto → Prop) (hI : evI F k none it env S = .ok (.rng 0 n) S) (hn : n ≤ 1000) (hown : own.map (·.2) = [v])
    (ht : ∀ i acc S, i < n → I i acc S → ∃ acc' S', ((evT F k none ifs (env.set v (some (.int (i : Nat)))) S).bind fun t S =>
        if t = true then (ev F k none elt (env.set v (some (.int (i : Nat)))) S).bind fun y S => addL acc y S else .ok acc S) = .ok acc' S' ∧ I (i + 1) acc' S') (h0 : I 0 [] S) :
    ∃ ds S', ev F k none (.lc c own (.tloc v) it ifs elt) env S = VI.alloc c ds S' ∧ I n ds S' := by
  have e : ev F k none (.lc c own (.tloc v) it ifs elt) env S = (evI F k none it env S).bind fun j S =>
      (compL j (fun x acc S => ((asg F k none (.tloc v) x (wipeE env (own.map (·.2))) S).bind fun env2 S => (evT F k none ifs env2 S).bind fun t S =>
        if t = true then (ev F k none elt env2 S).bind fun y S => addL acc y S else .ok acc S).calm) fuelW 0 [] S).bind fun ds S => VI.alloc c ds S := by simp only [ev]
  rw [e, hI]
  simp only [bok]
  obtain ⟨ds, S', h1, h2⟩ := compL_inv (j := .rng 0 n) (turn := fun x acc S => ((asg F k none (.tloc v) x (wipeE env (own.map (·.2))) S).bind fun env2 S => (evT F k none ifs env2 S).bind fun t S =>
        if t = true then (ev F k none elt env2 S).bind fun y S => addL acc y S else .ok acc S).calm) I (n := n) (fun i acc T hi h => by
    obtain ⟨acc', T', h1, h2⟩ := ht i acc T hi h
    refine ⟨_, acc', T', rng_lt _ hi, ?_, h2⟩
    have e4 : asg F k none (.tloc v) (.int (i : Nat)) (wipeE env (own.map (·.2))) T = .ok (env.set v (some (.int (i : Nat)))) T := by
      rw [hown]
      simp only [asg, wipeE, List.set_set]
    rw [e4]
    simp only [bok]
    rw [h1]
    rfl) (fun acc T h => rng_end T) (f := fuelW) (i := 0) (acc := []) (S := S) (Nat.zero_le _) (by unfold fuelW; omega) h0
  exact ⟨ds, S', by rw [h1]; rfl, h2⟩
end
section
variable {U : Sto} {f b n p : Nat} {it : List DD}
theorem Nn_of {M : Mat} (h : ∀ r ∈ M, ∀ l ∈ r, okL l) : Nn M := fun u v x hx => by
  unfold gt at hx
  by_cases hu : u < M.length
  · rw [List.getD_eq_getElem?_getD (l := M), List.getElem?_eq_getElem hu] at hx
    simp only [Option.getD_some] at hx
    by_cases hv : v < M[u].length
    · rw [List.getD_eq_getElem?_getD, List.getElem?_eq_getElem hv] at hx
      exact h _ (List.getElem_mem hu) _ (List.getElem_mem hv) x hx
    · rw [List.getD_eq_getElem?_getD, List.getElem?_eq_none (by omega)] at hx
      cases hx
  · rw [List.getD_eq_getElem?_getD (l := M), List.getElem?_eq_none (by omega)] at hx
    simp at hx
theorem rows_lst {S : Sto} {M : Mat} : RowsAt S (M.map fun r => DD.lst (dRow r)) M := ⟨by simp, fun i r h => ⟨.lst (dRow r), by rw [List.getElem?_map, h]; rfl, fun _ => rfl⟩⟩
theorem table_ok (hf : 3 ≤ f) (hb : b < U.length) (hi : Bit n it) (hn : n ≤ 10000000) (hp : 2 ≤ p ∧ p ≤ 5) (g : Bool) :
    ∃ (M : Mat) (it' : List DD), callF G f 28 [.cel b, .int (p : Nat), .bl g] (U.set b it) = .ok (dLM M) (U.set b it') ∧ Wf p M ∧ Nn M ∧ Bit (n + 200) it' := by
  obtain ⟨m, rfl⟩ : ∃ m, f = m + 1 := ⟨f - 1, by omega⟩
  rw [callF_eq (D := ⟨3, 7, b_law_table, false⟩) rfl rfl]
  show ∃ M it', endOf _ (U.set b it).length (VI.run (callF G m) (U.set b it).length b_law_table [some (.cel b), some (.int (p : Nat)), some (.bl g), none, none, none, none] (U.set b it)) = _ ∧ _
  rw [set_len]
  obtain ⟨v1, j1, a1, b1, c1⟩ := tk (f := m) (k := 4) (by omega) hb hi (by omega) (by omega)
  have a1 : callF G m 23 [.cel b, .int 4] (U.set b it) = .ok (.int (v1 : Nat)) (U.set b j1) := a1
  have ad : ∀ (u v : Int) T, binD .add false (.int u) (.int v) T = .ok (.int (u + v)) T := fun _ _ _ => rfl
  let E : VEnv := [some (.cel b), some (.int (p : Nat)), some (.bl g), some (.int (1 + (v1 : Nat))), none, none, none]
  have s1 : VI.run (callF G m) U.length (.asg (.tloc 3) (.bin .add false (.int 1) (.call 23 (.cons (.loc 0) (.cons (.int 4) .nil))))) [some (.cel b), some (.int (p : Nat)), some (.bl g), none, none, none, none] (U.set b it) = .go .nx E (U.set b j1) := by
    simp only [VI.run, ev, evs, List.getElem?_cons_zero, bok, sok, a1, ad, asg]
    rfl
  have elt : ∀ (i j n1 : Nat) (it1 : List DD), Bit n1 it1 → n1 ≤ n + 300 → ∃ (l : LN) (it2 : List DD), ev (callF G m) U.length none (.itev (.cmp .eq (.call 23 (.cons (.loc 0) (.cons (.bin .add false (.loc 3) (.int 1)) .nil))) (.int 0)) .non (.call 27 (.cons (.loc 0) (.cons (.loc 2) .nil)))) [some (.cel b), some (.int (p : Nat)), some (.bl g), some (.int (1 + (v1 : Nat))), none, some (.int (j : Nat)), some (.int (i : Nat))] (U.set b it1) = .ok (dL l) (U.set b it2) ∧ okL l ∧ Bit (n1 + 7) it2 := fun i j n1 it1 h1 h2 => by
    obtain ⟨v, j2, x1, x2, x3⟩ := tk (f := m) (k := 1 + v1 + 1) (by omega) hb h1 (by omega) (by omega)
    have x1 : callF G m 23 [.cel b, .int (1 + (v1 : Int) + 1)] (U.set b it1) = .ok (.int (v : Nat)) (U.set b j2) := x1
    have t : evT (callF G m) U.length none (.cmp .eq (.call 23 (.cons (.loc 0) (.cons (.bin .add false (.loc 3) (.int 1)) .nil))) (.int 0)) [some (.cel b), some (.int (p : Nat)), some (.bl g), some (.int (1 + (v1 : Nat))), none, some (.int (j : Nat)), some (.int (i : Nat))] (U.set b it1) = .ok (decide (v = 0)) (U.set b j2) := by
      have q : ∀ T, cmpD .eq (.int (v : Nat)) (.int 0) T = .ok (.bl (decide (v = 0))) T := fun T => eq_nat (i := v) (j := 0)
      simp only [evT, ev, evs, List.getElem?_cons_zero, List.getElem?_cons_succ, bok, ad, x1, q, of_bl']
    have u : ∀ A B C : VE, ∀ env T, ev (callF G m) U.length none (.itev A B C) env T = (evT (callF G m) U.length none A env T).bind fun t S => if t = true then ev (callF G m) U.length none B env S else ev (callF G m) U.length none C env S := fun A B C env T => by simp only [ev]
    rw [u, t]
    simp only [bok, decide_eq_true_eq]
    by_cases h0 : v = 0
    · refine ⟨none, j2, ?_, (fun x h => by cases h), x3.mono (by omega)⟩
      rw [if_pos h0]
      simp only [ev]
      rfl
    · obtain ⟨w, j3, y1, y2⟩ := length_ok (f := m) (by omega) hb x3 (by omega) g
      refine ⟨some (w : Int), j3, ?_, (fun x h => by cases h; exact Int.natCast_nonneg w), y2.mono (by omega)⟩
      rw [if_neg h0]
      simp only [ev, evs, List.getElem?_cons_zero, List.getElem?_cons_succ, bok, y1]
      rfl
  have inner : ∀ (i n1 : Nat) (it1 : List DD), Bit n1 it1 → n1 ≤ n + 200 → ∃ (r : List LN) (it2 : List DD), ev (callF G m) U.length none (.lc false [("j", 5)] (.tloc 5) (.irg1 (.loc 1)) .nil (.itev (.cmp .eq (.call 23 (.cons (.loc 0) (.cons (.bin .add false (.loc 3) (.int 1)) .nil))) (.int 0)) .non (.call 27 (.cons (.loc 0) (.cons (.loc 2) .nil))))) [some (.cel b), some (.int (p : Nat)), some (.bl g), some (.int (1 + (v1 : Nat))), none, none, some (.int (i : Nat))] (U.set b it1) = .ok (.lst (dRow r)) (U.set b it2) ∧ r.length = p ∧ (∀ l ∈ r, okL l) ∧ Bit (n1 + 35) it2 := fun i n1 it1 h1 h2 => by
    obtain ⟨ds, S', e1, r, rfl, e3, e4, it2, rfl, e5⟩ := lc_inv (F := callF G m) (k := U.length) (S := U.set b it1) (v := 5) (n := p) (c := false) (own := [("j", 5)]) (it := .irg1 (.loc 1)) (ifs := .nil) (elt := .itev (.cmp .eq (.call 23 (.cons (.loc 0) (.cons (.bin .add false (.loc 3) (.int 1)) .nil))) (.int 0)) .non (.call 27 (.cons (.loc 0) (.cons (.loc 2) .nil)))) (env := [some (.cel b), some (.int (p : Nat)), some (.bl g), some (.int (1 + (v1 : Nat))), none, none, some (.int (i : Nat))])
      (fun j acc T => ∃ r : List LN, acc = dRow r ∧ r.length = j ∧ (∀ l ∈ r, okL l) ∧ ∃ it2, T = U.set b it2 ∧ Bit (n1 + 7 * j) it2) (evI_rng (ev_loc rfl) (by omega)) (by omega) rfl (fun j acc T hj h => by
        obtain ⟨r, rfl, h3, h4, it2, rfl, h5⟩ := h
        obtain ⟨l, it3, g1, g2, g3⟩ := elt i j _ it2 h5 (by omega)
        refine ⟨dRow (r ++ [l]), U.set b it3, ?_, r ++ [l], rfl, by simp [h3], fun x hx => ?_, it3, rfl, g3.mono (by omega)⟩
        · simp only [List.set_cons_succ, List.set_cons_zero, evT, bok, if_true, g1]
          rw [add_ok' (by rw [dRow, List.length_map]; omega)]
          simp [dRow]
        · rcases List.mem_append.mp hx with hx | hx
          · exact h4 x hx
          · rw [List.mem_singleton.mp hx]; exact g2) ⟨[], rfl, rfl, by simp, it1, rfl, h1.mono (by omega)⟩
    exact ⟨r, it2, e1, e3, e4, e5.mono (by omega)⟩
  obtain ⟨ds, S', e1, M, rfl, e3, e4, it2, rfl, e5⟩ := lc_inv (F := callF G m) (k := U.length) (S := U.set b j1) (v := 6) (n := p) (c := false) (own := [("i", 6)]) (it := .irg1 (.loc 1)) (ifs := .nil) (elt := (.lc false [("j", 5)] (.tloc 5) (.irg1 (.loc 1)) .nil (.itev (.cmp .eq (.call 23 (.cons (.loc 0) (.cons (.bin .add false (.loc 3) (.int 1)) .nil))) (.int 0)) .non (.call 27 (.cons (.loc 0) (.cons (.loc 2) .nil)))))) (env := E)
      (fun i acc T => ∃ M : Mat, acc = M.map (fun r => DD.lst (dRow r)) ∧ M.length = i ∧ (∀ r ∈ M, r.length = p ∧ ∀ l ∈ r, okL l) ∧ ∃ it2, T = U.set b it2 ∧ Bit (n + 1 + 35 * i) it2) (evI_rng (ev_loc rfl) (by omega)) (by omega) rfl (fun i acc T hi h => by
        obtain ⟨M, rfl, h3, h4, it2, rfl, h5⟩ := h
        obtain ⟨r, it3, g1, g2, g3, g4⟩ := inner i _ it2 h5 (by omega)
        refine ⟨(M ++ [r]).map (fun r => DD.lst (dRow r)), U.set b it3, ?_, M ++ [r], rfl, by simp [h3], fun x hx => ?_, it3, rfl, g4.mono (by omega)⟩
        · show ((evT (callF G m) U.length none .nil _ (U.set b it2)).bind fun t S => if t = true then (ev (callF G m) U.length none _ [some (.cel b), some (.int (p : Nat)), some (.bl g), some (.int (1 + (v1 : Nat))), none, none, some (.int (i : Nat))] S).bind fun y S => addL _ y S else .ok _ S) = _
          simp only [evT, bok, if_true, g1]
          rw [add_ok' (by rw [List.length_map]; omega)]
          simp
        · rcases List.mem_append.mp hx with hx | hx
          · exact h4 x hx
          · rw [List.mem_singleton.mp hx]; exact ⟨g2, g3⟩) ⟨[], rfl, rfl, by simp, j1, rfl, c1.mono (by omega)⟩
  have hw : Wf p M := ⟨e3, fun r hr => (e4 r hr).1⟩
  have cl := f_law_closed (S := U.set b it2) (f := m) (by omega) (rows := .lst (M.map fun r => DD.lst (dRow r))) (ds := M.map fun r => DD.lst (dRow r)) (fun _ => rfl) (fun _ => rfl) rows_lst (n := p) (by omega) hw
  refine ⟨fw p M, it2, ?_, hw.fw, Nn.fw hw (Nn_of fun r hr => (e4 r hr).2), e5.mono (by omega)⟩
  have s2 : VI.run (callF G m) U.length (.asg (.tloc 4) (.lc false [("i", 6)] (.tloc 6) (.irg1 (.loc 1)) .nil (.lc false [("j", 5)] (.tloc 5) (.irg1 (.loc 1)) .nil (.itev (.cmp .eq (.call 23 (.cons (.loc 0) (.cons (.bin .add false (.loc 3) (.int 1)) .nil))) (.int 0)) .non (.call 27 (.cons (.loc 0) (.cons (.loc 2) .nil))))))) E (U.set b j1) = .go .nx (E.set 4 (some (.lst (M.map fun r => DD.lst (dRow r))))) (U.set b it2) := by
    simp only [VI.run, e1]
    show (R.ok (DD.lst (M.map fun r => DD.lst (dRow r))) (U.set b it2)).stm E _ = _
    simp only [sok, asg]
  have rt : ev (callF G m) U.length none (.call 26 (.cons (.loc 4) .nil)) (E.set 4 (some (.lst (M.map fun r => DD.lst (dRow r))))) (U.set b it2) = .ok (dLM (fw p M)) (U.set b it2) := by
    have l4 : ev (callF G m) U.length none (.loc 4) (E.set 4 (some (.lst (M.map fun r => DD.lst (dRow r))))) (U.set b it2) = .ok (.lst (M.map fun r => DD.lst (dRow r))) (U.set b it2) := ev_loc rfl
    have u : ∀ A : VE, ∀ env T, ev (callF G m) U.length none (.call 26 (.cons A .nil)) env T = (ev (callF G m) U.length none A env T).bind fun x S => callF G m 26 [x] S := fun A env T => by simp only [ev, evs, bind_bind, bok]
    rw [u, l4]
    exact cl
  have tot : VI.run (callF G m) U.length b_law_table [some (.cel b), some (.int (p : Nat)), some (.bl g), none, none, none, none] (U.set b it) = .go (.rt (dLM (fw p M))) (E.set 4 (some (.lst (M.map fun r => DD.lst (dRow r))))) (U.set b it2) := by
    unfold b_law_table
    rw [seq_go s1, seq_go s2]
    exact ret_go rt
  rw [tot]
  exact end_rt rfl flat_LM (by rw [← set_len (U := U) (b := b) (it' := it2)]; exact take_self _)
end
end K36

set_option Elab.async false
set_option linter.all false
set_option maxRecDepth 100000
set_option maxHeartbeats 4000000
namespace K36
open VI PySem L2
section
variable {F : FT} {k : Nat} {S : Sto}
theorem lc_mapI {c : Bool} {own : List (Str × Nat)} {tv it elt : VE} {env : VEnv} {d : DD} {xs : List DD} {g : DD → DD} (hI : evI F k none it env S = .ok (.seq d) S) (hs : seqOf S d = some xs)
    (ht : ∀ y, y ∈ xs → ∃ env2, asg F k none tv y (wipeE env (own.map (·.2))) S = .ok env2 S ∧ ev F k none elt env2 S = .ok (g y) S) (hl : xs.length ≤ 1000) :
    ev F k none (.lc c own tv it .nil elt) env S = VI.alloc c (xs.map g) S := by
  have e : ev F k none (.lc c own tv it .nil elt) env S = (evI F k none it env S).bind fun j S =>
      (compL j (fun x acc S => ((asg F k none tv x (wipeE env (own.map (·.2))) S).bind fun env2 S => (evT F k none .nil env2 S).bind fun t S =>
        if t = true then (ev F k none elt env2 S).bind fun y S => addL acc y S else .ok acc S).calm) fuelW 0 [] S).bind fun ds S => VI.alloc c ds S := by simp only [ev]
  rw [e, hI]
  simp only [bok]
  obtain ⟨ds, S', h1, h2, h3⟩ := compL_inv (j := .seq d) (turn := fun x acc S => ((asg F k none tv x (wipeE env (own.map (·.2))) S).bind fun env2 S => (evT F k none .nil env2 S).bind fun t S =>
        if t = true then (ev F k none elt env2 S).bind fun y S => addL acc y S else .ok acc S).calm) (fun i acc T => T = S ∧ acc = (xs.take i).map g) (n := xs.length) (fun i acc T hi h => by
    obtain ⟨rfl, rfl⟩ := h
    obtain ⟨env2, e1, e2⟩ := ht xs[i] (List.getElem_mem hi)
    refine ⟨xs[i], (xs.take (i + 1)).map g, T, ?_, ?_, rfl, rfl⟩
    · show (seqOf T d).map (fun xs => xs[i]?) = _
      rw [hs]
      show some xs[i]? = _
      rw [List.getElem?_eq_getElem hi]
    · have e3 : ∀ T, evT F k none .nil env2 T = .ok true T := fun T => by simp only [evT]
      simp only [e1, e3, bok, if_true, e2]
      rw [add_ok' (by rw [List.length_map, List.length_take]; omega), List.take_succ_eq_append_getElem hi]
      simp only [cok, List.map_append, List.map_cons, List.map_nil]) (fun acc T h => by
    obtain ⟨rfl, rfl⟩ := h
    show (seqOf T d).map (fun ys => ys[xs.length]?) = _
    rw [hs]
    show some xs[xs.length]? = _
    rw [List.getElem?_eq_none (Nat.le_refl _)]) (f := fuelW) (i := 0) (acc := []) (S := S) (Nat.zero_le _) (by unfold fuelW; omega) ⟨rfl, rfl⟩
  rw [h1, h2, h3, List.take_length]
  rfl
end
section
variable {U : Sto} {f b k n p : Nat} {it : List DD}
theorem tkA {T : Sto} (hf : 1 ≤ f) (hb : b < U.length) (hi : Bit n it) (hn : n ≤ 1000000000) (hk : 1 ≤ k ∧ k ≤ 10000000) :
    ∃ (v : Nat) (it' : List DD), callF G f 23 [.cel b, .int (k : Nat)] (U.set b it ++ T) = .ok (.int (v : Nat)) (U.set b it' ++ T) ∧ v < k ∧ Bit (n + 1) it' := by
  obtain ⟨v, it', h1, h2, h3⟩ := take_ok (U := U.set b it ++ T) (f := f) (b := b) hf (by rw [List.getElem?_append_left (by simpa using hb), List.getElem?_set_self hb]) hi hn hk
  rw [set_app1 (by simpa using hb), List.set_set] at h1
  exact ⟨v, it', h1, h2, h3⟩
theorem pairs_nodup (hp : p ≤ 5) : (pairsOf p).Nodup := by
  match p, hp with
  | 0, _ => decide
  | 1, _ => decide
  | 2, _ => decide
  | 3, _ => decide
  | 4, _ => decide
  | 5, _ => decide
  | p + 6, h => omega
theorem pairs_pos (hp : 2 ≤ p ∧ p ≤ 5) : 1 ≤ (pairsOf p).length := by
  have : ((0, 1) : Nat × Nat) ∈ pairsOf p := pairs_mem.mpr ⟨by omega, by omega, by omega⟩
  exact List.length_pos_of_mem this
def mkA (M : Mat) (q : Nat × Nat) : An := (q.1, q.2, gt M q.1 q.2)
theorem va_mk {M : Mat} (hp : p ≤ 5) (hn : Nn M) {rs : List (Nat × Nat)} (hr : rs.Perm (pairsOf p)) (c : Nat) : VA p ((rs.take c).map (mkA M)) := by
  refine ⟨fun a ha => ?_, ?_, ?_⟩
  · obtain ⟨q, hq, rfl⟩ := List.mem_map.mp ha
    have := pairs_mem.mp (hr.mem_iff.mp (List.mem_of_mem_take hq))
    exact ⟨this.1, this.2.1, this.2.2, fun x hx => hn _ _ x hx⟩
  · rw [List.map_map]
    have : ((fun a : An => (a.1, a.2.1)) ∘ mkA M) = id := rfl
    rw [this, List.map_id]
    exact ((hr.nodup_iff.mpr (pairs_nodup hp))).sublist (List.take_sublist _ _)
  · have h1 := hr.length_eq
    have h2 := pairs_len hp
    rw [List.length_map, List.length_take]
    omega
theorem va_set {as : List An} (h : VA p as) {a : Nat} (ha : a < as.length) {l : LN} (hl : okL l) : VA p (as.set a (as[a].1, as[a].2.1, l)) := by
  refine ⟨fun x hx => ?_, ?_, ?_⟩
  · rcases List.mem_or_eq_of_mem_set hx with hx | rfl
    · exact h.ok x hx
    · obtain ⟨h1, h2, h3, _⟩ := h.ok _ (List.getElem_mem ha)
      exact ⟨h1, h2, h3, hl⟩
  · rw [List.map_set]
    have : (as.map fun a => (a.1, a.2.1)).set a (as[a].1, as[a].2.1) = as.map fun a => (a.1, a.2.1) := by
      refine List.ext_getElem? fun i => ?_
      by_cases hi : i = a
      · subst hi
        rw [List.getElem?_set_self (by simpa using ha), List.getElem?_map, List.getElem?_eq_getElem ha]
        rfl
      · rw [List.getElem?_set_ne (Ne.symm hi)]
    rw [this]
    exact h.nd
  · rw [List.length_set]
    exact h.len
theorem cut_take {xs : List DD} {c : Nat} : cutL xs none (some (c : Int)) = xs.take c := by
  unfold cutL
  rw [HT.sIx_none, HT.sIx_nat, List.drop_zero, Nat.sub_zero]
  by_cases h : c ≤ xs.length
  · rw [Nat.min_eq_left h]
  · rw [Nat.min_eq_right (by omega), List.take_of_length_le (Nat.le_refl _), List.take_of_length_le (by omega)]
/-- how many of the pairs -/
theorem count_ok (hf : 1 ≤ f) (hb : b < U.length) (hi : Bit n it) (hn : n ≤ 100000000) {env : VEnv} {ps : List DD} (h0 : env[0]? = some (some (.cel b))) (h4 : env[4]? = some (some (.lst ps))) (hl : 1 ≤ ps.length ∧ ps.length ≤ 25) {j : Nat} :
    ∃ (c : Nat) (it' : List DD), ev (callF G f) j none (.ix (.lst false (.cons (.bi .len false (.cons (.loc 4) .nil)) (.cons (.call 23 (.cons (.loc 0) (.cons (.bin .add false (.bi .len false (.cons (.loc 4) .nil)) (.int 1)) .nil))) (.cons (.bi .min false (.cons (.int 3) (.cons (.bi .len false (.cons (.loc 4) .nil)) .nil))) (.cons (.call 23 (.cons (.loc 0) (.cons (.int 3) .nil))) .nil))))) (.call 23 (.cons (.loc 0) (.cons (.int 4) .nil)))) env (U.set b it) = .ok (.int (c : Nat)) (U.set b it') ∧ Bit (n + 3) it' := by
  obtain ⟨v1, j1, a1, b1, c1⟩ := tk (k := ps.length + 1) hf hb hi (by omega) (by omega)
  obtain ⟨v2, j2, a2, b2, c2⟩ := tk (k := 3) hf hb c1 (by omega) (by omega)
  obtain ⟨v3, j3, a3, b3, c3⟩ := tk (k := 4) hf hb c2 (by omega) (by omega)
  have a1 : callF G f 23 [.cel b, .int ((ps.length : Int) + 1)] (U.set b it) = .ok (.int (v1 : Nat)) (U.set b j1) := a1
  have a2 : callF G f 23 [.cel b, .int 3] (U.set b j1) = .ok (.int (v2 : Nat)) (U.set b j2) := a2
  have a3 : callF G f 23 [.cel b, .int 4] (U.set b j2) = .ok (.int (v3 : Nat)) (U.set b j3) := a3
  have ad : ∀ (u v : Int) T, binD .add false (.int u) (.int v) T = .ok (.int (u + v)) T := fun _ _ _ => rfl
  have ln : ∀ T, biD .len false [.lst ps] T = .ok (.int (ps.length : Nat)) T := fun _ => rfl
  have mn : ∀ T, biD .min false [.int 3, .int (ps.length : Nat)] T = .ok (.int ((min 3 ps.length : Nat) : Int)) T := fun T => by
    show R.ok (DD.int (if (ps.length : Int) < 3 then (ps.length : Int) else 3)) T = _
    congr 2
    split <;> omega
  have lst : ev (callF G f) j none (.lst false (.cons (.bi .len false (.cons (.loc 4) .nil)) (.cons (.call 23 (.cons (.loc 0) (.cons (.bin .add false (.bi .len false (.cons (.loc 4) .nil)) (.int 1)) .nil))) (.cons (.bi .min false (.cons (.int 3) (.cons (.bi .len false (.cons (.loc 4) .nil)) .nil))) (.cons (.call 23 (.cons (.loc 0) (.cons (.int 3) .nil))) .nil))))) env (U.set b it) = .ok (.lst [.int (ps.length : Nat), .int (v1 : Nat), .int ((min 3 ps.length : Nat) : Int), .int (v2 : Nat)]) (U.set b j2) := by
    simp only [ev, evs, h0, h4, bok, ln, ad, mn, a1, a2]
    rfl
  have u : ∀ A B : VE, ∀ T, ev (callF G f) j none (.ix A B) env T = (ev (callF G f) j none A env T).bind fun x T1 => (ev (callF G f) j none B env T1).bind fun y T2 => ixD x y T2 := fun A B T => by simp only [ev]
  have cl : ev (callF G f) j none (.call 23 (.cons (.loc 0) (.cons (.int 4) .nil))) env (U.set b j2) = .ok (.int (v3 : Nat)) (U.set b j3) := by
    simp only [ev, evs, h0, bok, a3]
  have pick : ∃ w : Nat, ixD (.lst [.int (ps.length : Nat), .int (v1 : Nat), .int ((min 3 ps.length : Nat) : Int), .int (v2 : Nat)]) (.int (v3 : Nat)) (U.set b j3) = .ok (.int (w : Nat)) (U.set b j3) := by
    match v3, b3 with
    | 0, _ => exact ⟨_, rfl⟩
    | 1, _ => exact ⟨_, rfl⟩
    | 2, _ => exact ⟨_, rfl⟩
    | 3, _ => exact ⟨_, rfl⟩
    | v + 4, h => omega
  obtain ⟨w, hw⟩ := pick
  refine ⟨w, j3, ?_, c3.mono (by omega)⟩
  rw [u, lst]
  simp only [bok, cl, hw]
end
end K36

set_option Elab.async false
set_option linter.all false
set_option maxRecDepth 100000
set_option maxHeartbeats 4000000
namespace K36
open VI PySem L2
def chg : VS := (.seq (.asg (.tloc 9) (.call 23 (.cons (.loc 0) (.cons (.bi .len false (.cons (.loc 6) .nil)) .nil)))) (.seq (.asg (.ttup (.cons (.tloc 7) (.cons (.tloc 8) (.cons (.tloc 10) .nil)))) (.ix (.loc 6) (.loc 9))) (.seq (.asg (.tloc 11) (.ix (.lst false (.cons (.int 1) (.cons (.int 2) (.cons (.int 9) .nil)))) (.call 23 (.cons (.loc 0) (.cons (.int 3) .nil))))) (.seq (.ite (.cmp .iss (.loc 10) .non) (.seq (.asg (.tsub (.loc 6) (.loc 9)) (.tup (.cons (.loc 7) (.cons (.loc 8) (.cons (.loc 11) .nil))))) .skip) (.seq (.asg (.tsub (.loc 6) (.loc 9)) (.tup (.cons (.loc 7) (.cons (.loc 8) (.cons (.ix (.lst false (.cons (.bin .add false (.loc 10) (.loc 11)) (.cons (.bi .max false (.cons (.int 0) (.cons (.bin .sub false (.loc 10) (.loc 11)) .nil))) (.cons .non (.cons (.bin .add false (.loc 10) (.int 1)) .nil))))) (.loc 3)) .nil))))) .skip)) .skip))))
section
variable {U : Sto} {f b k n p : Nat} {it : List DD}
theorem refs_dA {c : Nat} : ∀ {as : List An}, refsL c (as.map dA) = true → True := fun _ => trivial
theorem set_found {as : List An} {a : Nat} {x : An} {V : Sto} (ha : a < as.length) (hV : V.length = U.length) : setD U.length (.cel U.length) (.int (a : Nat)) (dA x) (V ++ [as.map dA]) = .ok () (V ++ [(as.set a x).map dA]) := by
  have at1 : (V ++ [as.map dA])[U.length]? = some (as.map dA) := by
    rw [List.getElem?_append_right (by omega), hV]; simp
  have ix : ixN (as.map dA).length (a : Int) = some a := by
    unfold L2.ixN
    rw [if_pos (Int.natCast_nonneg a), if_pos (by rw [List.length_map]; omega)]
    rfl
  simp only [setD, at1, ix]
  rw [if_pos (.inl (Nat.le_refl _)), List.set_append_right _ _ (by omega), hV, List.map_set]
  simp
theorem chg_ok (hf : 1 ≤ f) (hb : b < U.length) (hi : Bit n it) (hn : n ≤ 100000000) {as : List An} (ha : VA p as) (h1 : 1 ≤ as.length) (hw : k < 4) {d : DD} {d2 d4 d5 : DD} :
    ∃ (as' : List An) (env' : VEnv) (it' : List DD), VI.run (callF G f) U.length chg [some (.cel b), some d, some d2, some (.int (k : Nat)), some d4, some d5, some (.cel U.length), none, none, none, none, none] (U.set b it ++ [as.map dA]) = .go .nx env' (U.set b it' ++ [as'.map dA]) ∧ env'[6]? = some (some (.cel U.length)) ∧ VA p as' ∧ as'.length = as.length ∧ Bit (n + 2) it' := by
  have hlen := ha.len
  obtain ⟨a, j1, a1, b1, c1⟩ := tkA (k := as.length) (T := [as.map dA]) hf hb hi (by omega) (by omega)
  obtain ⟨v, j2, a2, b2, c2⟩ := tkA (k := 3) (T := [as.map dA]) hf hb c1 (by omega) (by omega)
  have a2 : callF G f 23 [.cel b, .int 3] (U.set b j1 ++ [as.map dA]) = .ok (.int (v : Nat)) (U.set b j2 ++ [as.map dA]) := a2
  have at1 : ∀ j, (U.set b j ++ [as.map dA])[U.length]? = some (as.map dA) := fun j => by
    rw [List.getElem?_append_right (by simp)]; simp
  have ln : ∀ j, biD .len false [.cel U.length] (U.set b j ++ [as.map dA]) = .ok (.int (as.length : Nat)) (U.set b j ++ [as.map dA]) := fun j => by
    simp only [biD, seqOf, at1, List.length_map]
  have s1 : VI.run (callF G f) U.length (.asg (.tloc 9) (.call 23 (.cons (.loc 0) (.cons (.bi .len false (.cons (.loc 6) .nil)) .nil)))) [some (.cel b), some d, some d2, some (.int (k : Nat)), some d4, some d5, some (.cel U.length), none, none, none, none, none] (U.set b it ++ [as.map dA]) = .go .nx [some (.cel b), some d, some d2, some (.int (k : Nat)), some d4, some d5, some (.cel U.length), none, none, some (.int (a : Nat)), none, none] (U.set b j1 ++ [as.map dA]) := by
    simp only [VI.run, ev, evs, List.getElem?_cons_zero, List.getElem?_cons_succ, bok, sok, ln, a1, asg, List.set_cons_succ, List.set_cons_zero]
  have ga : ixD (.cel U.length) (.int (a : Nat)) (U.set b j1 ++ [as.map dA]) = .ok (dA as[a]) (U.set b j1 ++ [as.map dA]) := by
    refine ix_seq (xs := as.map dA) (by simp only [seqOf, at1]) a ?_
    rw [List.getElem?_map, List.getElem?_eq_getElem b1]
    rfl
  obtain ⟨q1, q2, q3, q4⟩ := ha.ok _ (List.getElem_mem b1)
  have s2 : VI.run (callF G f) U.length (.asg (.ttup (.cons (.tloc 7) (.cons (.tloc 8) (.cons (.tloc 10) .nil)))) (.ix (.loc 6) (.loc 9))) [some (.cel b), some d, some d2, some (.int (k : Nat)), some d4, some d5, some (.cel U.length), none, none, some (.int (a : Nat)), none, none] (U.set b j1 ++ [as.map dA]) = .go .nx [some (.cel b), some d, some d2, some (.int (k : Nat)), some d4, some d5, some (.cel U.length), some (.int (as[a].1 : Nat)), some (.int (as[a].2.1 : Nat)), some (.int (a : Nat)), some (dL as[a].2.2), none] (U.set b j1 ++ [as.map dA]) := by
    simp only [VI.run, ev, List.getElem?_cons_zero, List.getElem?_cons_succ, bok, sok, ga, dA, asg, asgs, seqOf, List.set_cons_succ, List.set_cons_zero]
  obtain ⟨w, hw1, hw2⟩ : ∃ w : Nat, ixD (.lst [.int 1, .int 2, .int 9]) (.int (v : Nat)) (U.set b j2 ++ [as.map dA]) = .ok (.int (w : Nat)) (U.set b j2 ++ [as.map dA]) ∧ 0 ≤ w := by
    match v, b2 with
    | 0, _ => exact ⟨1, rfl, by omega⟩
    | 1, _ => exact ⟨2, rfl, by omega⟩
    | 2, _ => exact ⟨9, rfl, by omega⟩
    | v + 3, h => omega
  have s3 : VI.run (callF G f) U.length (.asg (.tloc 11) (.ix (.lst false (.cons (.int 1) (.cons (.int 2) (.cons (.int 9) .nil)))) (.call 23 (.cons (.loc 0) (.cons (.int 3) .nil))))) [some (.cel b), some d, some d2, some (.int (k : Nat)), some d4, some d5, some (.cel U.length), some (.int (as[a].1 : Nat)), some (.int (as[a].2.1 : Nat)), some (.int (a : Nat)), some (dL as[a].2.2), none] (U.set b j1 ++ [as.map dA]) = .go .nx [some (.cel b), some d, some d2, some (.int (k : Nat)), some d4, some d5, some (.cel U.length), some (.int (as[a].1 : Nat)), some (.int (as[a].2.1 : Nat)), some (.int (a : Nat)), some (dL as[a].2.2), some (.int (w : Nat))] (U.set b j2 ++ [as.map dA]) := by
    have al : ∀ T, VI.alloc false [.int 1, .int 2, .int 9] T = .ok (.lst [.int 1, .int 2, .int 9]) T := fun _ => rfl
    have al2 : ([.int 1, .int 2, .int 9] : List DD).length ≤ lenMax := by decide
    simp only [VI.run, ev, evs, List.getElem?_cons_zero, List.getElem?_cons_succ, bok, sok, al2, if_true, al, a2, hw1, asg, List.set_cons_succ, List.set_cons_zero]
  have sub : ∀ (e : VE) (l : LN), okL l → ev (callF G f) U.length none e [some (.cel b), some d, some d2, some (.int (k : Nat)), some d4, some d5, some (.cel U.length), some (.int (as[a].1 : Nat)), some (.int (as[a].2.1 : Nat)), some (.int (a : Nat)), some (dL as[a].2.2), some (.int (w : Nat))] (U.set b j2 ++ [as.map dA]) = .ok (dA (as[a].1, as[a].2.1, l)) (U.set b j2 ++ [as.map dA]) → VI.run (callF G f) U.length (.seq (.asg (.tsub (.loc 6) (.loc 9)) e) .skip) [some (.cel b), some d, some d2, some (.int (k : Nat)), some d4, some d5, some (.cel U.length), some (.int (as[a].1 : Nat)), some (.int (as[a].2.1 : Nat)), some (.int (a : Nat)), some (dL as[a].2.2), some (.int (w : Nat))] (U.set b j2 ++ [as.map dA]) = .go .nx [some (.cel b), some d, some d2, some (.int (k : Nat)), some d4, some d5, some (.cel U.length), some (.int (as[a].1 : Nat)), some (.int (as[a].2.1 : Nat)), some (.int (a : Nat)), some (dL as[a].2.2), some (.int (w : Nat))] (U.set b j2 ++ [(as.set a (as[a].1, as[a].2.1, l)).map dA]) := fun e l hl he => by
    have st := set_found (U := U) (x := (as[a].1, as[a].2.1, l)) (V := U.set b j2) b1 (by simp)
    have : VI.run (callF G f) U.length (.asg (.tsub (.loc 6) (.loc 9)) e) [some (.cel b), some d, some d2, some (.int (k : Nat)), some d4, some d5, some (.cel U.length), some (.int (as[a].1 : Nat)), some (.int (as[a].2.1 : Nat)), some (.int (a : Nat)), some (dL as[a].2.2), some (.int (w : Nat))] (U.set b j2 ++ [as.map dA]) = .go .nx [some (.cel b), some d, some d2, some (.int (k : Nat)), some d4, some d5, some (.cel U.length), some (.int (as[a].1 : Nat)), some (.int (as[a].2.1 : Nat)), some (.int (a : Nat)), some (dL as[a].2.2), some (.int (w : Nat))] (U.set b j2 ++ [(as.set a (as[a].1, as[a].2.1, l)).map dA]) := by
      have u : ∀ e env T, VI.run (callF G f) U.length (.asg (.tsub (.loc 6) (.loc 9)) e) env T = (ev (callF G f) U.length none e env T).stm env fun d S => (asg (callF G f) U.length none (.tsub (.loc 6) (.loc 9)) d env S).stm env fun env S => .go .nx env S := fun e env T => by simp only [VI.run]
      rw [u, he]
      simp only [sok, asg, ev, List.getElem?_cons_zero, List.getElem?_cons_succ, bok, cok, st]
    rw [seq_go this, skip_go]
  have iteU : ∀ A B C env T, VI.run (callF G f) U.length (.ite A B C) env T = (evT (callF G f) U.length none A env T).stm env fun t S => if t = true then VI.run (callF G f) U.length B env S else VI.run (callF G f) U.length C env S := fun A B C env T => by simp only [VI.run]
  have tst : evT (callF G f) U.length none (.cmp .iss (.loc 10) .non) [some (.cel b), some d, some d2, some (.int (k : Nat)), some d4, some d5, some (.cel U.length), some (.int (as[a].1 : Nat)), some (.int (as[a].2.1 : Nat)), some (.int (a : Nat)), some (dL as[a].2.2), some (.int (w : Nat))] (U.set b j2 ++ [as.map dA]) = .ok as[a].2.2.isNone (U.set b j2 ++ [as.map dA]) := by
    simp only [evT, ev, List.getElem?_cons_zero, List.getElem?_cons_succ, bok, iss_dL, of_bl']
  have fin : ∃ l : LN, okL l ∧ VI.run (callF G f) U.length (.ite (.cmp .iss (.loc 10) .non) (.seq (.asg (.tsub (.loc 6) (.loc 9)) (.tup (.cons (.loc 7) (.cons (.loc 8) (.cons (.loc 11) .nil))))) .skip) (.seq (.asg (.tsub (.loc 6) (.loc 9)) (.tup (.cons (.loc 7) (.cons (.loc 8) (.cons (.ix (.lst false (.cons (.bin .add false (.loc 10) (.loc 11)) (.cons (.bi .max false (.cons (.int 0) (.cons (.bin .sub false (.loc 10) (.loc 11)) .nil))) (.cons .non (.cons (.bin .add false (.loc 10) (.int 1)) .nil))))) (.loc 3)) .nil))))) .skip)) [some (.cel b), some d, some d2, some (.int (k : Nat)), some d4, some d5, some (.cel U.length), some (.int (as[a].1 : Nat)), some (.int (as[a].2.1 : Nat)), some (.int (a : Nat)), some (dL as[a].2.2), some (.int (w : Nat))] (U.set b j2 ++ [as.map dA]) = .go .nx [some (.cel b), some d, some d2, some (.int (k : Nat)), some d4, some d5, some (.cel U.length), some (.int (as[a].1 : Nat)), some (.int (as[a].2.1 : Nat)), some (.int (a : Nat)), some (dL as[a].2.2), some (.int (w : Nat))] (U.set b j2 ++ [(as.set a (as[a].1, as[a].2.1, l)).map dA]) := by
    rw [iteU, tst]
    simp only [sok]
    cases q : as[a].2.2 with
    | none =>
      refine ⟨some (w : Int), fun x h => by cases h; exact Int.natCast_nonneg w, ?_⟩
      have := sub (.tup (.cons (.loc 7) (.cons (.loc 8) (.cons (.loc 11) .nil)))) (some (w : Int)) (fun x h => by cases h; exact Int.natCast_nonneg w) (by
        simp only [ev, evs, List.getElem?_cons_zero, List.getElem?_cons_succ, bok]
        rfl)
      rw [q] at this
      exact this
    | some z =>
      have hz : 0 ≤ z := q4 z q
      have pick : ∃ l : LN, okL l ∧ ∀ T, ixD (.lst [.int (z + w), .int (mx 0 (z - w)), .non, .int (z + 1)]) (.int (k : Nat)) T = .ok (dL l) T := by
        match k, hw with
        | 0, _ => exact ⟨some (z + w), fun x h => by cases h; omega, fun _ => rfl⟩
        | 1, _ => exact ⟨some (mx 0 (z - w)), fun x h => by cases h; unfold mx; split <;> omega, fun _ => rfl⟩
        | 2, _ => exact ⟨none, (fun x h => by cases h), fun _ => rfl⟩
        | 3, _ => exact ⟨some (z + 1), fun x h => by cases h; omega, fun _ => rfl⟩
        | k + 4, h => omega
      obtain ⟨l, l1, l2⟩ := pick
      refine ⟨l, l1, ?_⟩
      have := sub (.tup (.cons (.loc 7) (.cons (.loc 8) (.cons (.ix (.lst false (.cons (.bin .add false (.loc 10) (.loc 11)) (.cons (.bi .max false (.cons (.int 0) (.cons (.bin .sub false (.loc 10) (.loc 11)) .nil))) (.cons .non (.cons (.bin .add false (.loc 10) (.int 1)) .nil))))) (.loc 3)) .nil)))) l l1 (by
        have t1 : ∀ T, binD .add false (dL (some z)) (.int (w : Nat)) T = .ok (.int (z + w)) T := fun _ => rfl
        have t2 : ∀ T, binD .sub false (dL (some z)) (.int (w : Nat)) T = .ok (.int (z - w)) T := fun _ => rfl
        have t3 : ∀ T, binD .add false (dL (some z)) (.int 1) T = .ok (.int (z + 1)) T := fun _ => rfl
        have al : ∀ T, VI.alloc false [.int (z + w), .int (mx 0 (z - w)), .non, .int (z + 1)] T = .ok (.lst [.int (z + w), .int (mx 0 (z - w)), .non, .int (z + 1)]) T := fun _ => rfl
        have al2 : ([.int (z + w), .int (mx 0 (z - w)), .non, .int (z + 1)] : List DD).length ≤ lenMax := by simp [lenMax]
        simp only [ev, evs, List.getElem?_cons_zero, List.getElem?_cons_succ, bok, q, t1, t2, t3, max_ok, al2, if_true, al, l2]
        rfl)
      rw [q] at this
      exact this
  obtain ⟨l, l1, s4⟩ := fin
  refine ⟨_, [some (.cel b), some d, some d2, some (.int (k : Nat)), some d4, some d5, some (.cel U.length), some (.int (as[a].1 : Nat)), some (.int (as[a].2.1 : Nat)), some (.int (a : Nat)), some (dL as[a].2.2), some (.int (w : Nat))], j2, ?_, rfl, va_set ha b1 l1, List.length_set, c2.mono (by omega)⟩
  · unfold chg
    rw [seq_go s1, seq_go s2, seq_go s3, seq_go s4, skip_go]
end
end K36

set_option Elab.async false
set_option linter.all false
set_option maxRecDepth 100000
set_option maxHeartbeats 4000000
namespace K36
open VI PySem L2
section
variable {U : Sto} {f b k n p : Nat} {it : List DD}
theorem snap_dAs {k m : Nat} {T : Sto} : ∀ l : List An, mapO (snap k T (m + 2)) (l.map dA) = some (l.map dA)
  | [] => rfl
  | a :: l => by
    have h := snap_dAs (k := k) (m := m) (T := T) l
    have h1 : snap k T (m + 2) (dA a) = some (dA a) := by
      obtain ⟨i, j, x⟩ := a
      cases x <;> rfl
    simp only [List.map_cons, mapO, h1, h, Option.map_some]
theorem answers_ok (hf : 3 ≤ f) (hb : b < U.length) (hi : Bit n it) (hn : n ≤ 10000000) (hp : 2 ≤ p ∧ p ≤ 5) {M : Mat} (hw : Wf p M) (hM : Nn M) :
    ∃ (as : List An) (it' : List DD), callF G f 30 [.cel b, dLM M] (U.set b it) = .ok (.lst (as.map dA)) (U.set b it') ∧ VA p as ∧ as.length ≤ 25 ∧ Bit (n + 100) it' := by
  obtain ⟨m, rfl⟩ : ∃ m, f = m + 1 := ⟨f - 1, by omega⟩
  rw [callF_eq (D := ⟨2, 12, b_law_answers, false⟩) rfl rfl]
  show ∃ as it', endOf _ (U.set b it).length (VI.run (callF G m) (U.set b it).length b_law_answers [some (.cel b), some (dLM M), none, none, none, none, none, none, none, none, none, none] (U.set b it)) = _ ∧ _
  rw [set_len]
  have hpl := pairs_len hp.2
  have hpp := pairs_pos hp
  obtain ⟨w, j1, a1, b1, c1⟩ := tk (f := m) (k := 8) (by omega) hb hi (by omega) (by omega)
  have a1 : callF G m 23 [.cel b, .int 8] (U.set b it) = .ok (.int (w : Nat)) (U.set b j1) := a1
  have ln : ∀ T, biD .len false [dLM M] T = .ok (.int (p : Nat)) T := fun T => by
    show R.ok (DD.int ((M.map fun r => DD.lst (dRow r)).length : Nat)) T = _
    rw [List.length_map, hw.1]
  have s1 : VI.run (callF G m) U.length (.par (.cons (.tloc 2) (.cons (.tloc 3) .nil)) (.cons (.bi .len false (.cons (.loc 1) .nil)) (.cons (.call 23 (.cons (.loc 0) (.cons (.int 8) .nil))) .nil))) [some (.cel b), some (dLM M), none, none, none, none, none, none, none, none, none, none] (U.set b it) = .go .nx [some (.cel b), some (dLM M), some (.int (p : Nat)), some (.int (w : Nat)), none, none, none, none, none, none, none, none] (U.set b j1) := by
    simp only [VI.run, evs, ev, List.getElem?_cons_zero, List.getElem?_cons_succ, bok, sok, ln, a1, asgs, asg, List.set_cons_succ, List.set_cons_zero]
  have pr := f_law_pairs (U := U.set b j1) (f := m) (by omega) hp.2
  obtain ⟨rs, j2, a2, b2, c2⟩ := mixed_ok (f := m) (U := U.set b j1) (b := b) (by omega) (by rw [List.getElem?_set_self hb]) c1 (ps := pairsOf p) (by omega) (by omega)
  rw [List.set_set] at a2
  have s2 : VI.run (callF G m) U.length (.asg (.tloc 4) (.call 24 (.cons (.loc 0) (.cons (.call 29 (.cons (.loc 2) .nil)) .nil)))) [some (.cel b), some (dLM M), some (.int (p : Nat)), some (.int (w : Nat)), none, none, none, none, none, none, none, none] (U.set b j1) = .go .nx [some (.cel b), some (dLM M), some (.int (p : Nat)), some (.int (w : Nat)), some (.lst (rs.map dP)), none, none, none, none, none, none, none] (U.set b j2) := by
    simp only [VI.run, evs, ev, List.getElem?_cons_zero, List.getElem?_cons_succ, bok, sok, pr, a2, asg, List.set_cons_succ, List.set_cons_zero]
  have rl := b2.length_eq
  obtain ⟨c, j3, a3, c3⟩ := count_ok (f := m) (by omega) hb c2 (by omega) (env := [some (.cel b), some (dLM M), some (.int (p : Nat)), some (.int (w : Nat)), some (.lst (rs.map dP)), none, none, none, none, none, none, none]) (ps := rs.map dP) rfl rfl (by rw [List.length_map]; omega) (j := U.length)
  have s3 : VI.run (callF G m) U.length (.asg (.tloc 5) (.ix (.lst false (.cons (.bi .len false (.cons (.loc 4) .nil)) (.cons (.call 23 (.cons (.loc 0) (.cons (.bin .add false (.bi .len false (.cons (.loc 4) .nil)) (.int 1)) .nil))) (.cons (.bi .min false (.cons (.int 3) (.cons (.bi .len false (.cons (.loc 4) .nil)) .nil))) (.cons (.call 23 (.cons (.loc 0) (.cons (.int 3) .nil))) .nil))))) (.call 23 (.cons (.loc 0) (.cons (.int 4) .nil))))) [some (.cel b), some (dLM M), some (.int (p : Nat)), some (.int (w : Nat)), some (.lst (rs.map dP)), none, none, none, none, none, none, none] (U.set b j2) = .go .nx [some (.cel b), some (dLM M), some (.int (p : Nat)), some (.int (w : Nat)), some (.lst (rs.map dP)), some (.int (c : Nat)), none, none, none, none, none, none] (U.set b j3) := by
    have u : ∀ e env T, VI.run (callF G m) U.length (.asg (.tloc 5) e) env T = (ev (callF G m) U.length none e env T).stm env fun d S => (asg (callF G m) U.length none (.tloc 5) d env S).stm env fun env S => .go .nx env S := fun e env T => by simp only [VI.run]
    rw [u, a3]
    simp only [sok, asg, List.set_cons_succ, List.set_cons_zero]
  have ha := va_mk (p := p) hp.2 hM b2 c
  have hal : ((rs.take c).map (mkA M)).length ≤ 25 := by rw [List.length_map, List.length_take]; omega
  have lc := lc_mapI (F := callF G m) (k := U.length) (S := U.set b j3) (c := true) (own := [("i", 7), ("j", 8)]) (tv := .ttup (.cons (.tloc 7) (.cons (.tloc 8) .nil))) (it := .iseq (.sl false (.loc 4) .nil (.cons (.loc 5) .nil))) (elt := .tup (.cons (.loc 7) (.cons (.loc 8) (.cons (.ix (.ix (.loc 1) (.loc 7)) (.loc 8)) .nil)))) (env := [some (.cel b), some (dLM M), some (.int (p : Nat)), some (.int (w : Nat)), some (.lst (rs.map dP)), some (.int (c : Nat)), none, none, none, none, none, none]) (d := .lst ((rs.take c).map dP)) (xs := (rs.take c).map dP)
    (g := fun y => match y with
      | .tup [.int i, .int j] => dA (mkA M (i.toNat, j.toNat))
      | _ => .non) (by
      have sl : slD false (.lst (rs.map dP)) none (some (c : Int)) (U.set b j3) = .ok (.lst ((rs.take c).map dP)) (U.set b j3) := by
        show VI.alloc false (cutL (rs.map dP) none (some (c : Int))) (U.set b j3) = _
        rw [cut_take, ← List.map_take]
        rfl
      simp only [evI, ev, evO, List.getElem?_cons_zero, List.getElem?_cons_succ, bok, sl]
      rfl) rfl (fun y hy => by
      obtain ⟨⟨i, j⟩, hq, rfl⟩ := List.mem_map.mp hy
      have := pairs_mem.mp (b2.mem_iff.mp (List.mem_of_mem_take hq))
      refine ⟨[some (.cel b), some (dLM M), some (.int (p : Nat)), some (.int (w : Nat)), some (.lst (rs.map dP)), some (.int (c : Nat)), none, some (.int (i : Nat)), some (.int (j : Nat)), none, none, none], ?_, ?_⟩
      · simp only [dP, List.map_cons, List.map_nil, wipeE, List.set_cons_succ, List.set_cons_zero, asg, asgs, seqOf, bok]
      · have e1 := ev_L2 (F := callF G m) (k := U.length) (T := U.set b j3) (env := [some (.cel b), some (dLM M), some (.int (p : Nat)), some (.int (w : Nat)), some (.lst (rs.map dP)), some (.int (c : Nat)), none, some (.int (i : Nat)), some (.int (j : Nat)), none, none, none]) hw (a := 1) (i := 7) (j := 8) rfl rfl rfl this.1 this.2.1
        have u : ∀ A : VE, ∀ env T, ev (callF G m) U.length none (.tup (.cons (.loc 7) (.cons (.loc 8) (.cons A .nil)))) env T = (ev (callF G m) U.length none (.loc 7) env T).bind fun x T => (ev (callF G m) U.length none (.loc 8) env T).bind fun y T => (ev (callF G m) U.length none A env T).bind fun z T => .ok (.tup [x, y, z]) T := fun A env T => by
          have q : ∀ x y z : DD, [x, y, z].length ≤ lenMax := fun x y z => by simp [lenMax]
          simp only [ev, evs, bind_bind, bok, q, if_true]
        rw [u, ev_loc rfl]
        simp only [bok]
        rw [ev_loc rfl]
        simp only [bok]
        rw [e1]
        rfl) (by rw [List.length_map, List.length_take]; omega)
  have mp : ((rs.take c).map dP).map (fun y => match y with
      | .tup [.int i, .int j] => dA (mkA M (i.toNat, j.toNat))
      | _ => .non) = ((rs.take c).map (mkA M)).map dA := by
    rw [List.map_map, List.map_map]
    rfl
  rw [mp] at lc
  generalize (rs.take c).map (mkA M) = as at ha hal lc
  have al : VI.alloc true (as.map dA) (U.set b j3) = .ok (.cel U.length) (U.set b j3 ++ [as.map dA]) := by
    show R.ok (DD.cel (U.set b j3).length) (U.set b j3 ++ [as.map dA]) = _
    rw [set_len]
  rw [al] at lc
  have s4 : VI.run (callF G m) U.length (.asg (.tloc 6) (.lc true [("i", 7), ("j", 8)] (.ttup (.cons (.tloc 7) (.cons (.tloc 8) .nil))) (.iseq (.sl false (.loc 4) .nil (.cons (.loc 5) .nil))) .nil (.tup (.cons (.loc 7) (.cons (.loc 8) (.cons (.ix (.ix (.loc 1) (.loc 7)) (.loc 8)) .nil)))))) [some (.cel b), some (dLM M), some (.int (p : Nat)), some (.int (w : Nat)), some (.lst (rs.map dP)), some (.int (c : Nat)), none, none, none, none, none, none] (U.set b j3) = .go .nx [some (.cel b), some (dLM M), some (.int (p : Nat)), some (.int (w : Nat)), some (.lst (rs.map dP)), some (.int (c : Nat)), some (.cel U.length), none, none, none, none, none] (U.set b j3 ++ [as.map dA]) := by
    have u : ∀ e env T, VI.run (callF G m) U.length (.asg (.tloc 6) e) env T = (ev (callF G m) U.length none e env T).stm env fun d S => (asg (callF G m) U.length none (.tloc 6) d env S).stm env fun env S => .go .nx env S := fun e env T => by simp only [VI.run]
    rw [u, lc]
    simp only [sok, asg, List.set_cons_succ, List.set_cons_zero]
  have iteU : ∀ A B C env T, VI.run (callF G m) U.length (.ite A B C) env T = (evT (callF G m) U.length none A env T).stm env fun t S => if t = true then VI.run (callF G m) U.length B env S else VI.run (callF G m) U.length C env S := fun A B C env T => by simp only [VI.run]
  have tst : evT (callF G m) U.length none (.andv (.cmp .ne (.loc 6) (.lst false .nil)) (.cmp .lt (.loc 3) (.int 4))) [some (.cel b), some (dLM M), some (.int (p : Nat)), some (.int (w : Nat)), some (.lst (rs.map dP)), some (.int (c : Nat)), some (.cel U.length), none, none, none, none, none] (U.set b j3 ++ [as.map dA]) = .ok (!as.isEmpty && decide (w < 4)) (U.set b j3 ++ [as.map dA]) := by
    have hne := ne_cel (S := U.set b j3 ++ [as.map dA]) (n := U.length) (xs := as.map dA) (by rw [List.getElem?_append_right (by simp)]; simp) (fun x hx => by obtain ⟨q, _, rfl⟩ := List.mem_map.mp hx; exact pln_dA q)
    have l0 : ∀ env T, ev (callF G m) U.length none (.lst false .nil) env T = .ok (.lst []) T := fun env T => by simp only [ev, evs, bok]; rfl
    have lt : ∀ T, cmpD .lt (.int (w : Nat)) (.int 4) T = .ok (.bl (decide (w < 4))) T := fun T => by
      show R.ok (DD.bl (decide ((w : Int) < 4))) T = _
      congr 2
      by_cases h : w < 4 <;> simp [h] <;> omega
    have l2 : ∀ T, ev (callF G m) U.length none (.loc 6) [some (.cel b), some (dLM M), some (.int (p : Nat)), some (.int (w : Nat)), some (.lst (rs.map dP)), some (.int (c : Nat)), some (.cel U.length), none, none, none, none, none] T = .ok (.cel U.length) T := fun T => ev_loc rfl
    have l3 : ∀ T, ev (callF G m) U.length none (.loc 3) [some (.cel b), some (dLM M), some (.int (p : Nat)), some (.int (w : Nat)), some (.lst (rs.map dP)), some (.int (c : Nat)), some (.cel U.length), none, none, none, none, none] T = .ok (.int (w : Nat)) T := fun T => ev_loc rfl
    have l4 : ∀ env T, ev (callF G m) U.length none (.int 4) env T = .ok (.int 4) T := fun env T => by simp only [ev]
    have em : (as.map dA).isEmpty = as.isEmpty := by cases as <;> rfl
    rw [em] at hne
    simp only [evT, l0, l2, l3, l4, bok, hne, of_bl', lt]
    cases as.isEmpty <;> rfl
  have s5 : ∃ (as' : List An) (env' : VEnv) (it' : List DD), VI.run (callF G m) U.length (.ite (.andv (.cmp .ne (.loc 6) (.lst false .nil)) (.cmp .lt (.loc 3) (.int 4))) chg .skip) [some (.cel b), some (dLM M), some (.int (p : Nat)), some (.int (w : Nat)), some (.lst (rs.map dP)), some (.int (c : Nat)), some (.cel U.length), none, none, none, none, none] (U.set b j3 ++ [as.map dA]) = .go .nx env' (U.set b it' ++ [as'.map dA]) ∧ env'[6]? = some (some (.cel U.length)) ∧ VA p as' ∧ as'.length ≤ 25 ∧ Bit (n + 50) it' := by
    by_cases h : (!as.isEmpty && decide (w < 4)) = true
    · have h' := h
      rw [Bool.and_eq_true, decide_eq_true_eq] at h'
      have h1 : 1 ≤ as.length := by
        cases as with
        | nil => simp at h'
        | cons _ _ => simp
      obtain ⟨as', env', it', e1, e2, e3, e4, e5⟩ := chg_ok (f := m) (k := w) (p := p) (by omega) hb c3 (by omega) ha h1 h'.2 (d := dLM M) (d2 := .int (p : Nat)) (d4 := .lst (rs.map dP)) (d5 := .int (c : Nat))
      refine ⟨as', env', it', ?_, e2, e3, by omega, e5.mono (by omega)⟩
      rw [iteU, tst, h]
      exact e1
    · refine ⟨as, [some (.cel b), some (dLM M), some (.int (p : Nat)), some (.int (w : Nat)), some (.lst (rs.map dP)), some (.int (c : Nat)), some (.cel U.length), none, none, none, none, none], j3, ?_, rfl, ha, hal, c3.mono (by omega)⟩
      rw [iteU, tst]
      simp only [sok, h, if_false, Bool.false_eq_true]
      exact skip_go
  obtain ⟨as', env', it', s5, e2, e3, e4, e5⟩ := s5
  have tot : VI.run (callF G m) U.length b_law_answers [some (.cel b), some (dLM M), none, none, none, none, none, none, none, none, none, none] (U.set b it) = .go (.rt (.cel U.length)) env' (U.set b it' ++ [as'.map dA]) := by
    unfold b_law_answers
    unfold chg at s5
    rw [seq_go s1, seq_go s2, seq_go s3, seq_go s4, seq_go s5]
    exact ret_go (ev_loc e2)
  refine ⟨as', it', ?_, e3, e4, e5.mono (by omega)⟩
  rw [tot]
  show finD false U.length (.cel U.length) (U.set b it' ++ [as'.map dA]) .ok = _
  unfold finD
  have sn : snap U.length (U.set b it' ++ [as'.map dA]) depthMax (.cel U.length) = some (.lst (as'.map dA)) := by
    show (if U.length < U.length then some (DD.cel U.length) else match (U.set b it' ++ [as'.map dA])[U.length]? with
      | some xs => (mapO (snap U.length (U.set b it' ++ [as'.map dA]) 23) xs).map .lst
      | none => none) = _
    rw [if_neg (by omega), List.getElem?_append_right (by simp)]
    simp only [set_len, Nat.sub_self, List.getElem?_cons_zero]
    rw [snap_dAs]
    rfl
  rw [sn, if_neg (by simp)]
  have tk : (U.set b it' ++ [as'.map dA]).take U.length = U.set b it' := by
    rw [← set_len (U := U) (b := b) (it' := it')]
    exact take_app _ _
  rw [tk]
end
end K36

set_option Elab.async false
set_option linter.all false
set_option maxRecDepth 100000
set_option maxHeartbeats 4000000
set_option exponentiation.threshold 500
namespace K36
open VI PySem L2
section
variable {U : Sto} {f k : Nat}
theorem cell_ok (hf : 1 ≤ f) (ns : List Int) (hk : k ≤ 1000) : ∃ z : Int, callF G f 21 [.scr ns, .int (k : Nat)] U = .ok (.int z) U := by
  obtain ⟨m, rfl⟩ : ∃ m, f = m + 1 := ⟨f - 1, by omega⟩
  rw [callF_eq (D := ⟨2, 2, b_law_cell, false⟩) rfl rfl]
  show ∃ z, endOf _ U.length (VI.run (callF G m) U.length b_law_cell [some (.scr ns), some (.int (k : Nat))] U) = _
  have tst : evT (callF G m) U.length none (.cmp .lt (.loc 1) (.bi .len false (.cons (.loc 0) .nil))) [some (.scr ns), some (.int (k : Nat))] U = .ok (decide (k < ns.length)) U := by
    have ln : ∀ T, biD .len false [.scr ns] T = .ok (.int (ns.length : Nat)) T := fun _ => rfl
    have lt : ∀ T, cmpD .lt (.int (k : Nat)) (.int (ns.length : Nat)) T = .ok (.bl (decide (k < ns.length))) T := fun T => by
      show R.ok (DD.bl (decide ((k : Int) < (ns.length : Int)))) T = _
      congr 2
      by_cases h : k < ns.length <;> simp [h]
    simp only [evT, ev, evs, List.getElem?_cons_zero, List.getElem?_cons_succ, bok, ln, lt, of_bl']
  have u : ∀ A B C : VE, ∀ env T, ev (callF G m) U.length none (.itev A B C) env T = (evT (callF G m) U.length none A env T).bind fun t S => if t = true then ev (callF G m) U.length none B env S else ev (callF G m) U.length none C env S := fun A B C env T => by simp only [ev]
  have e : ∃ z, ev (callF G m) U.length none (.itev (.cmp .lt (.loc 1) (.bi .len false (.cons (.loc 0) .nil))) (.ix (.loc 0) (.loc 1)) (.bin .add false (.bin .mul false (.int 8101) (.loc 1)) (.bin .mod false (.bi .int false (.cons (.bi .sum false (.cons (.sl false (.loc 0) .nil (.cons (.int 1) .nil)) .nil)) .nil)) (.int 1000003)))) [some (.scr ns), some (.int (k : Nat))] U = .ok (.int z) U := by
    rw [u, tst]
    simp only [bok, decide_eq_true_eq]
    by_cases h : k < ns.length
    · refine ⟨ns[k], ?_⟩
      rw [if_pos h]
      have : ixD (.scr ns) (.int (k : Nat)) U = .ok (.int ns[k]) U := by
        simp only [ixD, atI_nat, List.getElem?_eq_getElem h]
      simp only [ev, List.getElem?_cons_zero, List.getElem?_cons_succ, bok, this]
    · rw [if_neg h]
      have sl : slD false (.scr ns) none (some 1) U = .ok (.lst ((ns.take 1).map DD.int)) U := by
        show VI.alloc false ((cutL ns none (some 1)).map DD.int) U = _
        have : cutL ns none (some 1) = ns.take 1 := by
          unfold cutL
          rw [HT.sIx_none, List.drop_zero, Nat.sub_zero]
          rw [show (some (1 : Int)) = some ((1 : Nat) : Int) from rfl, HT.sIx_nat]
          cases ns with
          | nil => rfl
          | cons a l => simp [Nat.min_eq_left]
        rw [this]
        rfl
      have b1 : ∀ T, binD .mul false (.int 8101) (.int (k : Nat)) T = .ok (.int (8101 * (k : Nat))) T := fun T => b_mul (.inl (by decide))
      have ad : ∀ (u v : Int) T, binD .add false (.int u) (.int v) T = .ok (.int (u + v)) T := fun _ _ _ => rfl
      have it : ∀ (u : Int) T, biD .int false [.int u] T = .ok (.int u) T := fun _ _ => rfl
      have sm : ∃ s : Int, biD .sum false [.lst ((ns.take 1).map DD.int)] U = .ok (.int s) U := by
        cases ns with
        | nil => exact ⟨_, rfl⟩
        | cons a l => exact ⟨_, rfl⟩
      obtain ⟨s, sm⟩ := sm
      have md : ∀ T, binD .mod false (.int s) (.int 1000003) T = .ok (.int (s % 1000003)) T := fun T => b_mod (by decide)
      exact ⟨8101 * (k : Nat) + s % 1000003, by simp only [ev, evs, evO, List.getElem?_cons_zero, List.getElem?_cons_succ, bok, sl, b1, sm, it, md, ad]⟩
  obtain ⟨z, e⟩ := e
  refine ⟨z, ?_⟩
  have : VI.run (callF G m) U.length b_law_cell [some (.scr ns), some (.int (k : Nat))] U = .go (.rt (.int z)) [some (.scr ns), some (.int (k : Nat))] U := by
    unfold b_law_cell
    exact ret_go e
  rw [this]
  exact end_rt rfl (Flat.int _) (take_self U)
theorem box_ok (hf : 1 ≤ f) (z : Int) : ∃ it : List DD, callF G f 22 [.int z] U = .ok (.cel U.length) (U ++ [it]) ∧ Bit 0 it := by
  obtain ⟨m, rfl⟩ : ∃ m, f = m + 1 := ⟨f - 1, by omega⟩
  rw [callF_eq (D := ⟨1, 1, b_law_box, true⟩) rfl rfl]
  show ∃ it, endOf _ U.length (VI.run (callF G m) U.length b_law_box [some (.int z)] U) = _ ∧ _
  let a : Int := if z < 0 then -z else z
  have ha : 0 ≤ a := by show 0 ≤ (if z < 0 then -z else z); split <;> omega
  have ab : ∀ T, biD .abs false [.int z] T = .ok (.int a) T := fun _ => rfl
  have p1 : ∀ T, binD .pow false (.int 10) (.int 18) T = .ok (.int (10 ^ 18)) T := fun T => b_pow ⟨by omega, by omega, by decide⟩
  have ge : ∀ T, cmpD .ge (.int a) (.int (10 ^ 18)) T = .ok (.bl (decide (a ≥ 10 ^ 18))) T := fun _ => rfl
  have it : ∀ (u : Int) T, biD .int false [.int u] T = .ok (.int u) T := fun _ _ => rfl
  have md : ∀ T, binD .mod false (.int a) (.int 2147483629) T = .ok (.int (a % 2147483629)) T := fun T => b_mod (by decide)
  have al : ∀ x y z w : DD, [x, y, z, w].length ≤ lenMax := fun x y z w => by simp [lenMax]
  have e : ev (callF G m) U.length none (.lst true (.cons (.bi .abs false (.cons (.loc 0) .nil)) (.cons (.cmp .ge (.bi .abs false (.cons (.loc 0) .nil)) (.bin .pow false (.int 10) (.int 18))) (.cons (.bin .mod false (.bi .int false (.cons (.bi .abs false (.cons (.loc 0) .nil)) .nil)) (.int 2147483629)) (.cons (.int 0) .nil))))) [some (.int z)] U = .ok (.cel U.length) (U ++ [[.int a, .bl (decide (a ≥ 10 ^ 18)), .int (a % 2147483629), .int 0]]) := by
    simp only [ev, evs, List.getElem?_cons_zero, bok, ab, p1, ge, it, md, al, if_true]
    rfl
  refine ⟨[.int a, .bl (decide (a ≥ 10 ^ 18)), .int (a % 2147483629), .int 0], ?_, a, decide (a ≥ 10 ^ 18), a % 2147483629, 0, rfl, ha, by omega, by omega, by omega, by omega⟩
  have : VI.run (callF G m) U.length b_law_box [some (.int z)] U = .go (.rt (.cel U.length)) [some (.int z)] (U ++ [[.int a, .bl (decide (a ≥ 10 ^ 18)), .int (a % 2147483629), .int 0]]) := by
    unfold b_law_box
    exact ret_go e
  rw [this]
  rfl
end
end K36

set_option Elab.async false
set_option linter.all false
set_option maxRecDepth 100000
set_option maxHeartbeats 4000000
namespace K36
open VI PySem L2
section
variable {S : Sto} {f p i j : Nat} {as : List An} {d : DD}
theorem b_int {t : Int} {T : Sto} : cmpD .eq (.int t) (.int 0) T = .ok (.bl (decide (t = 0))) T := by
  show R.ok (DD.bl (t == 0)) T = _
  congr 2
theorem pm2 {x y : DD} : mapO (fun i : Nat => [x, y][i]?) [1, 0] = some [y, x] := rfl
theorem pm4 {x y z w : DD} : mapO (fun i : Nat => [x, y, z, w][i]?) [3, 2, 1, 0] = some [w, z, y, x] := rfl
theorem len2 : 2 ≤ lenMax := by decide
theorem al2 {x y : DD} {T : Sto} : VI.alloc false [x, y] T = .ok (.lst [x, y]) T := rfl
theorem asked0 (hf : 8 ≤ f) (hp : 2 ≤ p ∧ p ≤ 5) (hv : ValAt S d as) (ha : VA p as) (t : Int) (q : DD) :
    callF G f 34 [.int 0, .int (p : Nat), d, q, .int t] S = .ok (.lst [.str "told", .bl (agr (W p as) as)]) S := by
  obtain ⟨m, rfl⟩ : ∃ m, f = m + 1 := ⟨f - 1, by omega⟩
  rw [callF_eq (D := ⟨5, 6, b_law_asked, true⟩) rfl rfl]
  have g1 := f_possible (f := m) (by omega) hp hv ha
  have : VI.run (callF G m) S.length b_law_asked [some (.int 0), some (.int (p : Nat)), some d, some q, some (.int t), none] S = .go (.rt (.lst [.str "told", .bl (agr (W p as) as)])) [some (.int 0), some (.int (p : Nat)), some d, some q, some (.int t), none] S := by
    by_cases ht : t = 0 <;> simp [b_law_asked, VI.run, ev, evs, evT, bok, sok, gnx, grt, of_bl', b_int, ht, g1, pm2, len2, al2]
  exact (congrArg _ this).trans rfl
theorem asked1 (hf : 9 ≤ f) (hp : 2 ≤ p ∧ p ≤ 5) (hv : ValAt S d as) (ha : VA p as) (hs : SnapId S d) (hi : i < p) (hj : j < p) (hne : i ≠ j) (t : Int) :
    callF G f 34 [.int 1, .int (p : Nat), d, .tup [.int (i : Nat), .int (j : Nat)], .int t] S = if agr (W p as) as = true then .ok (.lst [.str "told", .tup [dL (rng (W p as) i j as).1, dL (rng (W p as) i j as).2]]) S else .ok (.lst [.str "answers", d]) S := by
  obtain ⟨m, rfl⟩ : ∃ m, f = m + 1 := ⟨f - 1, by omega⟩
  rw [callF_eq (D := ⟨5, 6, b_law_asked, true⟩) rfl rfl]
  have g1 := f_between (f := m) (by omega) hp hv ha hs hi hj hne
  have i0 : ∀ T, ixD (.tup [.int (i : Nat), .int (j : Nat)]) (.int 0) T = .ok (.int (i : Nat)) T := fun _ => rfl
  have i1 : ∀ T, ixD (.tup [.int (i : Nat), .int (j : Nat)]) (.int 1) T = .ok (.int (j : Nat)) T := fun _ => rfl
  cases qa : agr (W p as) as with
  | true =>
    rw [qa] at g1
    simp only [if_true] at g1 ⊢
    have : VI.run (callF G m) S.length b_law_asked [some (.int 1), some (.int (p : Nat)), some d, some (.tup [.int (i : Nat), .int (j : Nat)]), some (.int t), none] S = .go (.rt (.lst [.str "told", .tup [dL (rng (W p as) i j as).1, dL (rng (W p as) i j as).2]])) [some (.int 1), some (.int (p : Nat)), some d, some (.tup [.int (i : Nat), .int (j : Nat)]), some (.int t), none] S := by
      have e0 : ∀ T, cmpD .eq (.int 1) (.int 0) T = .ok (.bl false) T := fun _ => rfl
      have e1 : ∀ T, cmpD .eq (.int 1) (.int 1) T = .ok (.bl true) T := fun _ => rfl
      by_cases ht : t = 0 <;> simp [b_law_asked, VI.run, ev, evs, evT, bok, sok, gnx, grt, of_bl', e0, e1, b_int, ht, g1, i0, i1, pm4, len2, al2]
    exact (congrArg _ this).trans rfl
  | false =>
    rw [qa] at g1
    simp only [Bool.false_eq_true, if_false] at g1 ⊢
    have : VI.run (callF G m) S.length b_law_asked [some (.int 1), some (.int (p : Nat)), some d, some (.tup [.int (i : Nat), .int (j : Nat)]), some (.int t), none] S = .go (.rt (.lst [.str "answers", d])) [some (.int 1), some (.int (p : Nat)), some d, some (.tup [.int (i : Nat), .int (j : Nat)]), some (.int t), none] S := by
      have e0 : ∀ T, cmpD .eq (.int 1) (.int 0) T = .ok (.bl false) T := fun _ => rfl
      have e1 : ∀ T, cmpD .eq (.int 1) (.int 1) T = .ok (.bl true) T := fun _ => rfl
      by_cases ht : t = 0 <;> simp [b_law_asked, VI.run, hand, suite, takesC, ev, evs, evT, bok, sok, bexc, sexc, gexc, cok, gnx, grt, of_bl', e0, e1, b_int, ht, g1, i0, i1, pm4, len2, al2]
    exact (congrArg _ this).trans rfl
theorem asked2 (hf : 9 ≤ f) (hp : 2 ≤ p ∧ p ≤ 5) (hv : ValAt S d as) (ha : VA p as) (hs : SnapId S d) (t : Int) (q : DD) :
    callF G f 34 [.int 2, .int (p : Nat), d, q, .int t] S = if agr (W p as) as = true then .ok (.lst [.str "told", .cel S.length]) (S ++ [(setl (W p as) as p).map dP]) else .ok (.lst [.str "answers", d]) S := by
  obtain ⟨m, rfl⟩ : ∃ m, f = m + 1 := ⟨f - 1, by omega⟩
  rw [callF_eq (D := ⟨5, 6, b_law_asked, true⟩) rfl rfl]
  have g1 := f_settled (f := m) (by omega) hp hv ha hs
  have e0 : ∀ T, cmpD .eq (.int 2) (.int 0) T = .ok (.bl false) T := fun _ => rfl
  have e1 : ∀ T, cmpD .eq (.int 2) (.int 1) T = .ok (.bl false) T := fun _ => rfl
  cases qa : agr (W p as) as with
  | true =>
    rw [qa] at g1
    simp only [if_true] at g1 ⊢
    have : VI.run (callF G m) S.length b_law_asked [some (.int 2), some (.int (p : Nat)), some d, some q, some (.int t), none] S = .go (.rt (.lst [.str "told", .cel S.length])) [some (.int 2), some (.int (p : Nat)), some d, some q, some (.int t), none] (S ++ [(setl (W p as) as p).map dP]) := by
      by_cases ht : t = 0 <;> simp [b_law_asked, VI.run, ev, evs, evT, bok, sok, gnx, grt, of_bl', e0, e1, b_int, ht, g1, pm2, len2, al2]
    exact (congrArg _ this).trans rfl
  | false =>
    rw [qa] at g1
    simp only [Bool.false_eq_true, if_false] at g1 ⊢
    have : VI.run (callF G m) S.length b_law_asked [some (.int 2), some (.int (p : Nat)), some d, some q, some (.int t), none] S = .go (.rt (.lst [.str "answers", d])) [some (.int 2), some (.int (p : Nat)), some d, some q, some (.int t), none] S := by
      by_cases ht : t = 0 <;> simp [b_law_asked, VI.run, hand, suite, takesC, ev, evs, evT, bok, sok, bexc, sexc, gexc, cok, gnx, grt, of_bl', e0, e1, b_int, ht, g1, pm2, len2, al2]
    exact (congrArg _ this).trans rfl
end
end K36

set_option Elab.async false
set_option linter.all false
set_option maxRecDepth 100000
set_option maxHeartbeats 4000000
namespace K36
open VI PySem L2
def nrBody : VS := (.seq (.asg (.tloc 4) (.itev (.cmp .eq (.bin .mod false (.bi .int false (.cons (.bin .add false (.loc 2) (.loc 3)) .nil)) (.int 2)) (.int 0)) (.bi .list true (.cons (.loc 1) .nil)) (.bi .tuple false (.cons (.loc 1) .nil)))) (.seq (.asg (.tloc 5) (.call 34 (.cons (.loc 3) (.cons (.loc 0) (.cons (.loc 4) (.cons (.tup (.cons (.int 0) (.cons (.bin .sub false (.loc 0) (.int 1)) .nil))) (.cons (.bin .mod false (.bi .int false (.cons (.bin .add false (.loc 2) (.loc 3)) .nil)) (.int 2)) .nil))))))) (.seq (.ite (.isi (.loc 4) ["list"]) (.seq (.exp (.mt .append (.loc 4) (.cons (.str "more") .nil))) .skip) .skip) (.seq (.ite (.orv (.cmp .ne (.ix (.loc 5) (.int 0)) (.str "answers")) (.notv (.call 25 (.cons (.ix (.loc 5) (.int 1)) (.cons (.loc 4) .nil))))) (.seq (.ret (.bl false)) .skip) .skip) .skip))))
section
variable {S U : Sto} {f p i j : Nat} {as : List An} {d : DD}
theorem eqd_L (n : Nat) (l : LN) : EqD S (n + 1) (dL l) (dL l) := by
  cases l with
  | none => exact .inl ⟨rfl, rfl⟩
  | some x => exact .inr (.inr (.inl ⟨x, rfl, rfl⟩))
theorem eqd_I (n : Nat) (x : Int) : EqD S (n + 1) (.int x) (.int x) := .inr (.inr (.inl ⟨x, rfl, rfl⟩))
theorem eqd_B (n : Nat) (x : Bool) : EqD S (n + 1) (.bl x) (.bl x) := .inr (.inl ⟨x, rfl, rfl⟩)
theorem eqd_told (n : Nat) : EqD S (n + 1) (.str "told") (.str "told") := .inr (.inr (.inr (.inl ⟨rfl, rfl⟩)))
theorem eqd_more (n : Nat) : EqD S (n + 1) (.str "more") (.str "more") := .inr (.inr (.inr (.inr (.inl ⟨rfl, rfl⟩))))
theorem eqd_seq {n : Nat} {g e : DD} {xs ys : List DD} (h1 : seqOf S g = some xs) (h2 : seqOf S e = some ys) (h3 : tyD S g = tyD S e) (h4 : xs.length = ys.length) (h5 : ys.length ≤ 1000) (h6 : ∀ (i : Nat) x y, xs[i]? = some x → ys[i]? = some y → EqD S n x y) : EqD S (n + 1) g e := .inr (.inr (.inr (.inr (.inr ⟨xs, ys, h1, h2, h3, h4, h5, h6⟩))))
theorem eqd_self {n : Nat} {g e : DD} {xs : List DD} (h1 : seqOf S g = some xs) (h2 : seqOf S e = some xs) (h3 : tyD S g = tyD S e) (h5 : xs.length ≤ 1000) (h6 : ∀ x ∈ xs, EqD S n x x) : EqD S (n + 1) g e := eqd_seq h1 h2 h3 rfl h5 fun i x y hx hy => by
  rw [hx] at hy
  cases hy
  exact h6 x (List.mem_of_getElem? hx)
theorem eqd_A (n : Nat) (a : An) : EqD S (n + 2) (dA a) (dA a) := eqd_self (xs := [.int (a.1 : Nat), .int (a.2.1 : Nat), dL a.2.2]) rfl rfl rfl (by simp) fun x hx => by
  rcases List.mem_cons.mp hx with rfl | hx
  · exact eqd_I n _
  rcases List.mem_cons.mp hx with rfl | hx
  · exact eqd_I n _
  rcases List.mem_cons.mp hx with rfl | hx
  · exact eqd_L n _
  · cases hx
theorem eqd_P (n : Nat) (q : Nat × Nat) : EqD S (n + 2) (dP q) (dP q) := eqd_self (xs := [.int (q.1 : Nat), .int (q.2 : Nat)]) rfl rfl rfl (by simp) fun x hx => by
  rcases List.mem_cons.mp hx with rfl | hx
  · exact eqd_I n _
  rcases List.mem_cons.mp hx with rfl | hx
  · exact eqd_I n _
  · cases hx
theorem snap_tup {k : Nat} : snap k S depthMax (.tup (as.map dA)) = some (.tup (as.map dA)) := by
  show (mapO (snap k S 23) (as.map dA)).map DD.tup = _
  rw [snap_dAs]
  rfl
theorem snap_lst {k : Nat} : snap k S depthMax (.lst (as.map dA)) = some (.lst (as.map dA)) := by
  show (mapO (snap k S 23) (as.map dA)).map DD.lst = _
  rw [snap_dAs]
  rfl
theorem sid_tup : SnapId S (.tup (as.map dA)) := fun _ => snap_tup
theorem sid_lst : SnapId S (.lst (as.map dA)) := fun _ => snap_lst
theorem sid_cel {c : Nat} (h : c < S.length) : SnapId S (.cel c) := fun T => by
  show (if c < S.length then some (DD.cel c) else match (S ++ T)[c]? with
    | some xs => (mapO (snap S.length (S ++ T) 23) xs).map .lst
    | none => none) = _
  rw [if_pos h]
theorem askedN (hf : 9 ≤ f) (hp : 2 ≤ p ∧ p ≤ 5) (hv : ValAt S d as) (ha : VA p as) (hs : SnapId S d) (hg : agr (W p as) as = false) (w : Nat) (hw : w = 1 ∨ w = 2) (t : Int) :
    callF G f 34 [.int (w : Nat), .int (p : Nat), d, .tup [.int 0, .int ((p : Int) - 1)], .int t] S = .ok (.lst [.str "answers", d]) S := by
  have e : ((p : Int) - 1) = ((p - 1 : Nat) : Int) := by omega
  rw [e]
  rcases hw with rfl | rfl
  · have := asked1 (i := 0) (j := p - 1) hf hp hv ha hs (by omega) (by omega) (by omega) t
    rw [hg, if_neg (by simp)] at this
    exact this
  · have := asked2 hf hp hv ha hs t (.tup [.int (0 : Nat), .int ((p - 1 : Nat) : Int)])
    rw [hg, if_neg (by simp)] at this
    exact this
theorem nr_body (hf : 9 ≤ f) (hp : 2 ≤ p ∧ p ≤ 5) (ha : VA p as) (hg : agr (W p as) as = false) (hl : as.length ≤ 100) {T : Sto} {t : Int} {w : Nat} (hw : w = 1 ∨ w = 2) {x4 x5 : Option DD} :
    ∃ (y4 y5 : Option DD) (T' : Sto), VI.run (callF G f) U.length nrBody [some (.int (p : Nat)), some (.lst (as.map dA)), some (.int t), some (.int (w : Nat)), x4, x5] (U ++ T) = .go .nx [some (.int (p : Nat)), some (.lst (as.map dA)), some (.int t), some (.int (w : Nat)), y4, y5] (U ++ T') := by
  have ad : ∀ (u v : Int) T, binD .add false (.int u) (.int v) T = .ok (.int (u + v)) T := fun _ _ _ => rfl
  have sb : ∀ (u v : Int) T, binD .sub false (.int u) (.int v) T = .ok (.int (u - v)) T := fun _ _ _ => rfl
  have it : ∀ (u : Int) T, biD .int false [.int u] T = .ok (.int u) T := fun _ _ => rfl
  have md : ∀ (u : Int) T, binD .mod false (.int u) (.int 2) T = .ok (.int (u % 2)) T := fun u T => b_mod (by decide)
  have ls : ∀ T, biD .list true [.lst (as.map dA)] T = .ok (.cel T.length) (T ++ [as.map dA]) := fun _ => rfl
  have tp : ∀ T, biD .tuple false [.lst (as.map dA)] T = .ok (.tup (as.map dA)) T := fun _ => rfl
  have ne : ∀ T, cmpD .ne (.str "answers") (.str "answers") T = .ok (.bl false) T := fun _ => by kernel_rfl
  have i0 : ∀ e T, ixD (.lst [.str "answers", e]) (.int 0) T = .ok (.str "answers") T := fun _ _ => rfl
  have i1 : ∀ e T, ixD (.lst [.str "answers", e]) (.int 1) T = .ok e T := fun _ _ => rfl
  have al : ∀ x y : DD, [x, y].length ≤ lenMax := fun x y => by simp [lenMax]
  -- what was asked, from any store where the value lies
  have s2 : ∀ (V : Sto) (e : DD), ValAt V e as → SnapId V e → VI.run (callF G f) U.length (.asg (.tloc 5) (.call 34 (.cons (.loc 3) (.cons (.loc 0) (.cons (.loc 4) (.cons (.tup (.cons (.int 0) (.cons (.bin .sub false (.loc 0) (.int 1)) .nil))) (.cons (.bin .mod false (.bi .int false (.cons (.bin .add false (.loc 2) (.loc 3)) .nil)) (.int 2)) .nil))))))) [some (.int (p : Nat)), some (.lst (as.map dA)), some (.int t), some (.int (w : Nat)), some e, x5] V = .go .nx [some (.int (p : Nat)), some (.lst (as.map dA)), some (.int t), some (.int (w : Nat)), some e, some (.lst [.str "answers", e])] V := fun V e hv hs => by
    have g := askedN (f := f) (d := e) hf hp hv ha hs hg w hw ((t + w) % 2)
    simp only [VI.run, ev, evs, List.getElem?_cons_zero, List.getElem?_cons_succ, bok, sok, sb, ad, it, md, al, if_true, g, asg, List.set_cons_succ, List.set_cons_zero]
  have s4 : ∀ (V : Sto) (e : DD), EqD V 6 e e → VI.run (callF G f) U.length (.ite (.orv (.cmp .ne (.ix (.loc 5) (.int 0)) (.str "answers")) (.notv (.call 25 (.cons (.ix (.loc 5) (.int 1)) (.cons (.loc 4) .nil))))) (.seq (.ret (.bl false)) .skip) .skip) [some (.int (p : Nat)), some (.lst (as.map dA)), some (.int t), some (.int (w : Nat)), some e, some (.lst [.str "answers", e])] V = .go .nx [some (.int (p : Nat)), some (.lst (as.map dA)), some (.int t), some (.int (w : Nat)), some e, some (.lst [.str "answers", e])] V := fun V e he => by
    have g := f_same 6 (f := f) (by omega) he
    simp only [VI.run, evT, ev, evs, List.getElem?_cons_zero, List.getElem?_cons_succ, bok, sok, i0, i1, ne, of_bl', g, truR, truD, Bool.not_true, Bool.false_eq_true, if_false]
  have u : ∀ A B C : VE, ∀ env T, ev (callF G f) U.length none (.itev A B C) env T = (evT (callF G f) U.length none A env T).bind fun t S => if t = true then ev (callF G f) U.length none B env S else ev (callF G f) U.length none C env S := fun A B C env T => by simp only [ev]
  have tst : evT (callF G f) U.length none (.cmp .eq (.bin .mod false (.bi .int false (.cons (.bin .add false (.loc 2) (.loc 3)) .nil)) (.int 2)) (.int 0)) [some (.int (p : Nat)), some (.lst (as.map dA)), some (.int t), some (.int (w : Nat)), x4, x5] (U ++ T) = .ok (decide ((t + w) % 2 = 0)) (U ++ T) := by
    simp only [evT, ev, evs, List.getElem?_cons_zero, List.getElem?_cons_succ, bok, ad, it, md, b_int, of_bl']
  by_cases h : (t + w) % 2 = 0
  · have s1 : VI.run (callF G f) U.length (.asg (.tloc 4) (.itev (.cmp .eq (.bin .mod false (.bi .int false (.cons (.bin .add false (.loc 2) (.loc 3)) .nil)) (.int 2)) (.int 0)) (.bi .list true (.cons (.loc 1) .nil)) (.bi .tuple false (.cons (.loc 1) .nil)))) [some (.int (p : Nat)), some (.lst (as.map dA)), some (.int t), some (.int (w : Nat)), x4, x5] (U ++ T) = .go .nx [some (.int (p : Nat)), some (.lst (as.map dA)), some (.int t), some (.int (w : Nat)), some (.cel (U ++ T).length), x5] (U ++ T ++ [as.map dA]) := by
      simp only [VI.run, u, tst, bok, decide_eq_true_eq, if_pos h]
      simp only [ev, evs, List.getElem?_cons_zero, List.getElem?_cons_succ, bok, ls, sok, asg, List.set_cons_succ, List.set_cons_zero]
    have s2 := s2 (U ++ T ++ [as.map dA]) (.cel (U ++ T).length) (val_cel (by rw [List.getElem?_append_right (Nat.le_refl _)]; simp)) (sid_cel (by simp))
    have s3 : VI.run (callF G f) U.length (.ite (.isi (.loc 4) ["list"]) (.seq (.exp (.mt .append (.loc 4) (.cons (.str "more") .nil))) .skip) .skip) [some (.int (p : Nat)), some (.lst (as.map dA)), some (.int t), some (.int (w : Nat)), some (.cel (U ++ T).length), some (.lst [.str "answers", .cel (U ++ T).length])] (U ++ T ++ [as.map dA]) = .go .nx [some (.int (p : Nat)), some (.lst (as.map dA)), some (.int t), some (.int (w : Nat)), some (.cel (U ++ T).length), some (.lst [.str "answers", .cel (U ++ T).length])] (U ++ T ++ [as.map dA ++ [.str "more"]]) := by
      have app : mtD U.length .append (.cel (U ++ T).length) [.str "more"] (U ++ T ++ [as.map dA]) = .ok .non (U ++ T ++ [as.map dA ++ [.str "more"]]) := by
        have at2 : (U ++ T ++ [as.map dA])[(U ++ T).length]? = some (as.map dA) := by
          rw [List.getElem?_append_right (Nat.le_refl _)]; simp
        simp only [mtD, at2, mtL]
        rw [if_pos (by rw [List.length_map]; unfold lenMax; omega)]
        unfold putC
        rw [if_pos (.inl (by simp)), List.set_append_right _ _ (by simp)]
        simp
      have ty : evT (callF G f) U.length none (.isi (.loc 4) ["list"]) [some (.int (p : Nat)), some (.lst (as.map dA)), some (.int t), some (.int (w : Nat)), some (.cel (U ++ T).length), some (.lst [.str "answers", .cel (U ++ T).length])] (U ++ T ++ [as.map dA]) = .ok true (U ++ T ++ [as.map dA]) := by
        simp only [evT, ev, List.getElem?_cons_zero, List.getElem?_cons_succ, bok]
        rfl
      simp only [VI.run, ty, sok, if_true, ev, evs, List.getElem?_cons_zero, List.getElem?_cons_succ, bok, app, gnx]
    have at3 : (U ++ T ++ [as.map dA ++ [.str "more"]])[(U ++ T).length]? = some (as.map dA ++ [.str "more"]) := by
      rw [List.getElem?_append_right (Nat.le_refl _)]; simp
    have s4 := s4 (U ++ T ++ [as.map dA ++ [.str "more"]]) (.cel (U ++ T).length) (eqd_self (xs := as.map dA ++ [.str "more"]) (by simp only [seqOf, at3]) (by simp only [seqOf, at3]) rfl (by simp; omega) fun x hx => by
      rcases List.mem_append.mp hx with hx | hx
      · obtain ⟨a, _, rfl⟩ := List.mem_map.mp hx
        exact eqd_A 3 a
      · rw [List.mem_singleton.mp hx]
        exact eqd_more 4)
    refine ⟨some (.cel (U ++ T).length), some (.lst [.str "answers", .cel (U ++ T).length]), T ++ [as.map dA ++ [.str "more"]], ?_⟩
    unfold nrBody
    rw [seq_go s1, seq_go s2, seq_go s3, seq_go s4, skip_go, List.append_assoc]
  · have s1 : VI.run (callF G f) U.length (.asg (.tloc 4) (.itev (.cmp .eq (.bin .mod false (.bi .int false (.cons (.bin .add false (.loc 2) (.loc 3)) .nil)) (.int 2)) (.int 0)) (.bi .list true (.cons (.loc 1) .nil)) (.bi .tuple false (.cons (.loc 1) .nil)))) [some (.int (p : Nat)), some (.lst (as.map dA)), some (.int t), some (.int (w : Nat)), x4, x5] (U ++ T) = .go .nx [some (.int (p : Nat)), some (.lst (as.map dA)), some (.int t), some (.int (w : Nat)), some (.tup (as.map dA)), x5] (U ++ T) := by
      simp only [VI.run, u, tst, bok, decide_eq_true_eq, if_neg h]
      simp only [ev, evs, List.getElem?_cons_zero, List.getElem?_cons_succ, bok, tp, sok, asg, List.set_cons_succ, List.set_cons_zero]
    have s2 := s2 (U ++ T) (.tup (as.map dA)) val_tup sid_tup
    have s3 : VI.run (callF G f) U.length (.ite (.isi (.loc 4) ["list"]) (.seq (.exp (.mt .append (.loc 4) (.cons (.str "more") .nil))) .skip) .skip) [some (.int (p : Nat)), some (.lst (as.map dA)), some (.int t), some (.int (w : Nat)), some (.tup (as.map dA)), some (.lst [.str "answers", .tup (as.map dA)])] (U ++ T) = .go .nx [some (.int (p : Nat)), some (.lst (as.map dA)), some (.int t), some (.int (w : Nat)), some (.tup (as.map dA)), some (.lst [.str "answers", .tup (as.map dA)])] (U ++ T) := by
      have ty : evT (callF G f) U.length none (.isi (.loc 4) ["list"]) [some (.int (p : Nat)), some (.lst (as.map dA)), some (.int t), some (.int (w : Nat)), some (.tup (as.map dA)), some (.lst [.str "answers", .tup (as.map dA)])] (U ++ T) = .ok false (U ++ T) := by
        simp only [evT, ev, List.getElem?_cons_zero, List.getElem?_cons_succ, bok]
        rfl
      simp only [VI.run, ty, sok, Bool.false_eq_true, if_false]
    have s4 := s4 (U ++ T) (.tup (as.map dA)) (eqd_self (xs := as.map dA) rfl rfl rfl (by simp; omega) fun x hx => by
      obtain ⟨a, _, rfl⟩ := List.mem_map.mp hx
      exact eqd_A 3 a)
    refine ⟨some (.tup (as.map dA)), some (.lst [.str "answers", .tup (as.map dA)]), T, ?_⟩
    unfold nrBody
    rw [seq_go s1, seq_go s2, seq_go s3, seq_go s4, skip_go]
theorem none_right (hf : 10 ≤ f) (hp : 2 ≤ p ∧ p ≤ 5) (ha : VA p as) (hg : agr (W p as) as = false) (hl : as.length ≤ 100) (t : Int) :
    callF G f 37 [.int (p : Nat), .lst (as.map dA), .int t] U = .ok (.bl true) U := by
  obtain ⟨m, rfl⟩ : ∃ m, f = m + 1 := ⟨f - 1, by omega⟩
  rw [callF_eq (D := ⟨3, 6, b_law_none_right, false⟩) rfl rfl]
  show endOf _ U.length (VI.run (callF G m) U.length b_law_none_right [some (.int (p : Nat)), some (.lst (as.map dA)), some (.int t), none, none, none] U) = _
  have hI : evI (callF G m) U.length none (.iseq (.lst false (.cons (.int 1) (.cons (.int 2) .nil)))) [some (.int (p : Nat)), some (.lst (as.map dA)), some (.int t), none, none, none] U = .ok (.seq (.lst [.int 1, .int 2])) U := by
    simp only [evI, ev, evs, bok]
    rfl
  obtain ⟨env', S', e, x3, x4, x5, T, rfl, rfl⟩ := forL_inv (j := .seq (.lst [.int 1, .int 2])) (turn := fun x env S => (asg (callF G m) U.length none (.tloc 3) x env S).stm env fun env S => VI.run (callF G m) U.length nrBody env S) (fun i e S => ∃ x3 x4 x5 T, e = [some (.int (p : Nat)), some (.lst (as.map dA)), some (.int t), x3, x4, x5] ∧ S = U ++ T) (n := 2) (fun i e S hi h => by
    obtain ⟨x3, x4, x5, T, rfl, rfl⟩ := h
    obtain ⟨y4, y5, T', r⟩ := nr_body (U := U) (f := m) (by omega) hp ha hg hl (T := T) (t := t) (w := i + 1) (by omega) (x4 := x4) (x5 := x5)
    refine ⟨.int ((i + 1 : Nat) : Int), _, _, ?_, .inl (asg_loc.trans r), _, _, _, T', rfl, rfl⟩
    match i, hi with
    | 0, _ => rfl
    | 1, _ => rfl
    | i + 2, h => omega) (fun e S h => rfl) (f := fuelW) (i := 0) (env := [some (.int (p : Nat)), some (.lst (as.map dA)), some (.int t), none, none, none]) (S := U) (Nat.zero_le _) (by unfold fuelW; omega) ⟨_, _, _, [], rfl, by simp⟩
  have tot : VI.run (callF G m) U.length b_law_none_right [some (.int (p : Nat)), some (.lst (as.map dA)), some (.int t), none, none, none] U = .go (.rt (.bl true)) [some (.int (p : Nat)), some (.lst (as.map dA)), some (.int t), x3, x4, x5] (U ++ T) := by
    unfold b_law_none_right
    unfold nrBody at e
    rw [seq_go ((fr_eq hI).trans e)]
    exact ret_go (by simp only [ev])
  rw [tot]
  exact end_rt rfl (Flat.bl _) (take_app _ _)
end
end K36

set_option Elab.async false
set_option linter.all false
set_option maxRecDepth 100000
set_option maxHeartbeats 4000000
namespace K36
open VI PySem L2
section
variable {S U : Sto} {f b c n p : Nat} {as : List An} {it : List DD}
theorem eqd_cels {x y m : Nat} {xs : List DD} (h1 : S[x]? = some xs) (h2 : S[y]? = some xs) (h3 : xs.length ≤ 1000) (h4 : ∀ z ∈ xs, EqD S m z z) : EqD S (m + 2) (.lst [.str "told", .cel x]) (.lst [.str "told", .cel y]) :=
  eqd_seq (xs := [.str "told", .cel x]) (ys := [.str "told", .cel y]) rfl rfl rfl rfl (by simp) fun i u v hu hv => by
    match i with
    | 0 =>
      cases hu; cases hv
      exact eqd_told m
    | 1 =>
      cases hu; cases hv
      exact eqd_self (xs := xs) (by simp only [seqOf, h1]) (by simp only [seqOf, h2]) rfl h3 h4
    | i + 2 => cases hu
theorem settled_right (hf : 10 ≤ f) (hb : b < U.length) (hc : U[c]? = some ((setl (W p as) as p).map dP)) (hbc : b ≠ c) (hi : Bit n it) (hn : n ≤ 100000000) (hp : 2 ≤ p ∧ p ≤ 5) (ha : VA p as) (hg : agr (W p as) as = true) (t : Int) :
    ∃ it', callF G f 36 [.cel b, .int (p : Nat), .lst (as.map dA), .cel c, .int t] (U.set b it) = .ok (.bl true) (U.set b it') ∧ Bit (n + 1) it' := by
  obtain ⟨m, rfl⟩ : ∃ m, f = m + 1 := ⟨f - 1, by omega⟩
  rw [callF_eq (D := ⟨5, 7, b_law_settled_right, false⟩) rfl rfl]
  show ∃ it', endOf _ (U.set b it).length (VI.run (callF G m) (U.set b it).length b_law_settled_right [some (.cel b), some (.int (p : Nat)), some (.lst (as.map dA)), some (.cel c), some (.int t), none, none] (U.set b it)) = _ ∧ _
  rw [set_len]
  have hcl : c < U.length := (List.getElem?_eq_some_iff.mp hc).1
  have hll : ((setl (W p as) as p).map dP).length ≤ 1000 := by
    rw [List.length_map]
    have h1 : (setl (W p as) as p).length ≤ (pairsOf p).length := List.length_filter_le _ _
    have h2 := pairs_len hp.2
    omega
  have hle : ∀ S, ∀ z ∈ (setl (W p as) as p).map dP, EqD S 4 z z := fun S z hz => by
    obtain ⟨q, _, rfl⟩ := List.mem_map.mp hz
    exact eqd_P 2 q
  generalize hL : (setl (W p as) as p).map dP = L at hc hll hle
  have cAt : ∀ j T, (U.set b j ++ T)[c]? = some L := fun j T => by
    rw [List.getElem?_append_left (by simpa using hcl), List.getElem?_set_ne hbc, hc]
  have uAt : ∀ j x T, (U.set b j ++ x :: T)[U.length]? = some x := fun j x T => by
    rw [List.getElem?_append_right (by simp)]; simp
  have uAt1 : ∀ j x y T, (U.set b j ++ x :: y :: T)[U.length + 1]? = some y := fun j x y T => by
    rw [List.getElem?_append_right (by simp)]; simp
  have uAt2 : ∀ j x y z T, (U.set b j ++ x :: y :: z :: T)[U.length + 2]? = some z := fun j x y z T => by
    rw [List.getElem?_append_right (by simp)]; simp
  have ask : ∀ (e : DD) (t : Int) V, ValAt V e as → SnapId V e → callF G m 34 [.int 2, .int (p : Nat), e, .non, .int t] V = .ok (.lst [.str "told", .cel V.length]) (V ++ [L]) := fun e t V hv hs => by
    have := asked2 (f := m) (by omega) hp hv ha hs t .non
    rw [hg, if_pos rfl, hL] at this
    exact this
  have ls : ∀ T, biD .list false [.lst (as.map dA)] T = .ok (.lst (as.map dA)) T := fun _ => rfl
  have tp : ∀ T, biD .tuple false [.lst (as.map dA)] T = .ok (.tup (as.map dA)) T := fun _ => rfl
  have sb : ∀ (u v : Int) T, binD .sub false (.int u) (.int v) T = .ok (.int (u - v)) T := fun _ _ _ => rfl
  have k1 := ask (.lst (as.map dA)) t (U.set b it) val_lst sid_lst
  rw [set_len] at k1
  have k2 := ask (.tup (as.map dA)) (1 - t) (U.set b it ++ [L]) val_tup sid_tup
  rw [List.length_append, set_len, List.append_assoc] at k2
  have k2 : callF G m 34 [.int 2, .int (p : Nat), .tup (as.map dA), .non, .int (1 - t)] (U.set b it ++ [L]) = .ok (.lst [.str "told", .cel (U.length + 1)]) (U.set b it ++ [L, L]) := k2
  have s1 : VI.run (callF G m) U.length (.par (.cons (.tloc 5) (.cons (.tloc 6) .nil)) (.cons (.call 34 (.cons (.int 2) (.cons (.loc 1) (.cons (.bi .list false (.cons (.loc 2) .nil)) (.cons .non (.cons (.loc 4) .nil)))))) (.cons (.call 34 (.cons (.int 2) (.cons (.loc 1) (.cons (.bi .tuple false (.cons (.loc 2) .nil)) (.cons .non (.cons (.bin .sub false (.int 1) (.loc 4)) .nil)))))) .nil))) [some (.cel b), some (.int (p : Nat)), some (.lst (as.map dA)), some (.cel c), some (.int t), none, none] (U.set b it) = .go .nx [some (.cel b), some (.int (p : Nat)), some (.lst (as.map dA)), some (.cel c), some (.int t), some (.lst [.str "told", .cel U.length]), some (.lst [.str "told", .cel (U.length + 1)])] (U.set b it ++ [L, L]) := by
    simp only [VI.run, ev, evs, List.getElem?_cons_zero, List.getElem?_cons_succ, bok, sok, ls, tp, sb, k1, k2, asgs, asg, List.set_cons_succ, List.set_cons_zero]
  have al : ∀ x y : DD, [x, y].length ≤ lenMax := fun x y => by simp [lenMax]
  have same : ∀ (S : Sto) (x : Nat), S[x]? = some L → S[c]? = some L → callF G m 25 [.lst [.str "told", .cel x], .lst [.str "told", .cel c]] S = .ok (.bl true) S := fun S x h1 h2 =>
    f_same 6 (f := m) (by omega) (eqd_cels h1 h2 hll (hle S))
  have m1 := same (U.set b it ++ [L, L]) U.length (uAt _ _ _) (cAt _ _)
  have m2 := same (U.set b it ++ [L, L]) (U.length + 1) (uAt1 _ _ _ _) (cAt _ _)
  have s2 : VI.run (callF G m) U.length (.ite (.orv (.notv (.call 25 (.cons (.loc 5) (.cons (.lst false (.cons (.str "told") (.cons (.loc 3) .nil))) .nil)))) (.notv (.call 25 (.cons (.loc 6) (.cons (.lst false (.cons (.str "told") (.cons (.loc 3) .nil))) .nil))))) (.seq (.ret (.bl false)) .skip) .skip) [some (.cel b), some (.int (p : Nat)), some (.lst (as.map dA)), some (.cel c), some (.int t), some (.lst [.str "told", .cel U.length]), some (.lst [.str "told", .cel (U.length + 1)])] (U.set b it ++ [L, L]) = .go .nx [some (.cel b), some (.int (p : Nat)), some (.lst (as.map dA)), some (.cel c), some (.int t), some (.lst [.str "told", .cel U.length]), some (.lst [.str "told", .cel (U.length + 1)])] (U.set b it ++ [L, L]) := by
    simp only [VI.run, evT, ev, evs, List.getElem?_cons_zero, List.getElem?_cons_succ, bok, sok, al, if_true, al2, m1, m2, truR, truD, Bool.not_true, Bool.false_eq_true, if_false]
  obtain ⟨v, j1, a1, b1, c1⟩ := tkA (f := m) (k := 2) (T := [L, L]) (by omega) hb hi (by omega) (by omega)
  have a1 : callF G m 23 [.cel b, .int 2] (U.set b it ++ [L, L]) = .ok (.int (v : Nat)) (U.set b j1 ++ [L, L]) := a1
  have i1 : ∀ e T, ixD (.lst [.str "told", e]) (.int 1) T = .ok e T := fun _ _ => rfl
  have s3 : ∃ X, VI.run (callF G m) U.length (.ite (.cmp .eq (.call 23 (.cons (.loc 0) (.cons (.int 2) .nil))) (.int 0)) (.seq (.exp (.mt .insert (.ix (.loc 6) (.int 1)) (.cons (.int 0) (.cons (.tup (.cons (.int 0) (.cons (.int 0) .nil))) .nil)))) .skip) (.seq (.exp (.mt .clear (.ix (.loc 6) (.int 1)) .nil)) .skip)) [some (.cel b), some (.int (p : Nat)), some (.lst (as.map dA)), some (.cel c), some (.int t), some (.lst [.str "told", .cel U.length]), some (.lst [.str "told", .cel (U.length + 1)])] (U.set b it ++ [L, L]) = .go .nx [some (.cel b), some (.int (p : Nat)), some (.lst (as.map dA)), some (.cel c), some (.int t), some (.lst [.str "told", .cel U.length]), some (.lst [.str "told", .cel (U.length + 1)])] (U.set b j1 ++ [L, X]) := by
    have tst : evT (callF G m) U.length none (.cmp .eq (.call 23 (.cons (.loc 0) (.cons (.int 2) .nil))) (.int 0)) [some (.cel b), some (.int (p : Nat)), some (.lst (as.map dA)), some (.cel c), some (.int t), some (.lst [.str "told", .cel U.length]), some (.lst [.str "told", .cel (U.length + 1)])] (U.set b it ++ [L, L]) = .ok (decide (v = 0)) (U.set b j1 ++ [L, L]) := by
      have q : ∀ T, cmpD .eq (.int (v : Nat)) (.int 0) T = .ok (.bl (decide (v = 0))) T := fun T => eq_nat (i := v) (j := 0)
      simp only [evT, ev, evs, List.getElem?_cons_zero, List.getElem?_cons_succ, bok, a1, q, of_bl']
    have iteU : ∀ A B C env T, VI.run (callF G m) U.length (.ite A B C) env T = (evT (callF G m) U.length none A env T).stm env fun t S => if t = true then VI.run (callF G m) U.length B env S else VI.run (callF G m) U.length C env S := fun A B C env T => by simp only [VI.run]
    rw [iteU, tst]
    simp only [sok, decide_eq_true_eq]
    have put : ∀ X, putC U.length (U.length + 1) X (U.set b j1 ++ [L, L]) .non = .ok .non (U.set b j1 ++ [L, X]) := fun X => by
      unfold putC
      rw [if_pos (.inl (by omega)), List.set_append_right _ _ (by simp)]
      simp
    by_cases h : v = 0
    · have ins : mtD U.length .insert (.cel (U.length + 1)) [.int 0, .tup [.int 0, .int 0]] (U.set b j1 ++ [L, L]) = .ok .non (U.set b j1 ++ [L, .tup [.int 0, .int 0] :: L]) := by
        simp only [mtD, uAt1, mtL]
        rw [if_pos (by unfold lenMax; omega)]
        exact put _
      refine ⟨.tup [.int 0, .int 0] :: L, ?_⟩
      rw [if_pos h]
      simp only [VI.run, ev, evs, List.getElem?_cons_zero, List.getElem?_cons_succ, bok, sok, i1, al, if_true, ins, gnx]
    · have clr : mtD U.length .clear (.cel (U.length + 1)) [] (U.set b j1 ++ [L, L]) = .ok .non (U.set b j1 ++ [L, []]) := by
        simp only [mtD, uAt1, mtL]
        exact put _
      refine ⟨[], ?_⟩
      rw [if_neg h]
      simp only [VI.run, ev, evs, List.getElem?_cons_zero, List.getElem?_cons_succ, bok, sok, i1, clr, gnx]
  obtain ⟨X, s3⟩ := s3
  have m3 := same (U.set b j1 ++ [L, X]) U.length (uAt _ _ _) (cAt _ _)
  have k3 := ask (.lst (as.map dA)) t (U.set b j1 ++ [L, X]) val_lst sid_lst
  rw [List.length_append, set_len, List.append_assoc] at k3
  have k3 : callF G m 34 [.int 2, .int (p : Nat), .lst (as.map dA), .non, .int t] (U.set b j1 ++ [L, X]) = .ok (.lst [.str "told", .cel (U.length + 2)]) (U.set b j1 ++ [L, X, L]) := k3
  have m4 := same (U.set b j1 ++ [L, X, L]) (U.length + 2) (uAt2 _ _ _ _ _) (cAt _ _)
  have tot : VI.run (callF G m) U.length b_law_settled_right [some (.cel b), some (.int (p : Nat)), some (.lst (as.map dA)), some (.cel c), some (.int t), none, none] (U.set b it) = .go (.rt (.bl true)) [some (.cel b), some (.int (p : Nat)), some (.lst (as.map dA)), some (.cel c), some (.int t), some (.lst [.str "told", .cel U.length]), some (.lst [.str "told", .cel (U.length + 1)])] (U.set b j1 ++ [L, X, L]) := by
    unfold b_law_settled_right
    rw [seq_go s1, seq_go s2, seq_go s3]
    refine ret_go ?_
    simp only [ev, evs, List.getElem?_cons_zero, List.getElem?_cons_succ, bok, al, if_true, al2, m3, of_bl', k3, m4, truR, truD]
  refine ⟨j1, ?_, c1⟩
  rw [tot]
  refine end_rt rfl (Flat.bl _) ?_
  rw [← set_len (U := U) (b := b) (it' := j1)]
  exact take_app _ _
end
end K36

set_option Elab.async false
set_option linter.all false
set_option maxRecDepth 100000
set_option maxHeartbeats 4000000
namespace K36
open VI PySem L2
def smBody : VS := (.seq (.asg (.tloc 14) (.bin .add false (.loc 2) (.lst false (.cons (.tup (.cons (.ix (.loc 6) (.int 0)) (.cons (.ix (.loc 6) (.int 1)) (.cons (.loc 12) .nil)))) .nil)))) (.seq (.ite (.andv (.cmp .ne (.loc 12) (.neg (.int 1))) (.notv (.call 25 (.cons (.call 34 (.cons (.int 0) (.cons (.loc 1) (.cons (.loc 14) (.cons (.loc 6) (.cons (.loc 3) .nil)))))) (.cons (.lst false (.cons (.str "told") (.cons (.call 32 (.cons (.loc 1) (.cons (.loc 14) .nil))) .nil))) .nil))))) (.seq (.ret (.bl false)) .skip) .skip) .skip))
theorem ne_m1 (l : LN) (T : Sto) : cmpD .ne (dL l) (.int (-1)) T = .ok (.bl (!decide (l = some (-1)))) T := by
  cases l with
  | none => rfl
  | some x =>
    show R.ok (DD.bl (!(x == -1))) T = _
    congr 3
    by_cases h : x = -1 <;> simp [h]
section
variable {S U V : Sto} {f b c n p i j : Nat} {as : List An} {it : List DD}
theorem va_add (ha : VA p as) (hl : as.length ≤ 100) (hi : i < p) (hj : j < p) (hne : i ≠ j) (hk : (i, j) ∉ as.map fun a => (a.1, a.2.1)) {l : LN} (h : okL l) : VA p (as ++ [(i, j, l)]) := by
  refine ⟨fun a h' => ?_, ?_, by simp; omega⟩
  · rcases List.mem_append.mp h' with h' | h'
    · exact ha.ok a h'
    · rw [List.mem_singleton.mp h']
      exact ⟨hi, hj, hne, h⟩
  · rw [List.map_append, List.map_cons, List.map_nil]
    rw [List.nodup_append]
    refine ⟨ha.nd, by simp, fun x hx y hy => ?_⟩
    rw [List.mem_singleton.mp hy]
    intro e
    exact hk (e ▸ hx)
theorem some_turn (hf : 9 ≤ f) (hp : 2 ≤ p ∧ p ≤ 5) (ha : VA p as) (hl : as.length ≤ 100) (hi : i < p) (hj : j < p) (hne : i ≠ j) (hk : (i, j) ∉ as.map fun a => (a.1, a.2.1)) {l : LN} (h : l = some (-1) ∨ okL l) {x0 x4 x5 x7 x8 x9 x10 x11 x13 x14 : Option DD} {t : Int} {k : Nat} :
    VI.run (callF G f) k smBody [x0, some (.int (p : Nat)), some (.lst (as.map dA)), some (.int t), x4, x5, some (dP (i, j)), x7, x8, x9, x10, x11, some (dL l), x13, x14] V = .go .nx [x0, some (.int (p : Nat)), some (.lst (as.map dA)), some (.int t), x4, x5, some (dP (i, j)), x7, x8, x9, x10, x11, some (dL l), x13, some (.lst ((as ++ [(i, j, l)]).map dA))] V := by
  have i0 : ∀ T, ixD (dP (i, j)) (.int 0) T = .ok (.int (i : Nat)) T := fun _ => rfl
  have i1 : ∀ T, ixD (dP (i, j)) (.int 1) T = .ok (.int (j : Nat)) T := fun _ => rfl
  have q1 : ∀ x : DD, [x].length ≤ lenMax := fun x => by simp [lenMax]
  have q2 : ∀ x y : DD, [x, y].length ≤ lenMax := fun x y => by simp [lenMax]
  have q3 : ∀ x y z : DD, [x, y, z].length ≤ lenMax := fun x y z => by simp [lenMax]
  have al1 : ∀ (x : DD) T, VI.alloc false [x] T = .ok (.lst [x]) T := fun _ _ => rfl
  have ad : ∀ T, binD .add false (.lst (as.map dA)) (.lst [.tup [.int (i : Nat), .int (j : Nat), dL l]]) T = .ok (.lst ((as ++ [(i, j, l)]).map dA)) T := fun T => by
    show (if (as.map dA).length + 1 ≤ lenMax then VI.alloc false (as.map dA ++ [.tup [.int (i : Nat), .int (j : Nat), dL l]]) T else .stuck) = _
    rw [if_pos (by rw [List.length_map]; unfold lenMax; omega), List.map_append]
    rfl
  have s1 : VI.run (callF G f) k (.asg (.tloc 14) (.bin .add false (.loc 2) (.lst false (.cons (.tup (.cons (.ix (.loc 6) (.int 0)) (.cons (.ix (.loc 6) (.int 1)) (.cons (.loc 12) .nil)))) .nil)))) [x0, some (.int (p : Nat)), some (.lst (as.map dA)), some (.int t), x4, x5, some (dP (i, j)), x7, x8, x9, x10, x11, some (dL l), x13, x14] V = .go .nx [x0, some (.int (p : Nat)), some (.lst (as.map dA)), some (.int t), x4, x5, some (dP (i, j)), x7, x8, x9, x10, x11, some (dL l), x13, some (.lst ((as ++ [(i, j, l)]).map dA))] V := by
    simp only [VI.run, ev, evs, List.getElem?_cons_zero, List.getElem?_cons_succ, bok, sok, i0, i1, q1, q3, if_true, al1, ad, asg, List.set_cons_succ, List.set_cons_zero]
  have iteU : ∀ A B C env T, VI.run (callF G f) k (.ite A B C) env T = (evT (callF G f) k none A env T).stm env fun t S => if t = true then VI.run (callF G f) k B env S else VI.run (callF G f) k C env S := fun A B C env T => by simp only [VI.run]
  have tst : evT (callF G f) k none (.andv (.cmp .ne (.loc 12) (.neg (.int 1))) (.notv (.call 25 (.cons (.call 34 (.cons (.int 0) (.cons (.loc 1) (.cons (.loc 14) (.cons (.loc 6) (.cons (.loc 3) .nil)))))) (.cons (.lst false (.cons (.str "told") (.cons (.call 32 (.cons (.loc 1) (.cons (.loc 14) .nil))) .nil))) .nil))))) [x0, some (.int (p : Nat)), some (.lst (as.map dA)), some (.int t), x4, x5, some (dP (i, j)), x7, x8, x9, x10, x11, some (dL l), x13, some (.lst ((as ++ [(i, j, l)]).map dA))] V = .ok false V := by
    have ng : ∀ env T, ev (callF G f) k none (.neg (.int 1)) env T = .ok (.int (-1)) T := fun env T => by simp only [ev, bok]
    have l12 : ∀ T, ev (callF G f) k none (.loc 12) [x0, some (.int (p : Nat)), some (.lst (as.map dA)), some (.int t), x4, x5, some (dP (i, j)), x7, x8, x9, x10, x11, some (dL l), x13, some (.lst ((as ++ [(i, j, l)]).map dA))] T = .ok (dL l) T := fun T => ev_loc rfl
    have u : ∀ A B env T, evT (callF G f) k none (.andv (.cmp .ne (.loc 12) A) B) env T = ((ev (callF G f) k none (.loc 12) env T).bind fun x T => (ev (callF G f) k none A env T).bind fun y T => (cmpD .ne x y T).bind ofBl).bind fun t T => if t = true then evT (callF G f) k none B env T else .ok false T := fun A B env T => by
      simp only [evT, bind_bind]
    rw [u, l12]
    simp only [bok, ng, ne_m1, of_bl']
    by_cases hm : l = some (-1)
    · simp only [hm, decide_true, Bool.not_true, Bool.false_eq_true, if_false]
    · have va := va_add ha hl hi hj hne hk (h.resolve_left hm)
      have g1 := asked0 (f := f) (S := V) (d := .lst ((as ++ [(i, j, l)]).map dA)) (by omega) hp val_lst va t (dP (i, j))
      have g2 := f_law_possible (f := f) (S := V) (d := .lst ((as ++ [(i, j, l)]).map dA)) (by omega) hp val_lst va
      rw [← agr_bad va] at g2
      have g3 := f_same 6 (f := f) (S := V) (by omega) (eqd_self (xs := [.str "told", .bl (agr (W p (as ++ [(i, j, l)])) (as ++ [(i, j, l)]))]) (g := .lst [.str "told", .bl (agr (W p (as ++ [(i, j, l)])) (as ++ [(i, j, l)]))]) (e := .lst [.str "told", .bl (agr (W p (as ++ [(i, j, l)])) (as ++ [(i, j, l)]))]) rfl rfl rfl (by simp) fun x hx => by
        rcases List.mem_cons.mp hx with rfl | hx
        · exact eqd_told 4
        rcases List.mem_cons.mp hx with rfl | hx
        · exact eqd_B 4 _
        · cases hx)
      simp only [hm, decide_false, Bool.not_false, if_true, evT, ev, evs, List.getElem?_cons_zero, List.getElem?_cons_succ, bok, g1, g2, q2, al2, g3, truR, truD, Bool.not_true]
  unfold smBody
  rw [seq_go s1]
  have : VI.run (callF G f) k (.ite (.andv (.cmp .ne (.loc 12) (.neg (.int 1))) (.notv (.call 25 (.cons (.call 34 (.cons (.int 0) (.cons (.loc 1) (.cons (.loc 14) (.cons (.loc 6) (.cons (.loc 3) .nil)))))) (.cons (.lst false (.cons (.str "told") (.cons (.call 32 (.cons (.loc 1) (.cons (.loc 14) .nil))) .nil))) .nil))))) (.seq (.ret (.bl false)) .skip) .skip) [x0, some (.int (p : Nat)), some (.lst (as.map dA)), some (.int t), x4, x5, some (dP (i, j)), x7, x8, x9, x10, x11, some (dL l), x13, some (.lst ((as ++ [(i, j, l)]).map dA))] V = .go .nx [x0, some (.int (p : Nat)), some (.lst (as.map dA)), some (.int t), x4, x5, some (dP (i, j)), x7, x8, x9, x10, x11, some (dL l), x13, some (.lst ((as ++ [(i, j, l)]).map dA))] V := by
    rw [iteU, tst]
    simp only [sok, Bool.false_eq_true, if_false]
    exact skip_go
  rw [seq_go this, skip_go]
end
end K36

set_option Elab.async false
set_option linter.all false
set_option maxRecDepth 100000
set_option maxHeartbeats 4000000
namespace K36
open VI PySem L2
def byBody : VS := (.seq (.asg (.tloc 13) (.lst false (.cons (.itev (.cmp .isn (.loc 8) .non) .non (.itev (.cmp .iss (.loc 7) .non) (.int 0) (.bin .sub false (.loc 7) (.int 1)))) (.cons (.itev (.cmp .iss (.loc 8) .non) (.loc 7) (.bin .add false (.loc 8) (.int 1))) .nil)))) (.seq (.fr (.tloc 12) (.iseq (.bin .add false (.lst false (.cons (.loc 7) (.cons (.loc 8) .nil))) (.loc 13))) smBody) .skip))
def hasE : VE := (.cmp .eq (.lc false [("i", 10), ("j", 11), ("length", 12)] (.ttup (.cons (.tloc 10) (.cons (.tloc 11) (.cons (.tloc 12) .nil)))) (.iseq (.loc 2)) (.cmp .eq (.tup (.cons (.loc 10) (.cons (.loc 11) .nil))) (.loc 6)) (.int 1)) (.lst false .nil))
theorem eq_of_ne {S : Sto} {a b : DD} {x : Bool} (h : cmpD .ne a b S = .ok (.bl x) S) : cmpD .eq a b S = .ok (.bl (!x)) S := by
  have h : rB S ((eqO S a b).map (!·)) = .ok (.bl x) S := h
  show rB S (eqO S a b) = _
  cases q : eqO S a b with
  | none => rw [q] at h; cases h
  | some e =>
    rw [q] at h
    have h : R.ok (DD.bl (!e)) S = .ok (.bl x) S := h
    have : (!e) = x := by injection h with h1 h2; injection h1
    rw [← this, Bool.not_not]
    rfl
theorem eq_dP {S : Sto} {x y i j : Nat} : cmpD .eq (dP (x, y)) (dP (i, j)) S = .ok (.bl (decide (x = i ∧ y = j))) S := by
  have : cmpD .eq (dP (x, y)) (dP (i, j)) S = R.ok (DD.bl (((x : Int) == i) && (((y : Int) == j) && true))) S := rfl
  rw [this]
  congr 2
  by_cases h1 : x = i <;> by_cases h2 : y = j <;> simp [h1, h2] <;> omega
section
variable {S U V : Sto} {f b c n p i j : Nat} {as : List An} {it : List DD}
def b1 (lo hi : LN) : LN := if hi.isSome = true then none else match lo with
  | none => some 0
  | some x => some (x - 1)
def b2 (lo hi : LN) : LN := match hi with
  | none => lo
  | some y => some (y + 1)
theorem by_body (hf : 9 ≤ f) (hp : 2 ≤ p ∧ p ≤ 5) (ha : VA p as) (hl : as.length ≤ 100) (hi : i < p) (hj : j < p) (hne : i ≠ j) (hk : (i, j) ∉ as.map fun a => (a.1, a.2.1)) {lo hh : LN} (h1 : okL lo) (h2 : okL hh) {x0 x4 x5 x9 x10 x11 x12 x13 x14 : Option DD} {t : Int} {k : Nat} :
    ∃ y12 y13 y14 : Option DD, VI.run (callF G f) k byBody [x0, some (.int (p : Nat)), some (.lst (as.map dA)), some (.int t), x4, x5, some (dP (i, j)), some (dL lo), some (dL hh), x9, x10, x11, x12, x13, x14] V = .go .nx [x0, some (.int (p : Nat)), some (.lst (as.map dA)), some (.int t), x4, x5, some (dP (i, j)), some (dL lo), some (dL hh), x9, x10, x11, y12, y13, y14] V := by
  have q2 : ∀ x y : DD, [x, y].length ≤ lenMax := fun x y => by simp [lenMax]
  have s1 : VI.run (callF G f) k (.asg (.tloc 13) (.lst false (.cons (.itev (.cmp .isn (.loc 8) .non) .non (.itev (.cmp .iss (.loc 7) .non) (.int 0) (.bin .sub false (.loc 7) (.int 1)))) (.cons (.itev (.cmp .iss (.loc 8) .non) (.loc 7) (.bin .add false (.loc 8) (.int 1))) .nil)))) [x0, some (.int (p : Nat)), some (.lst (as.map dA)), some (.int t), x4, x5, some (dP (i, j)), some (dL lo), some (dL hh), x9, x10, x11, x12, x13, x14] V = .go .nx [x0, some (.int (p : Nat)), some (.lst (as.map dA)), some (.int t), x4, x5, some (dP (i, j)), some (dL lo), some (dL hh), x9, x10, x11, x12, some (.lst [dL (b1 lo hh), dL (b2 lo hh)]), x14] V := by
    have sb : ∀ (u v : Int) T, binD .sub false (.int u) (.int v) T = .ok (.int (u - v)) T := fun _ _ _ => rfl
    have ad : ∀ (u v : Int) T, binD .add false (.int u) (.int v) T = .ok (.int (u + v)) T := fun _ _ _ => rfl
    have is0 : ∀ T, cmpD .iss .non .non T = .ok (.bl true) T := fun _ => rfl
    have is1 : ∀ (x : Int) T, cmpD .iss (.int x) .non T = .ok (.bl false) T := fun _ _ => rfl
    have in0 : ∀ T, cmpD .isn .non .non T = .ok (.bl false) T := fun _ => rfl
    have in1 : ∀ (x : Int) T, cmpD .isn (.int x) .non T = .ok (.bl true) T := fun _ _ => rfl
    cases lo <;> cases hh <;> simp [VI.run, evT, ev, evs, bok, sok, is0, is1, in0, in1, of_bl', sb, ad, dL, b1, b2, al2, len2, asg]
  have hI : evI (callF G f) k none (.iseq (.bin .add false (.lst false (.cons (.loc 7) (.cons (.loc 8) .nil))) (.loc 13))) [x0, some (.int (p : Nat)), some (.lst (as.map dA)), some (.int t), x4, x5, some (dP (i, j)), some (dL lo), some (dL hh), x9, x10, x11, x12, some (.lst [dL (b1 lo hh), dL (b2 lo hh)]), x14] V = .ok (.seq (.lst [dL lo, dL hh, dL (b1 lo hh), dL (b2 lo hh)])) V := by
    have ad : ∀ (x y z w : DD) T, binD .add false (.lst [x, y]) (.lst [z, w]) T = .ok (.lst [x, y, z, w]) T := fun _ _ _ _ _ => rfl
    simp only [evI, ev, evs, List.getElem?_cons_zero, List.getElem?_cons_succ, bok, q2, if_true, al2, ad]
    rfl
  obtain ⟨env', S', e, rfl, y12, y14, rfl⟩ := forL_inv (j := .seq (.lst [dL lo, dL hh, dL (b1 lo hh), dL (b2 lo hh)])) (turn := fun x env S => (asg (callF G f) k none (.tloc 12) x env S).stm env fun env S => VI.run (callF G f) k smBody env S) (fun q e S => S = V ∧ ∃ y12 y14, e = [x0, some (.int (p : Nat)), some (.lst (as.map dA)), some (.int t), x4, x5, some (dP (i, j)), some (dL lo), some (dL hh), x9, x10, x11, y12, some (.lst [dL (b1 lo hh), dL (b2 lo hh)]), y14]) (n := 4) (fun q e S hq h => by
    obtain ⟨rfl, y12, y14, rfl⟩ := h
    have go : ∀ l : LN, (l = some (-1) ∨ okL l) → _ := fun l hl' => some_turn (f := f) (V := S) hf hp ha hl hi hj hne hk (l := l) hl' (x0 := x0) (x4 := x4) (x5 := x5) (x7 := some (dL lo)) (x8 := some (dL hh)) (x9 := x9) (x10 := x10) (x11 := x11) (x13 := some (.lst [dL (b1 lo hh), dL (b2 lo hh)])) (x14 := y14) (t := t) (k := k)
    match q, hq with
    | 0, _ => exact ⟨dL lo, _, S, rfl, .inl (asg_loc.trans (go lo (.inr h1))), rfl, _, _, rfl⟩
    | 1, _ => exact ⟨dL hh, _, S, rfl, .inl (asg_loc.trans (go hh (.inr h2))), rfl, _, _, rfl⟩
    | 2, _ =>
      refine ⟨dL (b1 lo hh), _, S, rfl, .inl (asg_loc.trans (go _ ?_)), rfl, _, _, rfl⟩
      unfold b1
      split
      · exact .inr fun x hx => by cases hx
      · cases lo with
        | none => exact .inr fun x hx => by cases hx; omega
        | some x =>
          have := h1 x rfl
          by_cases hx : x = 0
          · subst hx; exact .inl rfl
          · exact .inr fun y hy => by cases hy; omega
    | 3, _ =>
      refine ⟨dL (b2 lo hh), _, S, rfl, .inl (asg_loc.trans (go _ (.inr ?_))), rfl, _, _, rfl⟩
      cases hh with
      | none => exact h1
      | some y =>
        have := h2 y rfl
        intro z hz; cases hz; omega
    | q + 4, h => omega) (fun e S h => rfl) (f := fuelW) (i := 0) (env := [x0, some (.int (p : Nat)), some (.lst (as.map dA)), some (.int t), x4, x5, some (dP (i, j)), some (dL lo), some (dL hh), x9, x10, x11, x12, some (.lst [dL (b1 lo hh), dL (b2 lo hh)]), x14]) (S := V) (Nat.zero_le _) (by unfold fuelW; omega) ⟨rfl, _, _, rfl⟩
  refine ⟨y12, some (.lst [dL (b1 lo hh), dL (b2 lo hh)]), y14, ?_⟩
  unfold byBody
  rw [seq_go s1, seq_go ((fr_eq hI).trans e), skip_go]
theorem flat_ones {i j : Nat} : ∀ {as : List An}, ((as.map dA).flatMap fun y => match y with
      | .tup [.int x, .int z, _] => if x = (i : Int) ∧ z = (j : Int) then [DD.int 1] else []
      | _ => []) = [] ↔ (i, j) ∉ as.map fun a => (a.1, a.2.1)
  | [] => by simp
  | a :: as => by
    have ih := flat_ones (i := i) (j := j) (as := as)
    rw [List.map_cons, List.flatMap_cons, List.append_eq_nil_iff, ih, List.map_cons, List.mem_cons, not_or]
    refine and_congr_left fun _ => ?_
    show (if ((a.1 : Nat) : Int) = (i : Int) ∧ ((a.2.1 : Nat) : Int) = (j : Int) then [DD.int 1] else []) = [] ↔ _
    by_cases h : a.1 = i ∧ a.2.1 = j
    · rw [if_pos (by omega)]
      simp [h.1, h.2]
    · rw [if_neg (by omega)]
      simp only [true_iff, Prod.mk.injEq]
      omega
theorem has_ok {x0 x1 x3 x4 x5 x7 x8 x9 x10 x11 x12 x13 x14 : Option DD} {k : Nat} (hl : as.length ≤ 100) :
    evT (callF G f) k none hasE [x0, x1, some (.lst (as.map dA)), x3, x4, x5, some (dP (i, j)), x7, x8, x9, x10, x11, x12, x13, x14] V = .ok (decide ((i, j) ∉ as.map fun a => (a.1, a.2.1))) V := by
  have q2 : ∀ x y : DD, [x, y].length ≤ lenMax := fun x y => by simp [lenMax]
  have lc := lc_seq (S := V) (d := .lst (as.map dA)) (F := callF G f) (k := k) (x := 2) (c := false) (own := [("i", 10), ("j", 11), ("length", 12)]) (tv := .ttup (.cons (.tloc 10) (.cons (.tloc 11) (.cons (.tloc 12) .nil)))) (ifs := .cmp .eq (.tup (.cons (.loc 10) (.cons (.loc 11) .nil))) (.loc 6)) (elt := .int 1) (env := [x0, x1, some (.lst (as.map dA)), x3, x4, x5, some (dP (i, j)), x7, x8, x9, x10, x11, x12, x13, x14]) (xs := as.map dA) (g := fun y => match y with
      | .tup [.int x, .int z, _] => if x = (i : Int) ∧ z = (j : Int) then [DD.int 1] else []
      | _ => []) rfl rfl (fun y hy acc => by
    obtain ⟨a, _, rfl⟩ := List.mem_map.mp hy
    rcases add_one (S := V) (acc := acc) (y := .int 1) with h | h
    · refine .inl ?_
      have e := eq_dP (S := V) (x := a.1) (y := a.2.1) (i := i) (j := j)
      have e : cmpD .eq (.tup [.int (a.1 : Nat), .int (a.2.1 : Nat)]) (dP (i, j)) V = .ok (.bl (decide (a.1 = i ∧ a.2.1 = j))) V := e
      simp only [List.map_cons, List.map_nil, wipeE, List.set_cons_succ, List.set_cons_zero, dA, asg, asgs, seqOf, bok, evT, ev, evs, List.getElem?_cons_zero, List.getElem?_cons_succ, q2, if_true, e, of_bl', decide_eq_true_eq]
      by_cases hh : a.1 = i ∧ a.2.1 = j
      · rw [if_pos hh, if_pos (by omega), h]
        rfl
      · rw [if_neg hh, if_neg (by omega), List.append_nil]
        rfl
    · exact .inr h) (fun y hy => by
    obtain ⟨a, _, rfl⟩ := List.mem_map.mp hy
    show (if ((a.1 : Nat) : Int) = (i : Int) ∧ ((a.2.1 : Nat) : Int) = (j : Int) then [DD.int 1] else []).length ≤ 1
    split <;> simp) (by rw [List.length_map]; omega)
  have ho : ∀ x ∈ ((as.map dA).flatMap fun y => match y with
      | .tup [.int x, .int z, _] => if x = (i : Int) ∧ z = (j : Int) then [DD.int 1] else []
      | _ => []), Pln x := fun x hx => by
    obtain ⟨y, hy, hx⟩ := List.mem_flatMap.mp hx
    obtain ⟨a, _, rfl⟩ := List.mem_map.mp hy
    have hx : x ∈ (if ((a.1 : Nat) : Int) = (i : Int) ∧ ((a.2.1 : Nat) : Int) = (j : Int) then [DD.int 1] else []) := hx
    split at hx
    · rw [List.mem_singleton.mp hx]
      exact fun S => ⟨.int 1, rfl, rfl, by simp [PyData.depth]⟩
    · cases hx
  have fo := flat_ones (i := i) (j := j) (as := as)
  generalize ((as.map dA).flatMap fun y => match y with
      | .tup [.int x, .int z, _] => if x = (i : Int) ∧ z = (j : Int) then [DD.int 1] else []
      | _ => []) = ones at lc ho fo
  have e := eq_of_ne (ne_lst (S := V) ho)
  have l0 : ∀ env T, ev (callF G f) k none (.lst false .nil) env T = .ok (.lst []) T := fun env T => by simp only [ev, evs, bok]; rfl
  have u : ∀ A B env T, evT (callF G f) k none (.cmp .eq A B) env T = (ev (callF G f) k none A env T).bind fun x T => (ev (callF G f) k none B env T).bind fun y T => (cmpD .eq x y T).bind ofBl := fun A B env T => by
    simp only [evT, bind_bind]
  unfold hasE
  rw [u, lc]
  show (R.ok (DD.lst ones) V).bind _ = _
  simp only [bok, l0, e, of_bl', Bool.not_not]
  congr 1
  cases ones with
  | nil => exact (decide_eq_true (fo.mp rfl)).symm
  | cons o os => exact (decide_eq_false fun h => by cases fo.mpr h).symm
end
end K36

set_option Elab.async false
set_option linter.all false
set_option maxRecDepth 100000
set_option maxHeartbeats 4000000
namespace K36
open VI PySem L2
def prBody : VS := (.seq (.asg (.ttup (.cons (.tloc 7) (.cons (.tloc 8) .nil))) (.call 33 (.cons (.loc 1) (.cons (.loc 2) (.cons (.ix (.loc 6) (.int 0)) (.cons (.ix (.loc 6) (.int 1)) .nil)))))) (.seq (.asg (.tloc 9) (.call 34 (.cons (.int 1) (.cons (.loc 1) (.cons (.itev (.cmp .eq (.call 23 (.cons (.loc 0) (.cons (.int 2) .nil))) (.int 0)) (.bi .tuple false (.cons (.loc 2) .nil)) (.bi .list false (.cons (.loc 2) .nil))) (.cons (.loc 6) (.cons (.loc 3) .nil))))))) (.seq (.ite (.notv (.call 25 (.cons (.loc 9) (.cons (.lst false (.cons (.str "told") (.cons (.tup (.cons (.loc 7) (.cons (.loc 8) .nil))) .nil))) .nil)))) (.seq (.ret (.bl false)) .skip) .skip) (.seq (.asg (.tloc 3) (.bin .sub false (.int 1) (.loc 3))) (.seq (.ite (.andv hasE (.cmp .eq (.call 23 (.cons (.loc 0) (.cons (.int 3) .nil))) (.int 0))) byBody .skip) .skip)))))
section
variable {S U V : Sto} {f b c n p i j : Nat} {as : List An} {it : List DD}
theorem goL_nn {M : Mat} : ∀ {as : List An} {c v : Int}, goA (gL M i j) as c = some v → 0 ≤ c → 0 ≤ v
  | [], c, v, h, hc => by
    have h : some c = some v := h
    cases h; exact hc
  | a :: as, c, v, h, hc => by
    have h : (match gL M i j a c with | none => none | some c' => goA (gL M i j) as c') = some v := by
      have e := goA_app (g := gL M i j) (l := [a]) (r := as) (c := c)
      simp only [List.singleton_append] at e
      rw [e] at h
      have s : goA (gL M i j) [a] c = gL M i j a c := by
        unfold goA
        cases gL M i j a c <;> rfl
      rw [s] at h
      cases q : gL M i j a c with
      | none => rw [q] at h; cases h
      | some c' => rw [q] at h; exact h
    cases q : gL M i j a c with
    | none => rw [q] at h; cases h
    | some c' =>
      rw [q] at h
      refine goL_nn h ?_
      unfold gL at q
      split at q
      · split at q
        · cases q
        · cases q
          unfold mx
          split <;> omega
      · cases q; exact hc
theorem rng_nn (ha : VA p as) (hg : agr (W p as) as = true) (hi : i < p) (hj : j < p) : okL (rng (W p as) i j as).1 ∧ okL (rng (W p as) i j as).2 := by
  rw [rng_of ha hg hi hj]
  exact ⟨fun x hx => goL_nn (c := 0) hx (Int.le_refl 0), fun x hx => nn_W ha _ _ x hx⟩
theorem pair_turn (hf : 9 ≤ f) (hb : b < U.length) (hit : Bit n it) (hn : n ≤ 100000000) (hp : 2 ≤ p ∧ p ≤ 5) (ha : VA p as) (hg : agr (W p as) as = true) (hl : as.length ≤ 100) (hi : i < p) (hj : j < p) (hne : i ≠ j) {T : Sto} {x4 x5 x7 x8 x9 x10 x11 x12 x13 x14 : Option DD} {t : Int} :
    ∃ (y7 y8 y9 y10 y11 y12 y13 y14 : Option DD) (it' : List DD), VI.run (callF G f) U.length prBody [some (.cel b), some (.int (p : Nat)), some (.lst (as.map dA)), some (.int t), x4, x5, some (dP (i, j)), x7, x8, x9, x10, x11, x12, x13, x14] (U.set b it ++ T) = .go .nx [some (.cel b), some (.int (p : Nat)), some (.lst (as.map dA)), some (.int (1 - t)), x4, x5, some (dP (i, j)), y7, y8, y9, y10, y11, y12, y13, y14] (U.set b it' ++ T) ∧ Bit (n + 2) it' := by
  have i0 : ∀ T, ixD (dP (i, j)) (.int 0) T = .ok (.int (i : Nat)) T := fun _ => rfl
  have i1 : ∀ T, ixD (dP (i, j)) (.int 1) T = .ok (.int (j : Nat)) T := fun _ => rfl
  have q2 : ∀ x y : DD, [x, y].length ≤ lenMax := fun x y => by simp [lenMax]
  have sb : ∀ (u v : Int) T, binD .sub false (.int u) (.int v) T = .ok (.int (u - v)) T := fun _ _ _ => rfl
  obtain ⟨r1, r2⟩ := rng_nn ha hg hi hj
  have g1 := f_law_range (f := f) (S := U.set b it ++ T) (d := .lst (as.map dA)) (by omega) hp val_lst ha hi hj
  have ask : ∀ (e : DD) (S : Sto), ValAt S e as → SnapId S e → callF G f 34 [.int 1, .int (p : Nat), e, dP (i, j), .int t] S = .ok (.lst [.str "told", .tup [dL (rng (W p as) i j as).1, dL (rng (W p as) i j as).2]]) S := fun e S hv hs => by
    have := asked1 (f := f) hf hp hv ha hs hi hj hne t
    rw [hg, if_pos rfl] at this
    exact this
  generalize (rng (W p as) i j as).1 = lo at r1 g1 ask
  generalize (rng (W p as) i j as).2 = hh at r2 g1 ask
  have s1 : VI.run (callF G f) U.length (.asg (.ttup (.cons (.tloc 7) (.cons (.tloc 8) .nil))) (.call 33 (.cons (.loc 1) (.cons (.loc 2) (.cons (.ix (.loc 6) (.int 0)) (.cons (.ix (.loc 6) (.int 1)) .nil)))))) [some (.cel b), some (.int (p : Nat)), some (.lst (as.map dA)), some (.int t), x4, x5, some (dP (i, j)), x7, x8, x9, x10, x11, x12, x13, x14] (U.set b it ++ T) = .go .nx [some (.cel b), some (.int (p : Nat)), some (.lst (as.map dA)), some (.int t), x4, x5, some (dP (i, j)), some (dL lo), some (dL hh), x9, x10, x11, x12, x13, x14] (U.set b it ++ T) := by
    simp only [VI.run, ev, evs, List.getElem?_cons_zero, List.getElem?_cons_succ, bok, sok, i0, i1, g1, asg, asgs, seqOf, List.set_cons_succ, List.set_cons_zero]
  obtain ⟨v, j1, a1, b1', c1⟩ := tkA (f := f) (k := 2) (T := T) (by omega) hb hit (by omega) (by omega)
  have a1 : callF G f 23 [.cel b, .int 2] (U.set b it ++ T) = .ok (.int (v : Nat)) (U.set b j1 ++ T) := a1
  have s2 : VI.run (callF G f) U.length (.asg (.tloc 9) (.call 34 (.cons (.int 1) (.cons (.loc 1) (.cons (.itev (.cmp .eq (.call 23 (.cons (.loc 0) (.cons (.int 2) .nil))) (.int 0)) (.bi .tuple false (.cons (.loc 2) .nil)) (.bi .list false (.cons (.loc 2) .nil))) (.cons (.loc 6) (.cons (.loc 3) .nil))))))) [some (.cel b), some (.int (p : Nat)), some (.lst (as.map dA)), some (.int t), x4, x5, some (dP (i, j)), some (dL lo), some (dL hh), x9, x10, x11, x12, x13, x14] (U.set b it ++ T) = .go .nx [some (.cel b), some (.int (p : Nat)), some (.lst (as.map dA)), some (.int t), x4, x5, some (dP (i, j)), some (dL lo), some (dL hh), some (.lst [.str "told", .tup [dL lo, dL hh]]), x10, x11, x12, x13, x14] (U.set b j1 ++ T) := by
    have q : ∀ T, cmpD .eq (.int (v : Nat)) (.int 0) T = .ok (.bl (decide (v = 0))) T := fun T => eq_nat (i := v) (j := 0)
    have ls : ∀ T, biD .list false [.lst (as.map dA)] T = .ok (.lst (as.map dA)) T := fun _ => rfl
    have tp : ∀ T, biD .tuple false [.lst (as.map dA)] T = .ok (.tup (as.map dA)) T := fun _ => rfl
    have k1 := ask (.lst (as.map dA)) (U.set b j1 ++ T) val_lst sid_lst
    have k2 := ask (.tup (as.map dA)) (U.set b j1 ++ T) val_tup sid_tup
    by_cases h : v = 0
    · have dq : decide (v = 0) = true := decide_eq_true h
      simp only [VI.run, evT, ev, evs, List.getElem?_cons_zero, List.getElem?_cons_succ, bok, sok, a1, q, of_bl', dq, if_true, tp, k2, asg, List.set_cons_succ, List.set_cons_zero]
    · have dq : decide (v = 0) = false := decide_eq_false h
      simp only [VI.run, evT, ev, evs, List.getElem?_cons_zero, List.getElem?_cons_succ, bok, sok, a1, q, of_bl', dq, Bool.false_eq_true, if_false, ls, k1, asg, List.set_cons_succ, List.set_cons_zero]
  have m1 := f_same 6 (f := f) (S := U.set b j1 ++ T) (by omega) (eqd_self (xs := [.str "told", .tup [dL lo, dL hh]]) (g := .lst [.str "told", .tup [dL lo, dL hh]]) (e := .lst [.str "told", .tup [dL lo, dL hh]]) rfl rfl rfl (by simp) fun x hx => by
    rcases List.mem_cons.mp hx with rfl | hx
    · exact eqd_told 4
    rcases List.mem_cons.mp hx with rfl | hx
    · exact eqd_self (xs := [dL lo, dL hh]) rfl rfl rfl (by simp) fun y hy => by
        rcases List.mem_cons.mp hy with rfl | hy
        · exact eqd_L 3 _
        rcases List.mem_cons.mp hy with rfl | hy
        · exact eqd_L 3 _
        · cases hy
    · cases hx)
  have s3 : VI.run (callF G f) U.length (.ite (.notv (.call 25 (.cons (.loc 9) (.cons (.lst false (.cons (.str "told") (.cons (.tup (.cons (.loc 7) (.cons (.loc 8) .nil))) .nil))) .nil)))) (.seq (.ret (.bl false)) .skip) .skip) [some (.cel b), some (.int (p : Nat)), some (.lst (as.map dA)), some (.int t), x4, x5, some (dP (i, j)), some (dL lo), some (dL hh), some (.lst [.str "told", .tup [dL lo, dL hh]]), x10, x11, x12, x13, x14] (U.set b j1 ++ T) = .go .nx [some (.cel b), some (.int (p : Nat)), some (.lst (as.map dA)), some (.int t), x4, x5, some (dP (i, j)), some (dL lo), some (dL hh), some (.lst [.str "told", .tup [dL lo, dL hh]]), x10, x11, x12, x13, x14] (U.set b j1 ++ T) := by
    simp only [VI.run, evT, ev, evs, List.getElem?_cons_zero, List.getElem?_cons_succ, bok, sok, q2, if_true, al2, m1, truR, truD, Bool.not_true, Bool.false_eq_true, if_false]
  have s4 : VI.run (callF G f) U.length (.asg (.tloc 3) (.bin .sub false (.int 1) (.loc 3))) [some (.cel b), some (.int (p : Nat)), some (.lst (as.map dA)), some (.int t), x4, x5, some (dP (i, j)), some (dL lo), some (dL hh), some (.lst [.str "told", .tup [dL lo, dL hh]]), x10, x11, x12, x13, x14] (U.set b j1 ++ T) = .go .nx [some (.cel b), some (.int (p : Nat)), some (.lst (as.map dA)), some (.int (1 - t)), x4, x5, some (dP (i, j)), some (dL lo), some (dL hh), some (.lst [.str "told", .tup [dL lo, dL hh]]), x10, x11, x12, x13, x14] (U.set b j1 ++ T) := by
    simp only [VI.run, ev, List.getElem?_cons_zero, List.getElem?_cons_succ, bok, sok, sb, asg, List.set_cons_succ, List.set_cons_zero]
  have iteU : ∀ A B C env T, VI.run (callF G f) U.length (.ite A B C) env T = (evT (callF G f) U.length none A env T).stm env fun t S => if t = true then VI.run (callF G f) U.length B env S else VI.run (callF G f) U.length C env S := fun A B C env T => by simp only [VI.run]
  have andU : ∀ A B env T, evT (callF G f) U.length none (.andv A B) env T = (evT (callF G f) U.length none A env T).bind fun t T => if t = true then evT (callF G f) U.length none B env T else .ok false T := fun A B env T => by
    simp only [evT]
  have hs := has_ok (f := f) (k := U.length) (V := U.set b j1 ++ T) (i := i) (j := j) hl (x0 := some (.cel b)) (x1 := some (.int (p : Nat))) (x3 := some (.int (1 - t))) (x4 := x4) (x5 := x5) (x7 := some (dL lo)) (x8 := some (dL hh)) (x9 := some (.lst [.str "told", .tup [dL lo, dL hh]])) (x10 := x10) (x11 := x11) (x12 := x12) (x13 := x13) (x14 := x14)
  have s5 : ∃ (y12 y13 y14 : Option DD) (it' : List DD), VI.run (callF G f) U.length (.ite (.andv hasE (.cmp .eq (.call 23 (.cons (.loc 0) (.cons (.int 3) .nil))) (.int 0))) byBody .skip) [some (.cel b), some (.int (p : Nat)), some (.lst (as.map dA)), some (.int (1 - t)), x4, x5, some (dP (i, j)), some (dL lo), some (dL hh), some (.lst [.str "told", .tup [dL lo, dL hh]]), x10, x11, x12, x13, x14] (U.set b j1 ++ T) = .go .nx [some (.cel b), some (.int (p : Nat)), some (.lst (as.map dA)), some (.int (1 - t)), x4, x5, some (dP (i, j)), some (dL lo), some (dL hh), some (.lst [.str "told", .tup [dL lo, dL hh]]), x10, x11, y12, y13, y14] (U.set b it' ++ T) ∧ Bit (n + 2) it' := by
    rw [iteU, andU, hs]
    simp only [bok, decide_eq_true_eq]
    by_cases hk : (i, j) ∉ as.map fun a => (a.1, a.2.1)
    · rw [if_pos hk]
      obtain ⟨w, j2, a2, b2', c2⟩ := tkA (f := f) (k := 3) (T := T) (by omega) hb c1 (by omega) (by omega)
      have a2 : callF G f 23 [.cel b, .int 3] (U.set b j1 ++ T) = .ok (.int (w : Nat)) (U.set b j2 ++ T) := a2
      have q : ∀ T, cmpD .eq (.int (w : Nat)) (.int 0) T = .ok (.bl (decide (w = 0))) T := fun T => eq_nat (i := w) (j := 0)
      have tst : evT (callF G f) U.length none (.cmp .eq (.call 23 (.cons (.loc 0) (.cons (.int 3) .nil))) (.int 0)) [some (.cel b), some (.int (p : Nat)), some (.lst (as.map dA)), some (.int (1 - t)), x4, x5, some (dP (i, j)), some (dL lo), some (dL hh), some (.lst [.str "told", .tup [dL lo, dL hh]]), x10, x11, x12, x13, x14] (U.set b j1 ++ T) = .ok (decide (w = 0)) (U.set b j2 ++ T) := by
        simp only [evT, ev, evs, List.getElem?_cons_zero, List.getElem?_cons_succ, bok, a2, q, of_bl']
      rw [tst]
      simp only [sok, decide_eq_true_eq]
      by_cases hw : w = 0
      · rw [if_pos hw]
        obtain ⟨y12, y13, y14, r⟩ := by_body (f := f) (V := U.set b j2 ++ T) (k := U.length) hf hp ha hl hi hj hne hk r1 r2 (x0 := some (.cel b)) (x4 := x4) (x5 := x5) (x9 := some (.lst [.str "told", .tup [dL lo, dL hh]])) (x10 := x10) (x11 := x11) (x12 := x12) (x13 := x13) (x14 := x14) (t := 1 - t)
        exact ⟨y12, y13, y14, j2, r, c2.mono (by omega)⟩
      · rw [if_neg hw]
        exact ⟨x12, x13, x14, j2, skip_go, c2.mono (by omega)⟩
    · rw [if_neg hk]
      simp only [sok, Bool.false_eq_true, if_false]
      exact ⟨x12, x13, x14, j1, skip_go, c1.mono (by omega)⟩
  obtain ⟨y12, y13, y14, it', s5, h5⟩ := s5
  refine ⟨some (dL lo), some (dL hh), some (.lst [.str "told", .tup [dL lo, dL hh]]), x10, x11, y12, y13, y14, it', ?_, h5⟩
  unfold prBody
  rw [seq_go s1, seq_go s2, seq_go s3, seq_go s4, seq_go s5, skip_go]
end
end K36

set_option Elab.async false
set_option linter.all false
set_option maxRecDepth 100000
set_option maxHeartbeats 4000000
namespace K36
open VI PySem L2
def duBody : VS := (.seq (.asg (.ttup (.cons (.tloc 7) (.cons (.tloc 8) .nil))) (.call 33 (.cons (.loc 1) (.cons (.loc 2) (.cons (.loc 10) (.cons (.loc 11) .nil)))))) (.seq (.ite (.cmp .eq (.loc 7) (.loc 8)) (.seq (.exp (.mt .append (.loc 5) (.cons (.tup (.cons (.loc 10) (.cons (.loc 11) .nil))) .nil))) .skip) .skip) .skip))
section
variable {S U V : Sto} {f b c n p i j : Nat} {as : List An} {it : List DD}
theorem due_turn (hf : 3 ≤ f) (hV : V.length = U.length) (hp : 2 ≤ p ∧ p ≤ 5) (ha : VA p as) (hg : agr (W p as) as = true) (hi : i < p) (hj : j < p) {L : List (Nat × Nat)} (hL : L.length ≤ 1000) {x0 x3 x4 x6 x7 x8 x9 x12 x13 x14 : Option DD} :
    ∃ (y7 y8 : Option DD), VI.run (callF G f) U.length duBody [x0, some (.int (p : Nat)), some (.lst (as.map dA)), x3, x4, some (.cel U.length), x6, x7, x8, x9, some (.int (i : Nat)), some (.int (j : Nat)), x12, x13, x14] (V ++ [L.map dP]) = .go .nx [x0, some (.int (p : Nat)), some (.lst (as.map dA)), x3, x4, some (.cel U.length), x6, y7, y8, x9, some (.int (i : Nat)), some (.int (j : Nat)), x12, x13, x14] (V ++ [(L ++ if low (W p as) i j as = gt (W p as) i j then [(i, j)] else []).map dP]) := by
  have q2 : ∀ x y : DD, [x, y].length ≤ lenMax := fun x y => by simp [lenMax]
  have g1 := f_law_range (f := f) (S := V ++ [L.map dP]) (d := .lst (as.map dA)) (by omega) hp val_lst ha hi hj
  rw [rng_of ha hg hi hj] at g1
  have s1 : VI.run (callF G f) U.length (.asg (.ttup (.cons (.tloc 7) (.cons (.tloc 8) .nil))) (.call 33 (.cons (.loc 1) (.cons (.loc 2) (.cons (.loc 10) (.cons (.loc 11) .nil)))))) [x0, some (.int (p : Nat)), some (.lst (as.map dA)), x3, x4, some (.cel U.length), x6, x7, x8, x9, some (.int (i : Nat)), some (.int (j : Nat)), x12, x13, x14] (V ++ [L.map dP]) = .go .nx [x0, some (.int (p : Nat)), some (.lst (as.map dA)), x3, x4, some (.cel U.length), x6, some (dL (low (W p as) i j as)), some (dL (gt (W p as) i j)), x9, some (.int (i : Nat)), some (.int (j : Nat)), x12, x13, x14] (V ++ [L.map dP]) := by
    simp only [VI.run, ev, evs, List.getElem?_cons_zero, List.getElem?_cons_succ, bok, sok, g1, asg, asgs, seqOf, List.set_cons_succ, List.set_cons_zero]
  have at2 : (V ++ [L.map dP])[U.length]? = some (L.map dP) := by
    rw [List.getElem?_append_right (by omega), hV]; simp
  have app : mtD U.length .append (.cel U.length) [.tup [.int (i : Nat), .int (j : Nat)]] (V ++ [L.map dP]) = .ok .non (V ++ [(L ++ [(i, j)]).map dP]) := by
    simp only [mtD, at2, mtL]
    rw [if_pos (by rw [List.length_map]; unfold lenMax; omega)]
    unfold putC
    rw [if_pos (.inl (Nat.le_refl _)), List.set_append_right _ _ (by omega), hV]
    simp [dP]
  refine ⟨some (dL (low (W p as) i j as)), some (dL (gt (W p as) i j)), ?_⟩
  unfold duBody
  rw [seq_go s1]
  by_cases h : low (W p as) i j as = gt (W p as) i j
  · have dq : decide (low (W p as) i j as = gt (W p as) i j) = true := decide_eq_true h
    rw [if_pos h]
    simp only [VI.run, evT, ev, evs, List.getElem?_cons_zero, List.getElem?_cons_succ, bok, sok, eq_dL, of_bl', dq, if_true, q2, app, gnx]
  · have dq : decide (low (W p as) i j as = gt (W p as) i j) = false := decide_eq_false h
    rw [if_neg h, List.append_nil]
    simp only [VI.run, evT, ev, evs, List.getElem?_cons_zero, List.getElem?_cons_succ, bok, sok, eq_dL, of_bl', dq, Bool.false_eq_true, if_false, gnx]
theorem ranges_right (hf : 12 ≤ f) (hb : b < U.length) (hi : Bit n it) (hn : n ≤ 10000000) (hp : 2 ≤ p ∧ p ≤ 5) (ha : VA p as) (hg : agr (W p as) as = true) (hl : as.length ≤ 100) (t : Int) :
    ∃ it', callF G f 35 [.cel b, .int (p : Nat), .lst (as.map dA), .int t] (U.set b it) = .ok (.bl true) (U.set b it') ∧ Bit (n + 100) it' := by
  obtain ⟨m, rfl⟩ : ∃ m, f = m + 1 := ⟨f - 1, by omega⟩
  rw [callF_eq (D := ⟨4, 15, b_law_ranges_right, false⟩) rfl rfl]
  show ∃ it', endOf _ (U.set b it).length (VI.run (callF G m) (U.set b it).length b_law_ranges_right [some (.cel b), some (.int (p : Nat)), some (.lst (as.map dA)), some (.int t), none, none, none, none, none, none, none, none, none, none, none] (U.set b it)) = _ ∧ _
  rw [set_len]
  have hpl := pairs_len hp.2
  have pr := f_law_pairs (U := U.set b it) (f := m) (by omega) hp.2
  have s1 : VI.run (callF G m) U.length (.par (.cons (.tloc 4) (.cons (.tloc 5) .nil)) (.cons (.call 29 (.cons (.loc 1) .nil)) (.cons (.lst true .nil) .nil))) [some (.cel b), some (.int (p : Nat)), some (.lst (as.map dA)), some (.int t), none, none, none, none, none, none, none, none, none, none, none] (U.set b it) = .go .nx [some (.cel b), some (.int (p : Nat)), some (.lst (as.map dA)), some (.int t), some (.lst ((pairsOf p).map dP)), some (.cel U.length), none, none, none, none, none, none, none, none, none] (U.set b it ++ [([] : List (Nat × Nat)).map dP]) := by
    have a2 : ∀ env T, ev (callF G m) U.length none (.lst true .nil) env T = .ok (.cel T.length) (T ++ [[]]) := fun env T => by
      simp only [ev, evs, bok]
      rfl
    simp only [VI.run, evs, a2, bok, sok]
    simp only [ev, evs, List.getElem?_cons_zero, List.getElem?_cons_succ, bok, sok, pr, asgs, asg, List.set_cons_succ, List.set_cons_zero, set_len]
    rfl
  obtain ⟨rs, j1, mx, rp, c1⟩ := mixed_ok (f := m) (U := U.set b it ++ [([] : List (Nat × Nat)).map dP]) (b := b) (by omega) (by rw [List.getElem?_append_left (by simpa using hb), List.getElem?_set_self hb]) hi (ps := pairsOf p) (by omega) (by omega)
  rw [set_app1 (by simpa using hb), List.set_set] at mx
  have hrl := rp.length_eq
  have hI : evI (callF G m) U.length none (.iseq (.call 24 (.cons (.loc 0) (.cons (.loc 4) .nil)))) [some (.cel b), some (.int (p : Nat)), some (.lst (as.map dA)), some (.int t), some (.lst ((pairsOf p).map dP)), some (.cel U.length), none, none, none, none, none, none, none, none, none] (U.set b it ++ [([] : List (Nat × Nat)).map dP]) = .ok (.seq (.lst (rs.map dP))) (U.set b j1 ++ [([] : List (Nat × Nat)).map dP]) := by
    simp only [evI, ev, evs, List.getElem?_cons_zero, List.getElem?_cons_succ, bok, mx]
    rfl
  have atL : ∀ (l : List (Nat × Nat)) (q : Nat) (T : Sto), (It2.seq (.lst (l.map dP))).at_ q T = some (l[q]?.map dP) := fun l q T => by
    show some ((l.map dP)[q]?) = _
    rw [List.getElem?_map]
  obtain ⟨env', S', e, t', y6, y7, y8, y9, y10, y11, y12, y13, y14, j2, rfl, rfl, c2⟩ := forL_inv (j := .seq (.lst (rs.map dP))) (turn := fun x env S => (asg (callF G m) U.length none (.tloc 6) x env S).stm env fun env S => VI.run (callF G m) U.length prBody env S) (fun q e S => ∃ (t' : Int) (y6 y7 y8 y9 y10 y11 y12 y13 y14 : Option DD) (j2 : List DD), e = [some (.cel b), some (.int (p : Nat)), some (.lst (as.map dA)), some (.int t'), some (.lst ((pairsOf p).map dP)), some (.cel U.length), y6, y7, y8, y9, y10, y11, y12, y13, y14] ∧ S = U.set b j2 ++ [([] : List (Nat × Nat)).map dP] ∧ Bit (n + (pairsOf p).length + 2 * q) j2) (n := rs.length) (fun q e S hq h => by
    obtain ⟨t', y6, y7, y8, y9, y10, y11, y12, y13, y14, j2, rfl, rfl, c2⟩ := h
    have mem := pairs_mem.mp (show ((rs[q]).1, (rs[q]).2) ∈ pairsOf p from rp.mem_iff.mp (List.getElem_mem hq))
    obtain ⟨z7, z8, z9, z10, z11, z12, z13, z14, j3, r, c3⟩ := pair_turn (f := m) (U := U) (b := b) (it := j2) (i := (rs[q]).1) (j := (rs[q]).2) (by omega) hb c2 (by omega) hp ha hg hl mem.1 mem.2.1 mem.2.2 (T := [([] : List (Nat × Nat)).map dP]) (x4 := some (.lst ((pairsOf p).map dP))) (x5 := some (.cel U.length)) (x7 := y7) (x8 := y8) (x9 := y9) (x10 := y10) (x11 := y11) (x12 := y12) (x13 := y13) (x14 := y14) (t := t')
    refine ⟨dP rs[q], _, _, by rw [atL, List.getElem?_eq_getElem hq]; rfl, .inl (asg_loc.trans r), _, _, _, _, _, _, _, _, _, _, j3, rfl, rfl, c3.mono (by omega)⟩) (fun e S h => by rw [atL, List.getElem?_eq_none (Nat.le_refl _)]; rfl) (f := fuelW) (i := 0) (env := [some (.cel b), some (.int (p : Nat)), some (.lst (as.map dA)), some (.int t), some (.lst ((pairsOf p).map dP)), some (.cel U.length), none, none, none, none, none, none, none, none, none]) (S := U.set b j1 ++ [([] : List (Nat × Nat)).map dP]) (Nat.zero_le _) (by unfold fuelW; omega) ⟨t, none, none, none, none, none, none, none, none, none, j1, rfl, rfl, c1.mono (by omega)⟩
  have hI2 : evI (callF G m) U.length none (.iseq (.loc 4)) [some (.cel b), some (.int (p : Nat)), some (.lst (as.map dA)), some (.int t'), some (.lst ((pairsOf p).map dP)), some (.cel U.length), y6, y7, y8, y9, y10, y11, y12, y13, y14] (U.set b j2 ++ [([] : List (Nat × Nat)).map dP]) = .ok (.seq (.lst ((pairsOf p).map dP))) (U.set b j2 ++ [([] : List (Nat × Nat)).map dP]) := by
    simp only [evI, ev, List.getElem?_cons_zero, List.getElem?_cons_succ, bok]
    rfl
  obtain ⟨env2, S2, e2, z7, z8, z10, z11, rfl, rfl⟩ := forL_inv (j := .seq (.lst ((pairsOf p).map dP))) (turn := fun x env S => (asg (callF G m) U.length none (.ttup (.cons (.tloc 10) (.cons (.tloc 11) .nil))) x env S).stm env fun env S => VI.run (callF G m) U.length duBody env S) (fun q e S => ∃ (z7 z8 z10 z11 : Option DD), e = [some (.cel b), some (.int (p : Nat)), some (.lst (as.map dA)), some (.int t'), some (.lst ((pairsOf p).map dP)), some (.cel U.length), y6, z7, z8, y9, z10, z11, y12, y13, y14] ∧ S = U.set b j2 ++ [(((pairsOf p).take q).filter fun q => decide (low (W p as) q.1 q.2 as = gt (W p as) q.1 q.2)).map dP]) (n := (pairsOf p).length) (fun q e S hq h => by
    obtain ⟨z7, z8, z10, z11, rfl, rfl⟩ := h
    have mem := pairs_mem.mp (show (((pairsOf p)[q]).1, ((pairsOf p)[q]).2) ∈ pairsOf p from List.getElem_mem hq)
    obtain ⟨w7, w8, r⟩ := due_turn (f := m) (U := U) (V := U.set b j2) (i := ((pairsOf p)[q]).1) (j := ((pairsOf p)[q]).2) (by omega) (by simp) hp ha hg mem.1 mem.2.1 (L := ((pairsOf p).take q).filter fun q => decide (low (W p as) q.1 q.2 as = gt (W p as) q.1 q.2)) (by
      have h1 : (((pairsOf p).take q).filter fun q => decide (low (W p as) q.1 q.2 as = gt (W p as) q.1 q.2)).length ≤ ((pairsOf p).take q).length := List.length_filter_le _ _
      rw [List.length_take] at h1
      omega) (x0 := some (.cel b)) (x3 := some (.int t')) (x4 := some (.lst ((pairsOf p).map dP))) (x6 := y6) (x7 := z7) (x8 := z8) (x9 := y9) (x12 := y12) (x13 := y13) (x14 := y14)
    refine ⟨dP (pairsOf p)[q], _, _, by rw [atL, List.getElem?_eq_getElem hq]; rfl, .inl ((show _ = _ from asg_pair).trans r), _, _, _, _, rfl, ?_⟩
    rw [List.take_succ_eq_append_getElem hq, List.filter_append]
    congr 4
    by_cases h : low (W p as) ((pairsOf p)[q]).1 ((pairsOf p)[q]).2 as = gt (W p as) ((pairsOf p)[q]).1 ((pairsOf p)[q]).2
    · rw [if_pos h, List.filter_cons_of_pos (by simpa using h)]
      rfl
    · rw [if_neg h, List.filter_cons_of_neg (by simpa using h)]
      rfl) (fun e S h => by rw [atL, List.getElem?_eq_none (Nat.le_refl _)]; rfl) (f := fuelW) (i := 0) (env := [some (.cel b), some (.int (p : Nat)), some (.lst (as.map dA)), some (.int t'), some (.lst ((pairsOf p).map dP)), some (.cel U.length), y6, y7, y8, y9, y10, y11, y12, y13, y14]) (S := U.set b j2 ++ [([] : List (Nat × Nat)).map dP]) (Nat.zero_le _) (by unfold fuelW; omega) ⟨_, _, _, _, rfl, rfl⟩
  rw [List.take_length] at e2
  have sr := settled_right (f := m) (U := U ++ [(setl (W p as) as p).map dP]) (b := b) (c := U.length) (it := j2) (n := n + (pairsOf p).length + 2 * rs.length) (by omega) (by simp; omega) (by rw [List.getElem?_append_right (Nat.le_refl _)]; simp) (by omega) c2 (by omega) hp ha hg t'
  obtain ⟨j3, sr, c3⟩ := sr
  rw [set_app1 hb, set_app1 hb] at sr
  refine ⟨j3, ?_, c3.mono (by omega)⟩
  have tot : VI.run (callF G m) U.length b_law_ranges_right [some (.cel b), some (.int (p : Nat)), some (.lst (as.map dA)), some (.int t), none, none, none, none, none, none, none, none, none, none, none] (U.set b it) = .go (.rt (.bl true)) [some (.cel b), some (.int (p : Nat)), some (.lst (as.map dA)), some (.int t'), some (.lst ((pairsOf p).map dP)), some (.cel U.length), y6, z7, z8, y9, z10, z11, y12, y13, y14] (U.set b j3 ++ [(setl (W p as) as p).map dP]) := by
    unfold b_law_ranges_right
    unfold prBody hasE byBody smBody at e
    unfold duBody at e2
    rw [seq_go s1, seq_go ((fr_eq hI).trans e), seq_go ((fr_eq hI2).trans e2)]
    refine ret_go ?_
    simp only [ev, evs, List.getElem?_cons_zero, List.getElem?_cons_succ, bok]
    exact sr
  rw [tot]
  refine end_rt rfl (Flat.bl _) ?_
  rw [← set_len (U := U) (b := b) (it' := j3)]
  exact take_app _ _
end
end K36

set_option Elab.async false
set_option linter.all false
set_option maxRecDepth 100000
set_option maxHeartbeats 4000000
namespace K36
open VI PySem L2
def inBody : VS := (.seq (.asg (.tloc 9) (.call 32 (.cons (.loc 5) (.cons (.loc 8) .nil)))) (.seq (.ite (.notv (.call 25 (.cons (.call 34 (.cons (.int 0) (.cons (.loc 5) (.cons (.bi .list false (.cons (.loc 8) .nil)) (.cons .non (.cons (.loc 4) .nil)))))) (.cons (.lst false (.cons (.str "told") (.cons (.loc 9) .nil))) .nil)))) (.seq (.ret (.bl false)) .skip) .skip) (.seq (.ite (.notv (.call 25 (.cons (.call 34 (.cons (.int 0) (.cons (.loc 5) (.cons (.bi .tuple false (.cons (.loc 8) .nil)) (.cons .non (.cons (.bin .sub false (.int 1) (.loc 4)) .nil)))))) (.cons (.lst false (.cons (.str "told") (.cons (.loc 9) .nil))) .nil)))) (.seq (.ret (.bl false)) .skip) .skip) (.seq (.ite (.andv (.loc 9) (.notv (.call 35 (.cons (.loc 2) (.cons (.loc 5) (.cons (.loc 8) (.cons (.loc 4) .nil))))))) (.seq (.ret (.bl false)) .skip) .skip) (.seq (.ite (.andv (.notv (.loc 9)) (.notv (.call 37 (.cons (.loc 5) (.cons (.loc 8) (.cons (.loc 4) .nil)))))) (.seq (.ret (.bl false)) .skip) .skip) .skip)))))
def outBody : VS := (.seq (.asg (.tloc 2) (.call 22 (.cons (.call 21 (.cons (.loc 0) (.cons (.loc 1) .nil))) .nil))) (.seq (.par (.cons (.tloc 3) (.cons (.tloc 4) (.cons (.tloc 5) .nil))) (.cons (.cmp .eq (.call 23 (.cons (.loc 2) (.cons (.int 8) .nil))) (.int 0)) (.cons (.call 23 (.cons (.loc 2) (.cons (.int 2) .nil))) (.cons (.ix (.lst false (.cons (.int 3) (.cons (.int 4) (.cons (.int 2) (.cons (.int 5) (.cons (.int 3) (.cons (.int 4) .nil))))))) (.call 23 (.cons (.loc 2) (.cons (.int 6) .nil)))) .nil)))) (.seq (.par (.cons (.tloc 6) (.cons (.tloc 7) .nil)) (.cons (.call 30 (.cons (.loc 2) (.cons (.call 28 (.cons (.loc 2) (.cons (.loc 5) (.cons (.loc 3) .nil)))) .nil))) (.cons (.call 30 (.cons (.loc 2) (.cons (.call 28 (.cons (.loc 2) (.cons (.loc 5) (.cons (.bl false) .nil)))) .nil))) .nil))) (.seq (.fr (.tloc 8) (.iseq (.lst false (.cons (.loc 6) (.cons (.loc 7) .nil)))) inBody) .skip))))
section
variable {S U V : Sto} {f b c n p i j : Nat} {as : List An} {it : List DD}
theorem in_turn (hf : 12 ≤ f) (hb : b < U.length) (hi : Bit n it) (hn : n ≤ 10000000) (hp : 2 ≤ p ∧ p ≤ 5) (ha : VA p as) (hl : as.length ≤ 25) {k : Nat} {x0 x1 x3 x6 x7 x9 : Option DD} {t : Int} :
    ∃ (y9 : Option DD) (it' : List DD), VI.run (callF G f) k inBody [x0, x1, some (.cel b), x3, some (.int t), some (.int (p : Nat)), x6, x7, some (.lst (as.map dA)), x9] (U.set b it) = .go .nx [x0, x1, some (.cel b), x3, some (.int t), some (.int (p : Nat)), x6, x7, some (.lst (as.map dA)), y9] (U.set b it') ∧ Bit (n + 100) it' := by
  have q2 : ∀ x y : DD, [x, y].length ≤ lenMax := fun x y => by simp [lenMax]
  have sb : ∀ (u v : Int) T, binD .sub false (.int u) (.int v) T = .ok (.int (u - v)) T := fun _ _ _ => rfl
  have ls : ∀ T, biD .list false [.lst (as.map dA)] T = .ok (.lst (as.map dA)) T := fun _ => rfl
  have tp : ∀ T, biD .tuple false [.lst (as.map dA)] T = .ok (.tup (as.map dA)) T := fun _ => rfl
  have g0 := f_law_possible (f := f) (S := U.set b it) (d := .lst (as.map dA)) (by omega) hp val_lst ha
  rw [← agr_bad ha] at g0
  have k1 := asked0 (f := f) (S := U.set b it) (d := .lst (as.map dA)) (by omega) hp val_lst ha t .non
  have k2 := asked0 (f := f) (S := U.set b it) (d := .tup (as.map dA)) (by omega) hp val_tup ha (1 - t) .non
  have m1 : ∀ v : Bool, callF G f 25 [.lst [.str "told", .bl v], .lst [.str "told", .bl v]] (U.set b it) = .ok (.bl true) (U.set b it) := fun v =>
    f_same 6 (f := f) (S := U.set b it) (by omega) (eqd_self (xs := [.str "told", .bl v]) (g := .lst [.str "told", .bl v]) (e := .lst [.str "told", .bl v]) rfl rfl rfl (by simp) fun x hx => by
      rcases List.mem_cons.mp hx with rfl | hx
      · exact eqd_told 4
      rcases List.mem_cons.mp hx with rfl | hx
      · exact eqd_B 4 _
      · cases hx)
  cases hg : agr (W p as) as with
  | true =>
    rw [hg] at g0 k1 k2
    obtain ⟨it', r, c⟩ := ranges_right (f := f) (U := U) (by omega) hb hi hn hp ha hg (by omega) t
    refine ⟨some (.bl true), it', ?_, c⟩
    unfold inBody
    simp only [VI.run, evT, ev, evs, List.getElem?_cons_zero, List.getElem?_cons_succ, bok, sok, gnx, g0, k1, k2, m1, ls, tp, sb, q2, if_true, al2, r, truR, truD, Bool.not_true, Bool.not_false, Bool.false_eq_true, if_false, asg, List.set_cons_succ, List.set_cons_zero]
  | false =>
    rw [hg] at g0 k1 k2
    have r := none_right (f := f) (U := U.set b it) (by omega) hp ha hg (by omega) t
    refine ⟨some (.bl false), it, ?_, hi.mono (by omega)⟩
    unfold inBody
    simp only [VI.run, evT, ev, evs, List.getElem?_cons_zero, List.getElem?_cons_succ, bok, sok, gnx, g0, k1, k2, m1, ls, tp, sb, q2, if_true, al2, r, truR, truD, Bool.not_true, Bool.not_false, Bool.false_eq_true, if_false, asg, List.set_cons_succ, List.set_cons_zero]
theorem out_turn (hf : 12 ≤ f) (ns : List Int) (hi : i ≤ 1000) {T : Sto} {x2 x3 x4 x5 x6 x7 x8 x9 : Option DD} :
    ∃ (y2 y3 y4 y5 y6 y7 y8 y9 : Option DD) (T' : Sto), VI.run (callF G f) U.length outBody [some (.scr ns), some (.int (i : Nat)), x2, x3, x4, x5, x6, x7, x8, x9] (U ++ T) = .go .nx [some (.scr ns), some (.int (i : Nat)), y2, y3, y4, y5, y6, y7, y8, y9] (U ++ T') := by
  obtain ⟨z, hz⟩ := cell_ok (f := f) (U := U ++ T) (k := i) (by omega) ns hi
  obtain ⟨it0, hx, c0⟩ := box_ok (f := f) (U := U ++ T) (by omega) z
  have s1 : VI.run (callF G f) U.length (.asg (.tloc 2) (.call 22 (.cons (.call 21 (.cons (.loc 0) (.cons (.loc 1) .nil))) .nil))) [some (.scr ns), some (.int (i : Nat)), x2, x3, x4, x5, x6, x7, x8, x9] (U ++ T) = .go .nx [some (.scr ns), some (.int (i : Nat)), some (.cel (U ++ T).length), x3, x4, x5, x6, x7, x8, x9] (U ++ T ++ [it0]) := by
    simp only [VI.run, ev, evs, List.getElem?_cons_zero, List.getElem?_cons_succ, bok, sok, hz, hx, asg, List.set_cons_succ, List.set_cons_zero]
  -- the box among the cells
  have hb : (U ++ T).length < (U ++ T ++ [it0]).length := by simp
  have e0 : U ++ T ++ [it0] = (U ++ T ++ [it0]).set (U ++ T).length it0 := by
    rw [List.set_append_right _ _ (Nat.le_refl _)]; simp
  generalize hQ : U ++ T ++ [it0] = Q at s1 hb e0
  generalize hbb : (U ++ T).length = b at s1 hb e0
  rw [e0] at s1
  obtain ⟨v1, j1, a1, b1, c1⟩ := tk (f := f) (U := Q) (b := b) (k := 8) (by omega) hb c0 (by omega) (by omega)
  obtain ⟨v2, j2, a2, b2, c2⟩ := tk (f := f) (U := Q) (b := b) (k := 2) (by omega) hb c1 (by omega) (by omega)
  obtain ⟨v3, j3, a3, b3, c3⟩ := tk (f := f) (U := Q) (b := b) (k := 6) (by omega) hb c2 (by omega) (by omega)
  have a1 : callF G f 23 [.cel b, .int 8] (Q.set b it0) = .ok (.int (v1 : Nat)) (Q.set b j1) := a1
  have a2 : callF G f 23 [.cel b, .int 2] (Q.set b j1) = .ok (.int (v2 : Nat)) (Q.set b j2) := a2
  have a3 : callF G f 23 [.cel b, .int 6] (Q.set b j2) = .ok (.int (v3 : Nat)) (Q.set b j3) := a3
  obtain ⟨p, hp, pk⟩ : ∃ p : Nat, (2 ≤ p ∧ p ≤ 5) ∧ ∀ T, ixD (.lst [.int 3, .int 4, .int 2, .int 5, .int 3, .int 4]) (.int (v3 : Nat)) T = .ok (.int (p : Nat)) T := by
    match v3, b3 with
    | 0, _ => exact ⟨3, by omega, fun _ => rfl⟩
    | 1, _ => exact ⟨4, by omega, fun _ => rfl⟩
    | 2, _ => exact ⟨2, by omega, fun _ => rfl⟩
    | 3, _ => exact ⟨5, by omega, fun _ => rfl⟩
    | 4, _ => exact ⟨3, by omega, fun _ => rfl⟩
    | 5, _ => exact ⟨4, by omega, fun _ => rfl⟩
    | v + 6, h => omega
  have q : ∀ T, cmpD .eq (.int (v1 : Nat)) (.int 0) T = .ok (.bl (decide (v1 = 0))) T := fun T => eq_nat (i := v1) (j := 0)
  have lsE : ∀ env T, ev (callF G f) U.length none (.lst false (.cons (.int 3) (.cons (.int 4) (.cons (.int 2) (.cons (.int 5) (.cons (.int 3) (.cons (.int 4) .nil))))))) env T = .ok (.lst [.int 3, .int 4, .int 2, .int 5, .int 3, .int 4]) T := fun env T => by
    simp only [ev, evs, bok]
    rfl
  have ixU : ∀ A B env T, ev (callF G f) U.length none (.ix A B) env T = (ev (callF G f) U.length none A env T).bind fun x T => (ev (callF G f) U.length none B env T).bind fun y T => ixD x y T := fun A B env T => by simp only [ev]
  have tkE : ∀ (kk : Int) (env : VEnv) (T : Sto), env[2]? = some (some (.cel b)) → ev (callF G f) U.length none (.call 23 (.cons (.loc 2) (.cons (.int kk) .nil))) env T = callF G f 23 [.cel b, .int kk] T := fun kk env T h => by simp only [ev, evs, h, bok]
  have cmU : ∀ A B env T, ev (callF G f) U.length none (.cmp .eq A B) env T = (ev (callF G f) U.length none A env T).bind fun x T => (ev (callF G f) U.length none B env T).bind fun y T => cmpD .eq x y T := fun A B env T => by simp only [ev]
  have i0E : ∀ env T, ev (callF G f) U.length none (.int 0) env T = .ok (.int 0) T := fun env T => by simp only [ev]
  have s2 : VI.run (callF G f) U.length (.par (.cons (.tloc 3) (.cons (.tloc 4) (.cons (.tloc 5) .nil))) (.cons (.cmp .eq (.call 23 (.cons (.loc 2) (.cons (.int 8) .nil))) (.int 0)) (.cons (.call 23 (.cons (.loc 2) (.cons (.int 2) .nil))) (.cons (.ix (.lst false (.cons (.int 3) (.cons (.int 4) (.cons (.int 2) (.cons (.int 5) (.cons (.int 3) (.cons (.int 4) .nil))))))) (.call 23 (.cons (.loc 2) (.cons (.int 6) .nil)))) .nil)))) [some (.scr ns), some (.int (i : Nat)), some (.cel b), x3, x4, x5, x6, x7, x8, x9] (Q.set b it0) = .go .nx [some (.scr ns), some (.int (i : Nat)), some (.cel b), some (.bl (decide (v1 = 0))), some (.int (v2 : Nat)), some (.int (p : Nat)), x6, x7, x8, x9] (Q.set b j3) := by
    have w1 := tkE 8 [some (.scr ns), some (.int (i : Nat)), some (.cel b), x3, x4, x5, x6, x7, x8, x9] (Q.set b it0) rfl
    have w2 := tkE 2 [some (.scr ns), some (.int (i : Nat)), some (.cel b), x3, x4, x5, x6, x7, x8, x9] (Q.set b j1) rfl
    have w3 := tkE 6 [some (.scr ns), some (.int (i : Nat)), some (.cel b), x3, x4, x5, x6, x7, x8, x9] (Q.set b j2) rfl
    simp only [VI.run, evs, cmU, ixU, lsE, i0E, w1, w2, w3, a1, a2, a3, bok, q, pk, sok, asgs, asg, List.set_cons_succ, List.set_cons_zero]
  obtain ⟨M1, j4, t1, w1, n1, c4⟩ := table_ok (f := f) (U := Q) (b := b) (p := p) (by omega) hb c3 (by omega) hp (decide (v1 = 0))
  obtain ⟨as1, j5, t2, va1, l1, c5⟩ := answers_ok (f := f) (U := Q) (b := b) (by omega) hb c4 (by omega) hp w1 n1
  obtain ⟨M2, j6, t3, w2, n2, c6⟩ := table_ok (f := f) (U := Q) (b := b) (p := p) (by omega) hb c5 (by omega) hp false
  obtain ⟨as2, j7, t4, va2, l2, c7⟩ := answers_ok (f := f) (U := Q) (b := b) (by omega) hb c6 (by omega) hp w2 n2
  have s3 : VI.run (callF G f) U.length (.par (.cons (.tloc 6) (.cons (.tloc 7) .nil)) (.cons (.call 30 (.cons (.loc 2) (.cons (.call 28 (.cons (.loc 2) (.cons (.loc 5) (.cons (.loc 3) .nil)))) .nil))) (.cons (.call 30 (.cons (.loc 2) (.cons (.call 28 (.cons (.loc 2) (.cons (.loc 5) (.cons (.bl false) .nil)))) .nil))) .nil))) [some (.scr ns), some (.int (i : Nat)), some (.cel b), some (.bl (decide (v1 = 0))), some (.int (v2 : Nat)), some (.int (p : Nat)), x6, x7, x8, x9] (Q.set b j3) = .go .nx [some (.scr ns), some (.int (i : Nat)), some (.cel b), some (.bl (decide (v1 = 0))), some (.int (v2 : Nat)), some (.int (p : Nat)), some (.lst (as1.map dA)), some (.lst (as2.map dA)), x8, x9] (Q.set b j7) := by
    simp only [VI.run, ev, evs, List.getElem?_cons_zero, List.getElem?_cons_succ, bok, sok, t1, t2, t3, t4, asgs, asg, List.set_cons_succ, List.set_cons_zero]
  have hI : evI (callF G f) U.length none (.iseq (.lst false (.cons (.loc 6) (.cons (.loc 7) .nil)))) [some (.scr ns), some (.int (i : Nat)), some (.cel b), some (.bl (decide (v1 = 0))), some (.int (v2 : Nat)), some (.int (p : Nat)), some (.lst (as1.map dA)), some (.lst (as2.map dA)), x8, x9] (Q.set b j7) = .ok (.seq (.lst [.lst (as1.map dA), .lst (as2.map dA)])) (Q.set b j7) := by
    have q2 : ∀ x y : DD, [x, y].length ≤ lenMax := fun x y => by simp [lenMax]
    simp only [evI, ev, evs, List.getElem?_cons_zero, List.getElem?_cons_succ, bok, q2, if_true, al2]
    rfl
  obtain ⟨env', S', e, y8, y9, j8, rfl, rfl, c8⟩ := forL_inv (j := .seq (.lst [.lst (as1.map dA), .lst (as2.map dA)])) (turn := fun x env S => (asg (callF G f) U.length none (.tloc 8) x env S).stm env fun env S => VI.run (callF G f) U.length inBody env S) (fun q e S => ∃ (y8 y9 : Option DD) (j8 : List DD), e = [some (.scr ns), some (.int (i : Nat)), some (.cel b), some (.bl (decide (v1 = 0))), some (.int (v2 : Nat)), some (.int (p : Nat)), some (.lst (as1.map dA)), some (.lst (as2.map dA)), y8, y9] ∧ S = Q.set b j8 ∧ Bit (1000 + 100 * q) j8) (n := 2) (fun q e S hq h => by
    obtain ⟨y8, y9, j8, rfl, rfl, c8⟩ := h
    match q, hq with
    | 0, _ =>
      obtain ⟨z9, j9, r, c9⟩ := in_turn (f := f) (U := Q) (b := b) (as := as1) hf hb c8 (by omega) hp va1 l1 (k := U.length) (x0 := some (.scr ns)) (x1 := some (.int (i : Nat))) (x3 := some (.bl (decide (v1 = 0)))) (x6 := some (.lst (as1.map dA))) (x7 := some (.lst (as2.map dA))) (x9 := y9) (t := (v2 : Nat))
      exact ⟨_, _, _, rfl, .inl (asg_loc.trans r), _, _, j9, rfl, rfl, c9.mono (by omega)⟩
    | 1, _ =>
      obtain ⟨z9, j9, r, c9⟩ := in_turn (f := f) (U := Q) (b := b) (as := as2) hf hb c8 (by omega) hp va2 l2 (k := U.length) (x0 := some (.scr ns)) (x1 := some (.int (i : Nat))) (x3 := some (.bl (decide (v1 = 0)))) (x6 := some (.lst (as1.map dA))) (x7 := some (.lst (as2.map dA))) (x9 := y9) (t := (v2 : Nat))
      exact ⟨_, _, _, rfl, .inl (asg_loc.trans r), _, _, j9, rfl, rfl, c9.mono (by omega)⟩
    | q + 2, h => omega) (fun e S h => rfl) (f := fuelW) (i := 0) (env := [some (.scr ns), some (.int (i : Nat)), some (.cel b), some (.bl (decide (v1 = 0))), some (.int (v2 : Nat)), some (.int (p : Nat)), some (.lst (as1.map dA)), some (.lst (as2.map dA)), x8, x9]) (S := Q.set b j7) (Nat.zero_le _) (by unfold fuelW; omega) ⟨x8, x9, j7, rfl, rfl, c7.mono (by omega)⟩
  have eQ : Q.set b j8 = U ++ (T ++ [j8]) := by
    rw [← hQ, ← hbb, List.set_append_right _ _ (Nat.le_refl _)]
    simp
  refine ⟨some (.cel b), some (.bl (decide (v1 = 0))), some (.int (v2 : Nat)), some (.int (p : Nat)), some (.lst (as1.map dA)), some (.lst (as2.map dA)), y8, y9, T ++ [j8], ?_⟩
  unfold outBody
  rw [seq_go s1, seq_go s2, seq_go s3, seq_go ((fr_eq hI).trans e), skip_go, eQ]
theorem law_true (hf : 13 ≤ f) (ns : List Int) : callF G f 38 [.scr ns] U = .ok (.bl true) U := by
  obtain ⟨m, rfl⟩ : ∃ m, f = m + 1 := ⟨f - 1, by omega⟩
  rw [callF_eq (D := ⟨1, 10, b_law, false⟩) rfl rfl]
  show endOf _ U.length (VI.run (callF G m) U.length b_law [some (.scr ns), none, none, none, none, none, none, none, none, none] U) = _
  obtain ⟨N, hN, eN⟩ : ∃ N : Nat, N ≤ 4 ∧ ev (callF G m) U.length none (.bi .max false (.cons (.int 2) (.cons (.bi .min false (.cons (.int 4) (.cons (.bi .len false (.cons (.loc 0) .nil)) .nil))) .nil))) [some (.scr ns), none, none, none, none, none, none, none, none, none] U = .ok (.int (N : Nat)) U := by
    have ln : ∀ T, biD .len false [.scr ns] T = .ok (.int (ns.length : Nat)) T := fun _ => rfl
    have mn : ∀ T, biD .min false [.int 4, .int (ns.length : Nat)] T = .ok (.int ((min 4 ns.length : Nat) : Int)) T := fun T => by
      show R.ok (DD.int (if (ns.length : Int) < 4 then (ns.length : Int) else 4)) T = _
      congr 2
      split <;> omega
    have mxx : ∀ T, biD .max false [.int 2, .int ((min 4 ns.length : Nat) : Int)] T = .ok (.int ((max 2 (min 4 ns.length) : Nat) : Int)) T := fun T => by
      show R.ok (DD.int (if ((min 4 ns.length : Nat) : Int) > 2 then ((min 4 ns.length : Nat) : Int) else 2)) T = _
      congr 2
      split <;> omega
    exact ⟨max 2 (min 4 ns.length), by omega, by simp only [ev, evs, List.getElem?_cons_zero, bok, ln, mn, mxx]⟩
  have hI := evI_rng (F := callF G m) (k := U.length) (m := N) eN (by omega)
  obtain ⟨env', S', e, x1, x2, x3, x4, x5, x6, x7, x8, x9, T, rfl, rfl⟩ := forL_inv (j := .rng 0 N) (turn := fun x env S => (asg (callF G m) U.length none (.tloc 1) x env S).stm env fun env S => VI.run (callF G m) U.length outBody env S) (fun q e S => ∃ (x1 x2 x3 x4 x5 x6 x7 x8 x9 : Option DD) (T : Sto), e = [some (.scr ns), x1, x2, x3, x4, x5, x6, x7, x8, x9] ∧ S = U ++ T) (n := N) (fun q e S hq h => by
    obtain ⟨x1, x2, x3, x4, x5, x6, x7, x8, x9, T, rfl, rfl⟩ := h
    obtain ⟨y2, y3, y4, y5, y6, y7, y8, y9, T', r⟩ := out_turn (f := m) (U := U) (i := q) (by omega) ns (by omega) (T := T) (x2 := x2) (x3 := x3) (x4 := x4) (x5 := x5) (x6 := x6) (x7 := x7) (x8 := x8) (x9 := x9)
    exact ⟨_, _, _, rng_lt _ hq, .inl (asg_loc.trans r), _, _, _, _, _, _, _, _, _, T', rfl, rfl⟩) (fun e S h => rng_end S) (f := fuelW) (i := 0) (env := [some (.scr ns), none, none, none, none, none, none, none, none, none]) (S := U) (Nat.zero_le _) (by unfold fuelW; omega) ⟨_, _, _, _, _, _, _, _, _, [], rfl, by simp⟩
  have tot : VI.run (callF G m) U.length b_law [some (.scr ns), none, none, none, none, none, none, none, none, none] U = .go (.rt (.bl true)) [some (.scr ns), x1, x2, x3, x4, x5, x6, x7, x8, x9] (U ++ T) := by
    unfold b_law
    unfold outBody inBody at e
    rw [seq_go ((fr_eq hI).trans e)]
    exact ret_go (by simp only [ev])
  rw [tot]
  exact end_rt rfl (Flat.bl _) (take_app _ _)
end
end K36

namespace K36
open PySem PySem.Spec PyProof.Rows L2 VI
abbrev LW : PySem.W.OpenLaw := PySem.Challenge.rw_mapwide_k36_whole_between
def top (i : Nat) : Stmt := PySem.Challenge.pw_mapwide_k36_whole_between.main.body.getD i (.Pass ⟨0, 0, 0, 0⟩)
def d_is_integer : FD := ⟨"is_integer", ["value"], n_is_integer, top 6⟩
def d_is_count : FD := ⟨"is_count", ["value"], n_is_count, top 7⟩
def d_is_within : FD := ⟨"is_within", ["value", "low", "high"], n_is_within, top 8⟩
def d_is_index : FD := ⟨"is_index", ["value", "many"], n_is_index, top 9⟩
def d_is_list : FD := ⟨"is_list", ["value"], n_is_list, top 10⟩
def d_is_tuple : FD := ⟨"is_tuple", ["value", "many"], n_is_tuple, top 11⟩
def d_check_many : FD := ⟨"check_many", ["posts"], n_check_many, top 15⟩
def d_check_post : FD := ⟨"check_post", ["posts", "post"], n_check_post, top 16⟩
def d_closed_rows : FD := ⟨"closed_rows", ["rows"], n_closed_rows, top 17⟩
def d_is_length : FD := ⟨"is_length", ["value"], n_is_length, top 19⟩
def d_is_answer : FD := ⟨"is_answer", ["value", "posts"], n_is_answer, top 20⟩
def d_are_answers : FD := ⟨"are_answers", ["value", "posts"], n_are_answers, top 21⟩
def d_greatest_of : FD := ⟨"greatest_of", ["posts", "answers"], n_greatest_of, top 22⟩
def d_agrees : FD := ⟨"agrees", ["table", "answers"], n_agrees, top 23⟩
def d_check_asked : FD := ⟨"check_asked", ["posts", "answers"], n_check_asked, top 24⟩
def d_check_two : FD := ⟨"check_two", ["posts", "i", "j"], n_check_two, top 25⟩
def d_possible : FD := ⟨"possible", ["posts", "answers"], n_possible, top 26⟩
def d_greatest_table : FD := ⟨"greatest_table", ["posts", "answers"], n_greatest_table, top 27⟩
def d_least_item : FD := ⟨"least_item", ["greatest", "answers", "i", "j"], n_least_item, top 28⟩
def d_between : FD := ⟨"between", ["posts", "answers", "i", "j"], n_between, top 29⟩
def d_settled : FD := ⟨"settled", ["posts", "answers"], n_settled, top 30⟩
def d_law_cell : FD := ⟨"_law_cell", ["script", "k"], n_law_cell, top 32⟩
def d_law_box : FD := ⟨"_law_box", ["great"], n_law_box, top 33⟩
def d_law_take : FD := ⟨"_law_take", ["box", "many"], n_law_take, top 34⟩
def d_law_mixed : FD := ⟨"_law_mixed", ["box", "items"], n_law_mixed, top 35⟩
def d_law_same : FD := ⟨"_law_same", ["given", "due"], n_law_same, top 36⟩
def d_law_closed : FD := ⟨"_law_closed", ["rows"], n_law_closed, top 37⟩
def d_law_length : FD := ⟨"_law_length", ["box", "great"], n_law_length, top 38⟩
def d_law_table : FD := ⟨"_law_table", ["box", "posts", "great"], n_law_table, top 39⟩
def d_law_pairs : FD := ⟨"_law_pairs", ["posts"], n_law_pairs, top 40⟩
def d_law_answers : FD := ⟨"_law_answers", ["box", "table"], n_law_answers, top 41⟩
def d_law_ways : FD := ⟨"_law_ways", ["posts", "answers"], n_law_ways, top 42⟩
def d_law_possible : FD := ⟨"_law_possible", ["posts", "answers"], n_law_possible, top 43⟩
def d_law_range : FD := ⟨"_law_range", ["posts", "answers", "i", "j"], n_law_range, top 44⟩
def d_law_asked : FD := ⟨"_law_asked", ["which", "posts", "answers", "pair", "turn"], n_law_asked, top 45⟩
def d_law_ranges_right : FD := ⟨"_law_ranges_right", ["box", "posts", "answers", "turn"], n_law_ranges_right, top 46⟩
def d_law_settled_right : FD := ⟨"_law_settled_right", ["box", "posts", "answers", "due", "turn"], n_law_settled_right, top 47⟩
def d_law_none_right : FD := ⟨"_law_none_right", ["posts", "answers", "turn"], n_law_none_right, top 48⟩
def d_law : FD := ⟨"law", ["script"], n_law, top 49⟩
def ds : List FD := [d_is_integer, d_is_count, d_is_within, d_is_index, d_is_list, d_is_tuple, d_check_many, d_check_post, d_closed_rows, d_is_length, d_is_answer, d_are_answers, d_greatest_of, d_agrees, d_check_asked, d_check_two, d_possible, d_greatest_table, d_least_item, d_between, d_settled, d_law_cell, d_law_box, d_law_take, d_law_mixed, d_law_same, d_law_closed, d_law_length, d_law_table, d_law_pairs, d_law_answers, d_law_ways, d_law_possible, d_law_range, d_law_asked, d_law_ranges_right, d_law_settled_right, d_law_none_right, d_law]
def x_InvalidPost : XD := ⟨"InvalidPost", "InvalidPost.__init__", clsInit (top 2)⟩
def x_InvalidMany : XD := ⟨"InvalidMany", "InvalidMany.__init__", clsInit (top 3)⟩
def x_InvalidAnswers : XD := ⟨"InvalidAnswers", "InvalidAnswers.__init__", clsInit (top 4)⟩
def xs : List XD := [x_InvalidPost, x_InvalidMany, x_InvalidAnswers]
theorem chk_all : chkAll tab G ds xs = true := by kernel_rfl
theorem bd_is_integer : BndOk (defArgs d_is_integer.st) d_is_integer.ps := fun _ _ _ _ _ _ _ _ _ _ us hl => match us, hl with | [_], _ => rfl
theorem bd_is_count : BndOk (defArgs d_is_count.st) d_is_count.ps := fun _ _ _ _ _ _ _ _ _ _ us hl => match us, hl with | [_], _ => rfl
theorem bd_is_within : BndOk (defArgs d_is_within.st) d_is_within.ps := fun _ _ _ _ _ _ _ _ _ _ us hl => match us, hl with | [_, _, _], _ => rfl
theorem bd_is_index : BndOk (defArgs d_is_index.st) d_is_index.ps := fun _ _ _ _ _ _ _ _ _ _ us hl => match us, hl with | [_, _], _ => rfl
theorem bd_is_list : BndOk (defArgs d_is_list.st) d_is_list.ps := fun _ _ _ _ _ _ _ _ _ _ us hl => match us, hl with | [_], _ => rfl
theorem bd_is_tuple : BndOk (defArgs d_is_tuple.st) d_is_tuple.ps := fun _ _ _ _ _ _ _ _ _ _ us hl => match us, hl with | [_, _], _ => rfl
theorem bd_check_many : BndOk (defArgs d_check_many.st) d_check_many.ps := fun _ _ _ _ _ _ _ _ _ _ us hl => match us, hl with | [_], _ => rfl
theorem bd_check_post : BndOk (defArgs d_check_post.st) d_check_post.ps := fun _ _ _ _ _ _ _ _ _ _ us hl => match us, hl with | [_, _], _ => rfl
theorem bd_closed_rows : BndOk (defArgs d_closed_rows.st) d_closed_rows.ps := fun _ _ _ _ _ _ _ _ _ _ us hl => match us, hl with | [_], _ => rfl
theorem bd_is_length : BndOk (defArgs d_is_length.st) d_is_length.ps := fun _ _ _ _ _ _ _ _ _ _ us hl => match us, hl with | [_], _ => rfl
theorem bd_is_answer : BndOk (defArgs d_is_answer.st) d_is_answer.ps := fun _ _ _ _ _ _ _ _ _ _ us hl => match us, hl with | [_, _], _ => rfl
theorem bd_are_answers : BndOk (defArgs d_are_answers.st) d_are_answers.ps := fun _ _ _ _ _ _ _ _ _ _ us hl => match us, hl with | [_, _], _ => rfl
theorem bd_greatest_of : BndOk (defArgs d_greatest_of.st) d_greatest_of.ps := fun _ _ _ _ _ _ _ _ _ _ us hl => match us, hl with | [_, _], _ => rfl
theorem bd_agrees : BndOk (defArgs d_agrees.st) d_agrees.ps := fun _ _ _ _ _ _ _ _ _ _ us hl => match us, hl with | [_, _], _ => rfl
theorem bd_check_asked : BndOk (defArgs d_check_asked.st) d_check_asked.ps := fun _ _ _ _ _ _ _ _ _ _ us hl => match us, hl with | [_, _], _ => rfl
theorem bd_check_two : BndOk (defArgs d_check_two.st) d_check_two.ps := fun _ _ _ _ _ _ _ _ _ _ us hl => match us, hl with | [_, _, _], _ => rfl
theorem bd_possible : BndOk (defArgs d_possible.st) d_possible.ps := fun _ _ _ _ _ _ _ _ _ _ us hl => match us, hl with | [_, _], _ => rfl
theorem bd_greatest_table : BndOk (defArgs d_greatest_table.st) d_greatest_table.ps := fun _ _ _ _ _ _ _ _ _ _ us hl => match us, hl with | [_, _], _ => rfl
theorem bd_least_item : BndOk (defArgs d_least_item.st) d_least_item.ps := fun _ _ _ _ _ _ _ _ _ _ us hl => match us, hl with | [_, _, _, _], _ => rfl
theorem bd_between : BndOk (defArgs d_between.st) d_between.ps := fun _ _ _ _ _ _ _ _ _ _ us hl => match us, hl with | [_, _, _, _], _ => rfl
theorem bd_settled : BndOk (defArgs d_settled.st) d_settled.ps := fun _ _ _ _ _ _ _ _ _ _ us hl => match us, hl with | [_, _], _ => rfl
theorem bd_law_cell : BndOk (defArgs d_law_cell.st) d_law_cell.ps := fun _ _ _ _ _ _ _ _ _ _ us hl => match us, hl with | [_, _], _ => rfl
theorem bd_law_box : BndOk (defArgs d_law_box.st) d_law_box.ps := fun _ _ _ _ _ _ _ _ _ _ us hl => match us, hl with | [_], _ => rfl
theorem bd_law_take : BndOk (defArgs d_law_take.st) d_law_take.ps := fun _ _ _ _ _ _ _ _ _ _ us hl => match us, hl with | [_, _], _ => rfl
theorem bd_law_mixed : BndOk (defArgs d_law_mixed.st) d_law_mixed.ps := fun _ _ _ _ _ _ _ _ _ _ us hl => match us, hl with | [_, _], _ => rfl
theorem bd_law_same : BndOk (defArgs d_law_same.st) d_law_same.ps := fun _ _ _ _ _ _ _ _ _ _ us hl => match us, hl with | [_, _], _ => rfl
theorem bd_law_closed : BndOk (defArgs d_law_closed.st) d_law_closed.ps := fun _ _ _ _ _ _ _ _ _ _ us hl => match us, hl with | [_], _ => rfl
theorem bd_law_length : BndOk (defArgs d_law_length.st) d_law_length.ps := fun _ _ _ _ _ _ _ _ _ _ us hl => match us, hl with | [_, _], _ => rfl
theorem bd_law_table : BndOk (defArgs d_law_table.st) d_law_table.ps := fun _ _ _ _ _ _ _ _ _ _ us hl => match us, hl with | [_, _, _], _ => rfl
theorem bd_law_pairs : BndOk (defArgs d_law_pairs.st) d_law_pairs.ps := fun _ _ _ _ _ _ _ _ _ _ us hl => match us, hl with | [_], _ => rfl
theorem bd_law_answers : BndOk (defArgs d_law_answers.st) d_law_answers.ps := fun _ _ _ _ _ _ _ _ _ _ us hl => match us, hl with | [_, _], _ => rfl
theorem bd_law_ways : BndOk (defArgs d_law_ways.st) d_law_ways.ps := fun _ _ _ _ _ _ _ _ _ _ us hl => match us, hl with | [_, _], _ => rfl
theorem bd_law_possible : BndOk (defArgs d_law_possible.st) d_law_possible.ps := fun _ _ _ _ _ _ _ _ _ _ us hl => match us, hl with | [_, _], _ => rfl
theorem bd_law_range : BndOk (defArgs d_law_range.st) d_law_range.ps := fun _ _ _ _ _ _ _ _ _ _ us hl => match us, hl with | [_, _, _, _], _ => rfl
theorem bd_law_asked : BndOk (defArgs d_law_asked.st) d_law_asked.ps := fun _ _ _ _ _ _ _ _ _ _ us hl => match us, hl with | [_, _, _, _, _], _ => rfl
theorem bd_law_ranges_right : BndOk (defArgs d_law_ranges_right.st) d_law_ranges_right.ps := fun _ _ _ _ _ _ _ _ _ _ us hl => match us, hl with | [_, _, _, _], _ => rfl
theorem bd_law_settled_right : BndOk (defArgs d_law_settled_right.st) d_law_settled_right.ps := fun _ _ _ _ _ _ _ _ _ _ us hl => match us, hl with | [_, _, _, _, _], _ => rfl
theorem bd_law_none_right : BndOk (defArgs d_law_none_right.st) d_law_none_right.ps := fun _ _ _ _ _ _ _ _ _ _ us hl => match us, hl with | [_, _, _], _ => rfl
theorem bd_law : BndOk (defArgs d_law.st) d_law.ps := fun _ _ _ _ _ _ _ _ _ _ us hl => match us, hl with | [_], _ => rfl
theorem bx_InvalidPost : BndOk (defArgs x_InvalidPost.st) ["self", "given"] := fun _ _ _ _ _ _ _ _ _ _ us hl => match us, hl with | [_, _], _ => rfl
theorem bx_InvalidMany : BndOk (defArgs x_InvalidMany.st) ["self", "given"] := fun _ _ _ _ _ _ _ _ _ _ us hl => match us, hl with | [_, _], _ => rfl
theorem bx_InvalidAnswers : BndOk (defArgs x_InvalidAnswers.st) ["self", "given"] := fun _ _ _ _ _ _ _ _ _ _ us hl => match us, hl with | [_, _], _ => rfl
theorem bds : ∀ d ∈ ds, BndOk (defArgs d.st) d.ps := by
  intro d hd
  simp only [ds, List.mem_cons, List.mem_nil_iff, or_false] at hd
  rcases hd with rfl | rfl | rfl | rfl | rfl | rfl | rfl | rfl | rfl | rfl | rfl | rfl | rfl | rfl | rfl | rfl | rfl | rfl | rfl | rfl | rfl | rfl | rfl | rfl | rfl | rfl | rfl | rfl | rfl | rfl | rfl | rfl | rfl | rfl | rfl | rfl | rfl | rfl | rfl
  · exact bd_is_integer
  · exact bd_is_count
  · exact bd_is_within
  · exact bd_is_index
  · exact bd_is_list
  · exact bd_is_tuple
  · exact bd_check_many
  · exact bd_check_post
  · exact bd_closed_rows
  · exact bd_is_length
  · exact bd_is_answer
  · exact bd_are_answers
  · exact bd_greatest_of
  · exact bd_agrees
  · exact bd_check_asked
  · exact bd_check_two
  · exact bd_possible
  · exact bd_greatest_table
  · exact bd_least_item
  · exact bd_between
  · exact bd_settled
  · exact bd_law_cell
  · exact bd_law_box
  · exact bd_law_take
  · exact bd_law_mixed
  · exact bd_law_same
  · exact bd_law_closed
  · exact bd_law_length
  · exact bd_law_table
  · exact bd_law_pairs
  · exact bd_law_answers
  · exact bd_law_ways
  · exact bd_law_possible
  · exact bd_law_range
  · exact bd_law_asked
  · exact bd_law_ranges_right
  · exact bd_law_settled_right
  · exact bd_law_none_right
  · exact bd_law
theorem bxs : ∀ d ∈ xs, BndOk (defArgs d.st) ["self", "given"] := by
  intro d hd
  simp only [xs, List.mem_cons, List.mem_nil_iff, or_false] at hd
  rcases hd with rfl | rfl | rfl
  · exact bx_InvalidPost
  · exact bx_InvalidMany
  · exact bx_InvalidAnswers
theorem kw0 : KwdOk (defArgs d_settled.st) d_settled.ps 0 ["answers", "posts"] [1, 0] := fun _ _ _ _ _ _ _ _ _ _ us ws ts h1 h2 h3 => match us, ws, h1, h2, h3 with
  | [], [w0, w1], _, _, h3 => by
    have h3 : some [w1, w0] = some ts := h3
    cases h3
    rfl
theorem kw1 : KwdOk (defArgs d_between.st) d_between.ps 0 ["j", "i", "answers", "posts"] [3, 2, 1, 0] := fun _ _ _ _ _ _ _ _ _ _ us ws ts h1 h2 h3 => match us, ws, h1, h2, h3 with
  | [], [w0, w1, w2, w3], _, _, h3 => by
    have h3 : some [w3, w2, w1, w0] = some ts := h3
    cases h3
    rfl
theorem kw2 : KwdOk (defArgs d_possible.st) d_possible.ps 0 ["answers", "posts"] [1, 0] := fun _ _ _ _ _ _ _ _ _ _ us ws ts h1 h2 h3 => match us, ws, h1, h2, h3 with
  | [], [w0, w1], _, _, h3 => by
    have h3 : some [w1, w0] = some ts := h3
    cases h3
    rfl
theorem kws : ∀ f np ks pm, (f, np, ks, pm) ∈ tab.kws → ∀ d, ds[f]? = some d → KwdOk (defArgs d.st) d.ps np ks pm := by
  intro f np ks pm h d hd
  simp only [tab, List.mem_cons, List.mem_nil_iff, or_false, Prod.mk.injEq] at h
  rcases h with ⟨rfl, rfl, rfl, rfl⟩ | ⟨rfl, rfl, rfl, rfl⟩ | ⟨rfl, rfl, rfl, rfl⟩
  · cases (Option.some.inj hd)
    exact kw0
  · cases (Option.some.inj hd)
    exact kw1
  · cases (Option.some.inj hd)
    exact kw2
abbrev R : PySem.W.OpenRow := PySem.W.OpenLaw.row LW
abbrev hk : PySem.W.Hook := hookV 5 (fas tab) (fns ds xs) tab.excs
def ob (s : PySem.W.SharedT) : He.AlD := obsVG 5 (fas tab) (fns ds xs) tab.excs (HandSHeadRun.getT s)
theorem ob_eq (s : PySem.W.SharedT) : ob s = hk.obs s.abs := obsVG_eq (HandSHeadRun.getT_eq s)
def loose : List Str := [("MapError" : Str), ("InvalidPost" : Str), ("InvalidMany" : Str), ("InvalidAnswers" : Str), ("is_integer" : Str), ("is_count" : Str), ("is_within" : Str), ("is_index" : Str), ("is_list" : Str), ("is_tuple" : Str), ("LEAST_POSTS" : Str), ("MOST_POSTS" : Str), ("check_many" : Str), ("check_post" : Str), ("closed_rows" : Str), ("is_length" : Str), ("is_answer" : Str), ("are_answers" : Str), ("greatest_of" : Str), ("agrees" : Str), ("check_asked" : Str), ("check_two" : Str), ("possible" : Str), ("greatest_table" : Str), ("least_item" : Str), ("between" : Str), ("settled" : Str), ("_law_cell" : Str), ("_law_box" : Str), ("_law_take" : Str), ("_law_mixed" : Str), ("_law_same" : Str), ("_law_closed" : Str), ("_law_length" : Str), ("_law_table" : Str), ("_law_pairs" : Str), ("_law_answers" : Str), ("_law_ways" : Str), ("_law_possible" : Str), ("_law_range" : Str), ("_law_asked" : Str), ("_law_ranges_right" : Str), ("_law_settled_right" : Str), ("_law_none_right" : Str)]
theorem run (w : World) : HandSHeadRun.RunEq R (PySem.W.view R.prog [49]) hk ob 4000 loose w := by
  intro os
  kernel_rfl
end K36
open PySem PySem.W PySem.Calls PyProof.Rows
theorem K36.holds (fuel : Nat) (hr : L2.Room (fuel + 3) callerA) (hl : VI.spLaw 63 (VI.callF K36.G fuel) 38) : PySem.Challenge.rw_mapwide_k36_whole_between.Holds := by
  w_on; o_law
  refine HandSHeadRun.head_any (r := OpenLaw.row PySem.Challenge.rw_mapwide_k36_whole_between) (q := view (OpenLaw.row PySem.Challenge.rw_mapwide_k36_whole_between).prog [49]) (H := K36.hk) (ob := K36.ob) (M := 4000) (loose := K36.loose) (d := HandSHeadRun.topDef (OpenLaw.row PySem.Challenge.rw_mapwide_k36_whole_between).prog 49) (kwd := []) K36.ob_eq
    (by kernel_rfl) (fun s => by kernel_rfl) K36.run (by kernel_rfl) (by kernel_rfl) (by kernel_rfl) (by rfl) (by first | assumption | decide +kernel) (by decide +kernel) ⟨rfl, rfl, rfl, rfl, rfl, by decide +kernel⟩ ?hw ?hc
  case hw => w_witness2
  case hc =>
    refine VI.walk_V (l := PySem.Challenge.rw_mapwide_k36_whole_between) (n := 63) (k := fuel + 3) (x := "script") rfl (by decide) (by kernel_rfl) hr ?F
    intro w mg fa h Y G hmg0
    have hmg : mg ("law" : PySem.Str) = some (.ref fa) := by
      have e : (HandSHeadRun.topDef (OpenLaw.row PySem.Challenge.rw_mapwide_k36_whole_between).prog 49).name = ("law" : PySem.Str) := by kernel_rfl
      rw [← e]
      exact hmg0
    exact VI.law_ok (f := 38) (d := K36.d_law) (x := "script") (nm := "law") K36.chk_all K36.bds K36.bxs K36.kws rfl rfl rfl hl Y G hmg

set_option maxHeartbeats 0
theorem PySem.Challenge.cw_mapwide_k36_whole_between_holds : PySem.Challenge.rw_mapwide_k36_whole_between.Holds :=
  K36.holds 30 ⟨rfl, by decide, by decide⟩ (fun ns _ => K36.law_true (by omega) ns)
