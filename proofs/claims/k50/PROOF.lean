import PyProof.Rows.All
import Wide.All
import OpenK.AllK
import Wide.FinOn
import HandS.ForMost
import HandS.ForExc
import HandS.IsInst
import HandS.Conv
import HandS.Flow
import HandS.TupAny
import HandS.Wide
import HandS.WideBits
import KE.GoesMore
import HandS.ExcIs
import HandS.Iter
import HandS.Style
import HandS.TupMul
import PySem.Challenge.RW_facetlore_k50_bounds_and_primes
set_option Elab.async false
set_option linter.all false
set_option maxRecDepth 100000
set_option maxHeartbeats 4000000
/-! AW: abstract readings. Values are trees (D), mutable lists are cells of a store; no address is left in a reading. -/
namespace AW
open PySem PySem.Spec PyProof.Rows L2

/-- a value: .exc is an exception that a suite holds; tuples and lists that never change are trees; .ref n is the n-th cell of the store -/
inductive D where
  | non | bl (b : Bool) | int (i : Int) | str (x : Str) | tup (ds : List D) | fl (ds : List D) | scr (ds : List D) | ref (n : Nat) | exc (a : Addr)

/-- a cell of the store -/
inductive Cel where
  | lst (ds : List D)
  | ins (C : Addr) (fs : List (Str × D))
abbrev Sto := List Cel

/-- a list that is read and never written: the script, or one of the written part -/
def ScrL (K : PySem.W.Frag) (H : Hp) (a : Addr) (xs : List V) : Prop :=
  (∃ o, H a = some (.frz o (.lst xs))) ∨
    ∃ (o : Obj) (its : Array Value) (n : Nat), K.lookup a = some o ∧ o.cls = .type "list" ∧ o.dict = none ∧ o.data = .seq its n ∧ its.size ≤ sizeLine ∧ Vals xs its.toList
theorem ScrL.sq {K : PySem.W.Frag} {H : Hp} {a : Addr} {xs : List V} (h : ScrL K H a xs) : SqL K H a xs := by
  rcases h with ⟨o, h⟩ | h
  · exact .inl (.inr ⟨o, h⟩)
  · exact .inr h
/-- where the cells of the store are; hid: lists that are being made, of which no value speaks -/
structure Ad where
  cells : List Addr
  hid : List Addr
instance : Membership Addr Ad := ⟨fun ι a => a ∈ ι.cells ∨ a ∈ ι.hid⟩
abbrev Ad.add (ι : Ad) (p : Addr) : Ad := ⟨ι.cells ++ [p], ι.hid⟩
mutual
def Rep (K : PySem.W.Frag) (ι : Ad) (H : Hp) : D → V → Prop
  | .non, v => v = .non
  | .bl b, v => v = .bl b
  | .int i, v => v = .int i
  | .str x, v => v = .str x
  | .tup ds, v => ∃ a xs, v = .ref a ∧ SqT K H a xs ∧ RepL K ι H ds xs
  | .fl ds, v => ∃ a xs, v = .ref a ∧ a ∉ ι ∧ H a = some (.lst xs) ∧ RepL K ι H ds xs
  | .scr ds, v => ∃ a xs, v = .ref a ∧ ScrL K H a xs ∧ RepL K ι H ds xs
  | .ref n, v => ∃ a, v = .ref a ∧ ι.cells[n]? = some a
  | .exc a, v => v = .ref a
def RepL (K : PySem.W.Frag) (ι : Ad) (H : Hp) : List D → List V → Prop
  | [], xs => xs = []
  | d :: ds, xs => ∃ x r, xs = x :: r ∧ Rep K ι H d x ∧ RepL K ι H ds r
end

def RepF (K : PySem.W.Frag) (ι : Ad) (H : Hp) : List (Str × D) → List (Str × V) → Prop
  | [], xs => xs = []
  | p :: ps, xs => ∃ x r, xs = (p.1, x) :: r ∧ Rep K ι H p.2 x ∧ RepF K ι H ps r

def CelRep (K : PySem.W.Frag) (ι : Ad) (H : Hp) : Cel → Addr → Prop
  | .lst ds, a => ∃ xs, H a = some (.lst xs) ∧ RepL K ι H ds xs
  | .ins C fs, a => ∃ dx xs, H a = some (.ins C dx xs) ∧ RepF K ι H fs xs

/-- what values lean on, from one abstract state to a later one -/
structure Ext0 (K : PySem.W.Frag) (ι : Ad) (H : Hp) (ι' : Ad) (H' : Hp) : Prop where
  tup : ∀ a xs, SqT K H a xs → SqT K H' a xs
  frz : ∀ a xs, a ∉ ι → H a = some (.lst xs) → a ∉ ι' ∧ H' a = some (.lst xs)
  scr : ∀ a xs, ScrL K H a xs → ScrL K H' a xs
  pre : ι.cells <+: ι'.cells
/-- from one abstract state to a later one: tuples and frozen lists stay, the cells keep their addresses, what is being made stays -/
structure Ext (K : PySem.W.Frag) (ι : Ad) (H : Hp) (ι' : Ad) (H' : Hp) : Prop extends Ext0 K ι H ι' H' where
  hid : ∀ a ∈ ι.hid, a ∈ ι'.hid
  hidk : ∀ a ∈ ι.hid, H' a = H a

structure RelS (K : PySem.W.Frag) (ι : Ad) (S : Sto) (H : Hp) : Prop where
  len : ι.cells.length = S.length
  nd : ι.cells.Nodup
  hid : ∀ a ∈ ι.hid, a ∉ ι.cells ∧ ∃ o, H a = some o
  cel : ∀ (n : Nat) (c : Cel) (a : Addr), S[n]? = some c → ι.cells[n]? = some a → CelRep K ι H c a

abbrev ASt := List (Option D)
def Slots (K : PySem.W.Frag) (ι : Ad) (H : Hp) (σD : ASt) (σ : L2.St) : Prop :=
  σD.length = σ.length ∧ ∀ (i : Nat) (d : D), σD[i]? = some (some d) → ∃ v, σ[i]? = some (some v) ∧ Rep K ι H d v

section
variable {K : PySem.W.Frag} {ι ι1 ι2 : Ad} {H H1 H2 : Hp} {S S1 : Sto}

theorem Ext.refl : Ext K ι H ι H := ⟨⟨fun _ _ h => h, fun _ _ n h => ⟨n, h⟩, fun _ _ h => h, List.prefix_rfl⟩, fun _ h => h, fun _ _ => rfl⟩
theorem Ext0.trans (a : Ext0 K ι H ι1 H1) (b : Ext0 K ι1 H1 ι2 H2) : Ext0 K ι H ι2 H2 :=
  ⟨fun x xs h => b.tup x xs (a.tup x xs h), fun x xs n h => b.frz x xs (a.frz x xs n h).1 (a.frz x xs n h).2, fun x xs h => b.scr x xs (a.scr x xs h), a.pre.trans b.pre⟩
theorem Ext.trans (a : Ext K ι H ι1 H1) (b : Ext K ι1 H1 ι2 H2) : Ext K ι H ι2 H2 :=
  ⟨a.toExt0.trans b.toExt0, fun x h => b.hid x (a.hid x h), fun x h => (b.hidk x (a.hid x h)).trans (a.hidk x h)⟩
theorem Ext0.get (e : Ext0 K ι H ι1 H1) {n : Nat} {a : Addr} (h : ι.cells[n]? = some a) : ι1.cells[n]? = some a := by
  obtain ⟨t, q⟩ := e.pre
  rw [← q, List.getElem?_append_left (List.getElem?_eq_some_iff.mp h).1]
  exact h

mutual
theorem Rep.mono0 (e : Ext0 K ι H ι1 H1) : ∀ (d : D) (v : V), Rep K ι H d v → Rep K ι1 H1 d v
  | .non, _, h => by unfold Rep at h ⊢; exact h
  | .bl _, _, h => by unfold Rep at h ⊢; exact h
  | .int _, _, h => by unfold Rep at h ⊢; exact h
  | .str _, _, h => by unfold Rep at h ⊢; exact h
  | .tup ds, _, h => by
    unfold Rep at h ⊢
    obtain ⟨a, xs, e1, e2, e3⟩ := h
    exact ⟨a, xs, e1, e.tup a xs e2, RepL.mono0 e ds xs e3⟩
  | .fl ds, _, h => by
    unfold Rep at h ⊢
    obtain ⟨a, xs, e1, n, e2, e3⟩ := h
    exact ⟨a, xs, e1, (e.frz a xs n e2).1, (e.frz a xs n e2).2, RepL.mono0 e ds xs e3⟩
  | .scr ds, _, h => by
    unfold Rep at h ⊢
    obtain ⟨a, xs, e1, e2, e3⟩ := h
    exact ⟨a, xs, e1, e.scr a xs e2, RepL.mono0 e ds xs e3⟩
  | .ref n, _, h => by
    unfold Rep at h ⊢
    obtain ⟨a, e1, e2⟩ := h
    exact ⟨a, e1, e.get e2⟩
  | .exc _, _, h => by unfold Rep at h ⊢; exact h
theorem RepL.mono0 (e : Ext0 K ι H ι1 H1) : ∀ (ds : List D) (xs : List V), RepL K ι H ds xs → RepL K ι1 H1 ds xs
  | [], _, h => by unfold RepL at h ⊢; exact h
  | d :: ds, _, h => by
    unfold RepL at h ⊢
    obtain ⟨x, r, e1, e2, e3⟩ := h
    exact ⟨x, r, e1, Rep.mono0 e d x e2, RepL.mono0 e ds r e3⟩
end
theorem RepF.mono0 (e : Ext0 K ι H ι1 H1) : ∀ (ds : List (Str × D)) (xs : List (Str × V)), RepF K ι H ds xs → RepF K ι1 H1 ds xs
  | [], _, h => by unfold RepF at h ⊢; exact h
  | d :: ds, _, h => by
    unfold RepF at h ⊢
    obtain ⟨x, r, e1, e2, e3⟩ := h
    exact ⟨x, r, e1, Rep.mono0 e _ x e2, RepF.mono0 e ds r e3⟩

theorem Rep.mono (e : Ext K ι H ι1 H1) (d : D) (v : V) (h : Rep K ι H d v) : Rep K ι1 H1 d v := Rep.mono0 e.toExt0 d v h
theorem RepL.mono (e : Ext K ι H ι1 H1) (ds : List D) (xs : List V) (h : RepL K ι H ds xs) : RepL K ι1 H1 ds xs := RepL.mono0 e.toExt0 ds xs h
theorem RepF.mono (e : Ext K ι H ι1 H1) (ds : List (Str × D)) (xs : List (Str × V)) (h : RepF K ι H ds xs) : RepF K ι1 H1 ds xs := RepF.mono0 e.toExt0 ds xs h

theorem RepL.nil : RepL K ι H [] [] := by unfold RepL; rfl
theorem RepL.cons {d : D} {ds : List D} {x : V} {xs : List V} (h : Rep K ι H d x) (t : RepL K ι H ds xs) : RepL K ι H (d :: ds) (x :: xs) := by
  unfold RepL; exact ⟨x, xs, rfl, h, t⟩
theorem RepL.length : ∀ {ds : List D} {xs : List V}, RepL K ι H ds xs → ds.length = xs.length
  | [], _, h => by unfold RepL at h; subst h; rfl
  | d :: ds, _, h => by
    unfold RepL at h
    obtain ⟨x, r, rfl, _, e3⟩ := h
    rw [List.length_cons, List.length_cons, RepL.length e3]
theorem RepL.get : ∀ {ds : List D} {xs : List V} {i : Nat} {d : D}, RepL K ι H ds xs → ds[i]? = some d → ∃ x, xs[i]? = some x ∧ Rep K ι H d x
  | [], _, _, _, _, h => by simp at h
  | d :: ds, _, 0, _, h, e => by
    unfold RepL at h
    obtain ⟨x, r, rfl, e2, _⟩ := h
    simp at e; subst e
    exact ⟨x, rfl, e2⟩
  | d :: ds, _, i + 1, _, h, e => by
    unfold RepL at h
    obtain ⟨x, r, rfl, _, e3⟩ := h
    obtain ⟨y, h1, h2⟩ := RepL.get (i := i) e3 (by simpa using e)
    exact ⟨y, by simpa using h1, h2⟩
theorem RepL.append : ∀ {ds es : List D} {xs ys : List V}, RepL K ι H ds xs → RepL K ι H es ys → RepL K ι H (ds ++ es) (xs ++ ys)
  | [], _, _, _, h, h2 => by unfold RepL at h; subst h; exact h2
  | d :: ds, _, _, _, h, h2 => by
    unfold RepL at h
    obtain ⟨x, r, rfl, e2, e3⟩ := h
    exact RepL.cons e2 (RepL.append e3 h2)
theorem RepL.take : ∀ {ds : List D} {xs : List V} (n : Nat), RepL K ι H ds xs → RepL K ι H (ds.take n) (xs.take n)
  | [], _, n, h => by unfold RepL at h; subst h; simp; exact RepL.nil
  | d :: ds, _, 0, h => by simp; exact RepL.nil
  | d :: ds, _, n + 1, h => by
    unfold RepL at h
    obtain ⟨x, r, rfl, e2, e3⟩ := h
    exact RepL.cons e2 (RepL.take n e3)
theorem RepL.drop : ∀ {ds : List D} {xs : List V} (n : Nat), RepL K ι H ds xs → RepL K ι H (ds.drop n) (xs.drop n)
  | [], _, n, h => by unfold RepL at h; subst h; simp; exact RepL.nil
  | d :: ds, _, 0, h => h
  | d :: ds, _, n + 1, h => by
    unfold RepL at h
    obtain ⟨x, r, rfl, e2, e3⟩ := h
    exact RepL.drop n e3
theorem RepL.set : ∀ {ds : List D} {xs : List V} {d : D} {x : V} (n : Nat), RepL K ι H ds xs → Rep K ι H d x → RepL K ι H (ds.set n d) (xs.set n x)
  | [], _, _, _, n, h, _ => by unfold RepL at h; subst h; exact RepL.nil
  | d :: ds, _, _, _, 0, h, hx => by
    unfold RepL at h
    obtain ⟨x, r, rfl, e2, e3⟩ := h
    exact RepL.cons hx e3
  | d :: ds, _, _, _, n + 1, h, hx => by
    unfold RepL at h
    obtain ⟨x, r, rfl, e2, e3⟩ := h
    exact RepL.cons e2 (RepL.set n e3 hx)
theorem RepL.reverse : ∀ {ds : List D} {xs : List V}, RepL K ι H ds xs → RepL K ι H ds.reverse xs.reverse
  | [], _, h => by unfold RepL at h; subst h; exact RepL.nil
  | d :: ds, _, h => by
    unfold RepL at h
    obtain ⟨x, r, rfl, e2, e3⟩ := h
    rw [List.reverse_cons, List.reverse_cons]
    exact RepL.append (RepL.reverse e3) (RepL.cons e2 RepL.nil)

theorem Slots.mono (e : Ext K ι H ι1 H1) {σD : ASt} {σ : L2.St} (s : Slots K ι H σD σ) : Slots K ι1 H1 σD σ :=
  ⟨s.1, fun i d h => let ⟨v, a, b⟩ := s.2 i d h; ⟨v, a, Rep.mono e d v b⟩⟩
theorem Slots.set {σD : ASt} {σ : L2.St} (s : Slots K ι H σD σ) (i : Nat) {d : D} {v : V} (r : Rep K ι H d v) : Slots K ι H (σD.set i (some d)) (σ.set i (some v)) := by
  refine ⟨by rw [List.length_set, List.length_set]; exact s.1, fun j e h => ?_⟩
  by_cases hj : i = j
  · subst hj
    have hl : i < σD.length := by
      have := (List.getElem?_eq_some_iff.mp h).1
      rwa [List.length_set] at this
    rw [List.getElem?_set_self hl] at h
    cases h
    exact ⟨v, by rw [List.getElem?_set_self (by rw [← s.1]; exact hl)], r⟩
  · rw [List.getElem?_set_ne hj] at h
    rw [List.getElem?_set_ne hj]
    exact s.2 j e h

/-- a cell stands in H -/
theorem RelS.there (r : RelS K ι S H) {a : Addr} (h : a ∈ ι) : ∃ o, H a = some o := by
  rcases h with h | h
  rotate_left
  · exact (r.hid a h).2
  obtain ⟨n, hn⟩ := List.getElem?_of_mem h
  have hl : n < S.length := by rw [← r.len]; exact (List.getElem?_eq_some_iff.mp hn).1
  have hc := r.cel n _ a (List.getElem?_eq_getElem hl) hn
  generalize S[n] = c at hc
  cases c with
  | lst ds => obtain ⟨xs, e, _⟩ := hc; exact ⟨_, e⟩
  | ins C fs => obtain ⟨dx, xs, e, _⟩ := hc; exact ⟨_, e⟩
theorem SqT.upd_new {a p : Addr} {xs : List V} {o : HO} (h : SqT K H a xs) (n : H p = none) : SqT K (upd H p o) a xs := by
  rcases h with (h | ⟨u, h⟩) | h
  · exact .inl (.inl (by rw [upd_ne (ne_of_none h n)]; exact h))
  · exact .inl (.inr ⟨u, by rw [upd_ne (ne_of_none h n)]; exact h⟩)
  · exact .inr h
theorem ScrL.upd_new {a p : Addr} {xs : List V} {o : HO} (h : ScrL K H a xs) (n : H p = none) : ScrL K (upd H p o) a xs := by
  rcases h with ⟨u, h⟩ | h
  · exact .inl ⟨u, by rw [upd_ne (ne_of_none h n)]; exact h⟩
  · exact .inr h
/-- a new untracked thing -/
theorem Ext.new {p : Addr} {o : HO} (r : RelS K ι S H) (n : H p = none) : Ext K ι H ι (upd H p o) :=
  ⟨⟨fun _ _ h => SqT.upd_new h n, fun _ _ m h => ⟨m, by rw [upd_ne (ne_of_none h n)]; exact h⟩, fun _ _ h => ScrL.upd_new h n, List.prefix_rfl⟩, fun _ h => h, fun a h => upd_ne (by rintro rfl; obtain ⟨u, e⟩ := (r.hid a h).2; rw [n] at e; cases e)⟩
theorem CelRep.mono0 (e : Ext0 K ι H ι1 H1) {c : Cel} {a : Addr} (k : ∀ o, H a = some o → H1 a = some o) (h : CelRep K ι H c a) : CelRep K ι1 H1 c a := by
  cases c with
  | lst ds => obtain ⟨xs, e1, e2⟩ := h; exact ⟨xs, k _ e1, RepL.mono0 e ds xs e2⟩
  | ins C fs => obtain ⟨dx, xs, e1, e2⟩ := h; exact ⟨dx, xs, k _ e1, RepF.mono0 e fs xs e2⟩
theorem CelRep.mono (e : Ext K ι H ι1 H1) {c : Cel} {a : Addr} (k : ∀ o, H a = some o → H1 a = some o) (h : CelRep K ι H c a) : CelRep K ι1 H1 c a := CelRep.mono0 e.toExt0 k h
theorem RelS.new {p : Addr} {o : HO} (r : RelS K ι S H) (n : H p = none) : RelS K ι S (upd H p o) :=
  ⟨r.len, r.nd, fun a h => ⟨(r.hid a h).1, let ⟨u, e⟩ := (r.hid a h).2; ⟨u, by rw [upd_ne (ne_of_none e n)]; exact e⟩⟩, fun m c a h1 h2 => (r.cel m c a h1 h2).mono (Ext.new r n) fun u h => by rw [upd_ne (ne_of_none h n)]; exact h⟩
/-- a new cell -/
theorem Ext.cell {p : Addr} {o : HO} (r : RelS K ι S H) (n : H p = none) : Ext K ι H (ι.add p) (upd H p o) := by
  refine ⟨⟨fun _ _ h => SqT.upd_new h n, fun a xs m h => ⟨fun z => ?_, by rw [upd_ne (ne_of_none h n)]; exact h⟩, fun _ _ h => ScrL.upd_new h n, List.prefix_append _ _⟩, fun _ h => h, fun a h => upd_ne (by rintro rfl; obtain ⟨u, e⟩ := (r.hid a h).2; rw [n] at e; cases e)⟩
  rcases z with z | z
  rotate_left
  · exact m (.inr z)
  rcases List.mem_append.mp z with z | z
  · exact m (.inl z)
  · rw [List.mem_singleton.mp z, n] at h; cases h
theorem RelS.cell {p : Addr} {c : Cel} {o : HO} (r : RelS K ι S H) (n : H p = none) (hc : CelRep K (ι.add p) (upd H p o) c p) : RelS K (ι.add p) (S ++ [c]) (upd H p o) := by
  have np : p ∉ ι.cells := fun z => by
    obtain ⟨u, e⟩ := r.there (.inl z)
    rw [n] at e; cases e
  refine ⟨by show (ι.cells ++ [p]).length = _; rw [List.length_append, List.length_append, r.len]; rfl, ?_, fun a h => ⟨fun z => ?_, ?_⟩, fun m c' a h1 h2 => ?_⟩
  · show (ι.cells ++ [p]).Nodup
    rw [List.nodup_append]
    exact ⟨r.nd, by simp, fun a ha b hb => by rintro rfl; exact np (by rw [List.mem_singleton.mp hb] at ha; exact ha)⟩
  · obtain ⟨h1, u, e⟩ := r.hid a h
    rcases List.mem_append.mp z with z | z
    · exact h1 z
    · rw [List.mem_singleton.mp z, n] at e; cases e
  · obtain ⟨h1, u, e⟩ := r.hid a h
    exact ⟨u, by rw [upd_ne (ne_of_none e n)]; exact e⟩
  · have h2 : (ι.cells ++ [p])[m]? = some a := h2
    by_cases hm : m < S.length
    · rw [List.getElem?_append_left hm] at h1
      rw [List.getElem?_append_left (by rw [r.len]; exact hm)] at h2
      exact (r.cel m c' a h1 h2).mono (Ext.cell r n) fun u h => by rw [upd_ne (ne_of_none h n)]; exact h
    · have e1 : m = S.length := by
        have := (List.getElem?_eq_some_iff.mp h1).1
        rw [List.length_append, List.length_singleton] at this
        omega
      subst e1
      rw [List.getElem?_append_right (Nat.le_refl _), Nat.sub_self] at h1
      rw [List.getElem?_append_right (by rw [r.len]; exact Nat.le_refl _), r.len, Nat.sub_self] at h2
      cases h1
      cases h2
      exact hc
/-- what is in a cell is changed -/
theorem RelS.at (r : RelS K ι S H) {n : Nat} {c : Cel} (h : S[n]? = some c) : ∃ a, ι.cells[n]? = some a ∧ CelRep K ι H c a := by
  have hl : n < ι.cells.length := by rw [r.len]; exact (List.getElem?_eq_some_iff.mp h).1
  exact ⟨ι.cells[n], List.getElem?_eq_getElem hl, r.cel n c _ h (List.getElem?_eq_getElem hl)⟩
theorem nodup_eq {l : List Addr} (h : l.Nodup) {i j : Nat} {a : Addr} (hi : l[i]? = some a) (hj : l[j]? = some a) : i = j := by
  obtain ⟨h1, e1⟩ := List.getElem?_eq_some_iff.mp hi
  obtain ⟨h2, e2⟩ := List.getElem?_eq_some_iff.mp hj
  exact (List.getElem_inj h).mp (e1.trans e2.symm)
/-- which things at a are written: a list, an instance -/
def Wr : HO → Prop
  | .lst _ => True
  | .ins _ _ _ => True
  | _ => False
theorem Ext.wr {a : Addr} {o o' : HO} (r : RelS K ι S H) (ha : a ∈ ι.cells) (h : H a = some o) (w : Wr o) : Ext K ι H ι (upd H a o') := by
  refine ⟨⟨fun b xs hb => ?_, fun b xs m hb => ⟨m, ?_⟩, fun b xs hb => ?_, List.prefix_rfl⟩, fun _ h => h, fun b hb => upd_ne (by rintro rfl; exact (r.hid b hb).1 ha)⟩
  · rcases hb with (hb | ⟨u, hb⟩) | hb
    · exact .inl (.inl (by rw [upd_ne (by rintro rfl; rw [h] at hb; cases hb; exact w)]; exact hb))
    · exact .inl (.inr ⟨u, by rw [upd_ne (by rintro rfl; rw [h] at hb; cases hb; exact w)]; exact hb⟩)
    · exact .inr hb
  · have hne : b ≠ a := by rintro rfl; exact m (.inl ha)
    rw [upd_ne hne]; exact hb
  · rcases hb with ⟨u, hb⟩ | hb
    · exact .inl ⟨u, by rw [upd_ne (by rintro rfl; rw [h] at hb; cases hb; exact w)]; exact hb⟩
    · exact .inr hb
theorem RelS.wr (r : RelS K ι S H) {n : Nat} {a : Addr} {o o' : HO} {c : Cel} (hn : ι.cells[n]? = some a) (h : H a = some o) (w : Wr o) (hc : CelRep K ι (upd H a o') c a) : RelS K ι (S.set n c) (upd H a o') := by
  refine ⟨by rw [List.length_set]; exact r.len, r.nd, fun b hb => ⟨(r.hid b hb).1, let ⟨u, e⟩ := (r.hid b hb).2; ⟨u, by rw [upd_ne (by rintro rfl; exact (r.hid b hb).1 (List.mem_of_getElem? hn))]; exact e⟩⟩, fun m c' b h1 h2 => ?_⟩
  by_cases hm : n = m
  · subst hm
    rw [hn] at h2; cases h2
    have hl : n < S.length := by rw [← r.len]; exact (List.getElem?_eq_some_iff.mp hn).1
    rw [List.getElem?_set_self hl] at h1
    cases h1
    exact hc
  · rw [List.getElem?_set_ne hm] at h1
    have hne : b ≠ a := by rintro rfl; exact hm (nodup_eq r.nd hn h2)
    exact (r.cel m c' b h1 h2).mono (Ext.wr r (List.mem_of_getElem? hn) h w) fun u hu => by rw [upd_ne hne]; exact hu
/-! ### a list that is being made -/
abbrev Ad.hide (ι : Ad) (p : Addr) : Ad := ⟨ι.cells, p :: ι.hid⟩
theorem Ext.hide {p : Addr} {o : HO} (r : RelS K ι S H) (n : H p = none) : Ext K ι H (ι.hide p) (upd H p o) := by
  have e := Ext.new (o := o) r n
  refine ⟨⟨e.tup, fun a xs m h => ⟨fun z => ?_, (e.frz a xs m h).2⟩, e.scr, List.prefix_rfl⟩, fun a h => List.mem_cons_of_mem _ h, e.hidk⟩
  rcases z with z | z
  · exact m (.inl z)
  · rcases List.mem_cons.mp z with z | z
    · rw [z, n] at h; cases h
    · exact m (.inr z)
theorem RelS.hide {p : Addr} {o : HO} (r : RelS K ι S H) (n : H p = none) : RelS K (ι.hide p) S (upd H p o) := by
  have q := r.new (o := o) n
  refine ⟨q.len, q.nd, fun a h => ?_, fun m c a h1 h2 => (r.cel m c a h1 h2).mono (Ext.hide r n) fun u h => by rw [upd_ne (ne_of_none h n)]; exact h⟩
  rcases List.mem_cons.mp h with z | z
  · subst z
    refine ⟨fun y => ?_, o, upd_same⟩
    obtain ⟨u, e⟩ := r.there (.inl y)
    rw [n] at e; cases e
  · exact q.hid a z
/-- the list being made grows -/
theorem Ext0.hidw {p : Addr} {xs : List V} {o : HO} (hp : p ∈ ι.hid) (h : H p = some (.lst xs)) : Ext0 K ι H ι (upd H p o) := by
  refine ⟨fun b ys hb => ?_, fun b ys m hb => ⟨m, ?_⟩, fun b ys hb => ?_, List.prefix_rfl⟩
  · rcases hb with (hb | ⟨u, hb⟩) | hb
    · exact .inl (.inl (by rw [upd_ne (by rintro rfl; rw [h] at hb; cases hb)]; exact hb))
    · exact .inl (.inr ⟨u, by rw [upd_ne (by rintro rfl; rw [h] at hb; cases hb)]; exact hb⟩)
    · exact .inr hb
  · rw [upd_ne (by rintro rfl; exact m (.inr hp))]; exact hb
  · rcases hb with ⟨u, hb⟩ | hb
    · exact .inl ⟨u, by rw [upd_ne (by rintro rfl; rw [h] at hb; cases hb)]; exact hb⟩
    · exact .inr hb
theorem RelS.hidw {p : Addr} {xs : List V} {o : HO} (r : RelS K ι S H) (hp : p ∈ ι.hid) (h : H p = some (.lst xs)) : RelS K ι S (upd H p o) := by
  refine ⟨r.len, r.nd, fun a ha => ⟨(r.hid a ha).1, ?_⟩, fun m c a h1 h2 => (r.cel m c a h1 h2).mono0 (Ext0.hidw hp h) fun u hu => by rw [upd_ne (by rintro rfl; exact (r.hid _ hp).1 (List.mem_of_getElem? h2))]; exact hu⟩
  by_cases z : a = p
  · subst z; exact ⟨o, upd_same⟩
  · obtain ⟨u, e⟩ := (r.hid a ha).2
    exact ⟨u, by rw [upd_ne z]; exact e⟩
theorem Ext.hidw {p : Addr} {xs : List V} {o : HO} (e : Ext K ι H ι1 H1) (r : RelS K ι S H) (n : H p = none) (hp : p ∈ ι1.hid) (h : H1 p = some (.lst xs)) : Ext K ι H ι1 (upd H1 p o) :=
  ⟨e.toExt0.trans (Ext0.hidw hp h), e.hid, fun a ha => by rw [upd_ne (by rintro rfl; obtain ⟨u, q⟩ := (r.hid _ ha).2; rw [n] at q; cases q)]; exact e.hidk a ha⟩
/-- it is made -/
theorem Ext.bare {hs : List Addr} (e : Ext K ι H ι1 H1) (h : ∀ a ∈ ι.hid, a ∈ hs) (h2 : ∀ a ∈ hs, a ∈ ι1.hid) : Ext K ι H ⟨ι1.cells, hs⟩ H1 :=
  ⟨⟨e.tup, fun a xs m q => ⟨fun z => (e.frz a xs m q).1 (z.elim .inl fun y => .inr (h2 a y)), (e.frz a xs m q).2⟩, e.scr, e.pre⟩, h, e.hidk⟩
theorem Ext0.bare {hs : List Addr} (h2 : ∀ a ∈ hs, a ∈ ι.hid) : Ext0 K ι H ⟨ι.cells, hs⟩ H := by
  refine ⟨fun _ _ z => z, fun b ys nb z => ⟨fun y => nb ?_, z⟩, fun _ _ z => z, List.prefix_rfl⟩
  rcases y with y | y
  · exact .inl y
  · exact .inr (h2 b y)
theorem RelS.bare {hs : List Addr} (r : RelS K ι S H) (h2 : ∀ a ∈ hs, a ∈ ι.hid) : RelS K ⟨ι.cells, hs⟩ S H :=
  ⟨r.len, r.nd, fun a ha => r.hid a (h2 a ha), fun m c a q1 q2 => (r.cel m c a q1 q2).mono0 (Ext0.bare h2) fun _ z => z⟩
theorem RepL.bare {hs : List Addr} {ds : List D} {xs : List V} (h2 : ∀ a ∈ hs, a ∈ ι.hid) (h : RepL K ι H ds xs) : RepL K ⟨ι.cells, hs⟩ H ds xs :=
  RepL.mono0 (Ext0.bare h2) ds xs h
end
end AW
/-! AW2: readings of expressions. -/
namespace AW
open PySem PySem.Spec PyProof.Rows L2

abbrev VKD := D → Sto → Prop
/-- an exception's class, its own fields where it has some -/
abbrev XKD := Value → Option (List (Str × D)) → Sto → Prop
abbrev WE := ASt → Sto → VKD → XKD → Prop
abbrev WT := ASt → Sto → (Bool → Sto → Prop) → XKD → Prop
abbrev WA := ASt → Sto → (List D → Sto → Prop) → XKD → Prop
structure AE where
  nx : ASt → Sto → Prop
  rt : VKD
  bk : ASt → Sto → Prop
  ct : ASt → Sto → Prop
abbrev WS := AE → ASt → Sto → XKD → Prop
def X0 : XKD := fun _ _ _ => False

def XRep (K : PySem.W.Frag) (ι : Ad) (H : Hp) : Option (List (Str × D)) → Option Addr → Prop
  | none, none => True
  | some fs, some d => ∃ xs, H d = some (.xd xs) ∧ RepF K ι H fs xs
  | _, _ => False

section
variable (K : PySem.W.Frag) (ι : Ad) (H : Hp)
def LkE (Q : D → Sto → Prop) (Qh : VK) : Prop := ∀ ι' d S' v H', Ext K ι H ι' H' → RelS K ι' S' H' → Rep K ι' H' d v → Q d S' → Qh v H'
def LkA (Q : List D → Sto → Prop) (Qh : List V → Hp → Prop) : Prop := ∀ ι' ds S' vs H', Ext K ι H ι' H' → RelS K ι' S' H' → RepL K ι' H' ds vs → Q ds S' → Qh vs H'
def LkT (Q : Bool → Sto → Prop) (Qh : Bool → Hp → Prop) : Prop := ∀ ι' b S' H', Ext K ι H ι' H' → RelS K ι' S' H' → Q b S' → Qh b H'
def LkN (Q : ASt → Sto → Prop) (Qh : L2.St → Hp → Prop) : Prop := ∀ ι' σD' S' σ' H', Ext K ι H ι' H' → RelS K ι' S' H' → Slots K ι' H' σD' σ' → Q σD' S' → Qh σ' H'
def LkX (X : XKD) (E : XK) : Prop := ∀ ι' c fo od S' H', Ext K ι H ι' H' → RelS K ι' S' H' → XRep K ι' H' fo od → X c fo S' → E c od H'
structure LkS (DA : AE) (De : Ends) : Prop where
  nx : LkN K ι H DA.nx De.nx
  rt : LkE K ι H DA.rt De.rt
  bk : LkN K ι H DA.bk De.bk
  ct : LkN K ι H DA.ct De.ct
end
section
variable {K : PySem.W.Frag} {ι ι1 : Ad} {H H1 : Hp}
theorem LkE.ext {Q : D → Sto → Prop} {Qh : VK} (e : Ext K ι H ι1 H1) (l : LkE K ι H Q Qh) : LkE K ι1 H1 Q Qh := fun ι' d S' v H' x => l ι' d S' v H' (e.trans x)
theorem LkA.ext {Q : List D → Sto → Prop} {Qh : List V → Hp → Prop} (e : Ext K ι H ι1 H1) (l : LkA K ι H Q Qh) : LkA K ι1 H1 Q Qh := fun ι' d S' v H' x => l ι' d S' v H' (e.trans x)
theorem LkT.ext {Q : Bool → Sto → Prop} {Qh : Bool → Hp → Prop} (e : Ext K ι H ι1 H1) (l : LkT K ι H Q Qh) : LkT K ι1 H1 Q Qh := fun ι' d S' H' x => l ι' d S' H' (e.trans x)
theorem LkN.ext {Q : ASt → Sto → Prop} {Qh : L2.St → Hp → Prop} (e : Ext K ι H ι1 H1) (l : LkN K ι H Q Qh) : LkN K ι1 H1 Q Qh := fun ι' a S' b H' x => l ι' a S' b H' (e.trans x)
theorem LkX.ext {X : XKD} {E : XK} (e : Ext K ι H ι1 H1) (l : LkX K ι H X E) : LkX K ι1 H1 X E := fun ι' c fo od S' H' x => l ι' c fo od S' H' (e.trans x)
theorem LkS.ext {DA : AE} {De : Ends} (e : Ext K ι H ι1 H1) (l : LkS K ι H DA De) : LkS K ι1 H1 DA De := ⟨l.nx.ext e, l.rt.ext e, l.bk.ext e, l.ct.ext e⟩
theorem LkX.none {E : XK} : LkX K ι H X0 E := fun _ _ _ _ _ _ _ _ _ h => h.elim
end

def AbsE (K : PySem.W.Frag) (E : XK) (t : TE) (w : WE) : Prop := ∀ (ι : Ad) (σ : L2.St) (H : Hp) (σD : ASt) (S : Sto) (Q : VKD) (X : XKD) (Qh : VK),
  RelS K ι S H → Slots K ι H σD σ → w σD S Q X → LkE K ι H Q Qh → LkX K ι H X E → t σ H Qh
def AbsT (K : PySem.W.Frag) (E : XK) (t : TT) (w : WT) : Prop := ∀ (ι : Ad) (σ : L2.St) (H : Hp) (σD : ASt) (S : Sto) (Q : Bool → Sto → Prop) (X : XKD) (Qh : Bool → Hp → Prop),
  RelS K ι S H → Slots K ι H σD σ → w σD S Q X → LkT K ι H Q Qh → LkX K ι H X E → t σ H Qh
def AbsA (K : PySem.W.Frag) (E : XK) (t : TA) (w : WA) : Prop := ∀ (ι : Ad) (σ : L2.St) (H : Hp) (σD : ASt) (S : Sto) (Q : List D → Sto → Prop) (X : XKD) (Qh : List V → Hp → Prop),
  RelS K ι S H → Slots K ι H σD σ → w σD S Q X → LkA K ι H Q Qh → LkX K ι H X E → t σ H Qh
def AbsS (K : PySem.W.Frag) (E : XK) (t : TS) (w : WS) : Prop := ∀ (ι : Ad) (σ : L2.St) (H : Hp) (σD : ASt) (S : Sto) (DA : AE) (X : XKD) (De : Ends),
  RelS K ι S H → Slots K ι H σD σ → w DA σD S X → LkS K ι H DA De → LkX K ι H X E → t De σ H

structure JE (X : Cx) (E : XK) (e : Expr) (t : TE) (w : WE) : Prop where
  pe : PE X e t
  ab : AbsE X.K E t w
structure JT (X : Cx) (E : XK) (e : Expr) (t : TT) (w : WT) : Prop where
  pe : PT X e t
  ab : AbsT X.K E t w
/-- a test within and, or -/
structure JW (X : Cx) (E : XK) (e : Expr) (t : TT) (w : WT) : Prop where
  pe : PW X e t
  ab : AbsT X.K E t w
structure JA (X : Cx) (E : XK) (es : List Expr) (t : TA) (w : WA) : Prop where
  pe : PA X es t
  ab : AbsA X.K E t w
structure JS (X : Cx) (E : XK) (st : Stmt) (t : TS) (w : WS) : Prop where
  pe : PS X st t
  ab : AbsS X.K E t w
structure JSs (X : Cx) (E : XK) (st : List Stmt) (t : TS) (w : WS) : Prop where
  pe : PSs X st t
  ab : AbsS X.K E t w

/-! ### names, constants -/
def wVar (i : Nat) : WE := fun σ S Q _ => match σ[i]? with
  | some (some d) => Q d S
  | _ => False
def wC (d : D) : WE := fun _ S Q _ => Q d S
section
variable {X : Cx} {E : XK} {pos : Pos}
theorem je_var (i : Nat) {x : Str} (hN : X.N[i]? = some x := by rfl) (hv : Vis X.env.scope x := by first | exact Or.inl rfl | exact Or.inr (Or.inl rfl) | exact Or.inr (Or.inr rfl)) (hd : (x == ("__debug__" : Str)) = false := by decide)
    (hcd : (x == ("__classdict__" : Str)) = false := by decide) : JE X E (.Name x pos) (tVar i) (wVar i) := by
  refine ⟨pe_var hN hv hd hcd, fun ι σ H σD S Q XX Qh r s h l lx => ?_⟩
  unfold wVar at h
  cases e : σD[i]? with
  | none => rw [e] at h; exact h.elim
  | some o =>
    cases o with
    | none => rw [e] at h; exact h.elim
    | some d =>
      rw [e] at h
      obtain ⟨v, h1, h2⟩ := s.2 i d e
      exact ⟨v, h1, l ι d S v H Ext.refl r h2 h⟩
theorem je_int {n : Int} {j : Nat} : JE X E (.Constant (.int n) j pos) (tC (.int n)) (wC (.int n)) :=
  ⟨pe_int, fun ι σ H σD S Q XX Qh r s h l lx => l ι (.int n) S (.int n) H Ext.refl r (by unfold Rep; rfl) h⟩
theorem je_bl {b : Bool} {j : Nat} : JE X E (.Constant (.bool b) j pos) (tC (.bl b)) (wC (.bl b)) :=
  ⟨pe_bl, fun ι σ H σD S Q XX Qh r s h l lx => l ι (.bl b) S (.bl b) H Ext.refl r (by unfold Rep; rfl) h⟩
theorem je_non {j : Nat} : JE X E (.Constant .none j pos) (tC .non) (wC .non) :=
  ⟨pe_non, fun ι σ H σD S Q XX Qh r s h l lx => l ι .non S .non H Ext.refl r (by unfold Rep; rfl) h⟩
end
end AW
/-! AW3: operators, tests, displays, subscripts. -/
namespace AW
open PySem PySem.Spec PyProof.Rows L2

theorem rep_int {K ι H} {i : Int} {v : V} : Rep K ι H (.int i) v ↔ v = .int i := by unfold Rep; exact Iff.rfl
theorem rep_bl {K ι H} {b : Bool} {v : V} : Rep K ι H (.bl b) v ↔ v = .bl b := by unfold Rep; exact Iff.rfl
theorem rep_str {K ι H} {x : Str} {v : V} : Rep K ι H (.str x) v ↔ v = .str x := by unfold Rep; exact Iff.rfl
theorem rep_non {K ι H} {v : V} : Rep K ι H .non v ↔ v = .non := by unfold Rep; exact Iff.rfl
theorem rep_tup {K ι H} {ds : List D} {v : V} : Rep K ι H (.tup ds) v ↔ ∃ a xs, v = .ref a ∧ SqT K H a xs ∧ RepL K ι H ds xs := by unfold Rep; exact Iff.rfl
theorem rep_fl {K ι H} {ds : List D} {v : V} : Rep K ι H (.fl ds) v ↔ ∃ a xs, v = .ref a ∧ a ∉ ι ∧ H a = some (.lst xs) ∧ RepL K ι H ds xs := by unfold Rep; exact Iff.rfl
theorem rep_scr {K ι H} {ds : List D} {v : V} : Rep K ι H (.scr ds) v ↔ ∃ a xs, v = .ref a ∧ ScrL K H a xs ∧ RepL K ι H ds xs := by unfold Rep; exact Iff.rfl
theorem rep_ref {K ι H} {n : Nat} {v : V} : Rep K ι H (.ref n) v ↔ ∃ a, v = .ref a ∧ ι.cells[n]? = some a := by unfold Rep; exact Iff.rfl

/-- what a value is as a list of items, where it is one -/
def itemsL (S : Sto) : D → Option (List D)
  | .fl ds => some ds
  | .scr ds => some ds
  | .ref n => match S[n]? with
    | some (.lst ds) => some ds
    | _ => none
  | _ => none
theorem itemsL_rep {K ι H} {S : Sto} (r : RelS K ι S H) {d : D} {v : V} {ds : List D} (h : Rep K ι H d v) (e : itemsL S d = some ds) :
    ∃ a xs, v = .ref a ∧ SqL K H a xs ∧ RepL K ι H ds xs := by
  cases d with
  | fl es =>
    cases e
    obtain ⟨a, xs, e1, _, e2, e3⟩ := rep_fl.mp h
    exact ⟨a, xs, e1, SqL.of e2, e3⟩
  | scr es =>
    cases e
    obtain ⟨a, xs, e1, e2, e3⟩ := rep_scr.mp h
    exact ⟨a, xs, e1, e2.sq, e3⟩
  | ref n =>
    obtain ⟨a, e1, e2⟩ := rep_ref.mp h
    have e : (match S[n]? with
      | some (.lst ds) => some ds
      | _ => none) = some ds := e
    split at e
    · cases e
      rename_i hc
      obtain ⟨xs, q1, q2⟩ := r.cel n _ a hc e2
      exact ⟨a, xs, e1, SqL.of q1, q2⟩
    · cases e
  | _ => cases e
def items (S : Sto) : D → Option (List D)
  | .tup ds => some ds
  | d => itemsL S d
theorem items_rep {K ι H} {S : Sto} (r : RelS K ι S H) {d : D} {v : V} {ds : List D} (h : Rep K ι H d v) (e : items S d = some ds) :
    ∃ a xs, v = .ref a ∧ (SqL K H a xs ∨ SqT K H a xs) ∧ RepL K ι H ds xs := by
  cases d with
  | tup es =>
    cases e
    obtain ⟨a, xs, e1, e2, e3⟩ := rep_tup.mp h
    exact ⟨a, xs, e1, .inr e2, e3⟩
  | _ =>
    obtain ⟨a, xs, e1, e2, e3⟩ := itemsL_rep r h e
    exact ⟨a, xs, e1, .inl e2, e3⟩

/-! ### operators by values -/
abbrev F2 := D → D → Sto → VKD → XKD → Prop
def AbsR2 (K : PySem.W.Frag) (E : XK) (r : R2) (f : F2) : Prop := ∀ (ι : Ad) (H : Hp) (S : Sto) (x y : D) (v u : V) (Q : VKD) (XX : XKD) (Qh : VK),
  RelS K ι S H → Rep K ι H x v → Rep K ι H y u → f x y S Q XX → LkE K ι H Q Qh → LkX K ι H XX E → r v u H Qh
def wOp (f : F2) (wa wb : WE) : WE := fun σ S Q X => wa σ S (fun x S1 => wb σ S1 (fun y S2 => f x y S2 Q X) X) X
theorem abs_op {K : PySem.W.Frag} {E : XK} {r : R2} {f : F2} {ta tb : TE} {wa wb : WE} (hr : AbsR2 K E r f) (ha : AbsE K E ta wa) (hb : AbsE K E tb wb) : AbsE K E (tOp r ta tb) (wOp f wa wb) := by
  intro ι σ H σD S Q XX Qh r s h l lx
  refine ha ι σ H σD S _ XX _ r s h ?_ lx
  intro ι1 d1 S1 v1 H1 e1 r1 p1 h1
  refine hb ι1 σ H1 σD S1 _ XX _ r1 (s.mono e1) h1 ?_ (lx.ext e1)
  intro ι2 d2 S2 v2 H2 e2 r2 p2 h2
  exact hr ι2 H2 S2 d1 d2 v1 v2 Q XX Qh r2 (Rep.mono e2 _ _ p1) p2 h2 (l.ext (e1.trans e2)) (lx.ext (e1.trans e2))
section
variable {X : Cx} {E : XK} {pos : Pos} {a b : Expr} {ta tb : TE} {wa wb : WE} {r : R2} {f : F2}
theorem je_op {op : Operator} (ho : OpR X (binaryOp op) r) (hf : AbsR2 X.K E r f) (ha : JE X E a ta wa) (hb : JE X E b tb wb) : JE X E (.BinOp a op b pos) (tOp r ta tb) (wOp f wa wb) :=
  ⟨pe_op ho ha.pe hb.pe, abs_op hf ha.ab hb.ab⟩
theorem je_cmp {op : CmpOp} (ho : OpR X (compareOp op) r) (hf : AbsR2 X.K E r f) (ha : JE X E a ta wa) (hb : JE X E b tb wb) (hm : behindInMarks op b = false) : JE X E (.Compare a [op] [b] pos) (tOp r ta tb) (wOp f wa wb) :=
  ⟨pe_cmpR ho ha.pe hb.pe hm, abs_op hf ha.ab hb.ab⟩
/-- a value that is a bool, as a test -/
def wTest (w : WE) : WT := fun σ S Q X => w σ S (fun d S1 => match d with
  | .bl b => Q b S1
  | _ => False) X
theorem abs_test {K : PySem.W.Frag} {E : XK} {t : TE} {w : WE} (ha : AbsE K E t w) : AbsT K E (tTest t) (wTest w) := by
  intro ι σ H σD S Q XX Qh r s h l lx
  refine ha ι σ H σD S _ XX _ r s h ?_ lx
  intro ι1 d1 S1 v1 H1 e1 r1 p1 h1
  cases d1 with
  | bl b => exact ⟨b, rep_bl.mp p1, l ι1 b S1 H1 e1 r1 h1⟩
  | _ => exact h1.elim
theorem jt_cmp {op : CmpOp} (ho : OpR X (compareOp op) r) (hf : AbsR2 X.K E r f) (ha : JE X E a ta wa) (hb : JE X E b tb wb) (hm : behindInMarks op b = false) : JT X E (.Compare a [op] [b] pos) (tTest (tOp r ta tb)) (wTest (wOp f wa wb)) :=
  ⟨pt_cmpR ho ha.pe hb.pe hm, abs_test (abs_op hf ha.ab hb.ab)⟩
/-- a < b < c -/
def wChain (f g : F2) (wa wb wc : WE) : WE := fun σ S Q X => wa σ S (fun x S1 => wb σ S1 (fun y S2 => f x y S2 (fun z S3 => match z with
  | .bl k => if k = true then wc σ S3 (fun u S4 => g y u S4 Q X) X else Q (.bl false) S3
  | _ => False) X) X) X
end

/-! ### the operators -/
theorem intMulOk_small {i j : Int} (h : i.natAbs < 2 ^ 64 ∨ j.natAbs < 2 ^ 64) : IntMulOk i j := by
  rcases h with h | h
  · exact IntMulOk.of_left (intBits_le_64 (by omega) (by omega))
  · exact IntMulOk.of_right (intBits_le_64 (by omega) (by omega))
/-- the sizes that a product may have -/
def MulOk (i j : Int) : Prop := IntMulOk i j
def DivOk (j : Int) : Prop := j ≠ 0 ∧ j.natAbs.log2 < 9000
def fAdd : F2 := fun x y S Q _ => match x, y with
  | .int i, .int j => Q (.int (i + j)) S
  | .str i, .str j => i.length + j.length ≤ sizeLine ∧ Q (.str (i ++ j)) S
  | .tup xs, .tup ys => xs.length + ys.length ≤ sizeLine ∧ Q (.tup (xs ++ ys)) S
  | .fl xs, .fl ys => xs.length + ys.length ≤ sizeLine ∧ Q (.fl (xs ++ ys)) S
  | _, _ => False
def fSub : F2 := fun x y S Q _ => match x, y with
  | .int i, .int j => Q (.int (i - j)) S
  | _, _ => False
def fMul : F2 := fun x y S Q _ => match x, y with
  | .int i, .int j => MulOk i j ∧ Q (.int (i * j)) S
  | .fl xs, .int k => (k < 2 ^ 62 ∧ -(2 ^ 62) ≤ k ∧ xs.length * k.toNat ≤ sizeLine) ∧ Q (.fl (List.replicate k.toNat xs).flatten) S
  | _, _ => False
def fDiv : F2 := fun x y S Q _ => match x, y with
  | .int i, .int j => DivOk j ∧ Q (.int (i.fdiv j)) S
  | _, _ => False
def fMod : F2 := fun x y S Q _ => match x, y with
  | .int i, .int j => j ≠ 0 ∧ Q (.int (i.fmod j)) S
  | _, _ => False
def fPow : F2 := fun x y S Q _ => match x, y with
  | .int i, .int j => CPow i j ∧ Q (.int (i ^ j.toNat)) S
  | _, _ => False
def fShl : F2 := fun x y S Q _ => match x, y with
  | .int i, .int j => CPow i j ∧ Q (.int (i * 2 ^ j.toNat)) S
  | _, _ => False
def fCmpI (p : Int → Int → Bool) : F2 := fun x y S Q _ => match x, y with
  | .int i, .int j => Q (.bl (p i j)) S
  | _, _ => False
def rAddAll (K : PySem.W.Frag) : R2 := fun x y H Q => (rI0 fun i j => .int (i + j)) x y H Q ∨ (∃ i j, x = .str i ∧ y = .str j ∧ i.length + j.length ≤ sizeLine ∧ Q (.str (i ++ j)) H) ∨ rCatA K x y H Q ∨ rCat x y H Q
def rMulAll : R2 := fun x y H Q => (rI IntMulOk fun i j => .int (i * j)) x y H Q ∨ rRep x y H Q
def rDivA : R2 := rI (fun _ j => DivOk j) fun i j => .int (i.fdiv j)
section
variable {X : Cx} {E : XK} {pos : Pos} {a b : Expr} {ta tb : TE} {wa wb : WE}
theorem op_addAll : OpR X (binaryOp .Add) (rAddAll X.K) := op_add.or (op_add_str.or (op_catA.or op_cat))
theorem op_mulAll : OpR X (binaryOp .Mult) rMulAll := OpR.or (opI fun _ _ _ _ _ _ _ hc q => mul_int q hc) op_rep
theorem op_divA : OpR X (binaryOp .FloorDiv) rDivA := opI fun _ _ _ _ _ _ _ hc q => floordiv_int hc.1 q (.inl (PyProof.noPylong_of_log2 hc.2))
theorem repL_rep {K ι H} {ds : List D} {xs : List V} (h : RepL K ι H ds xs) : ∀ k : Nat, RepL K ι H (List.replicate k ds).flatten (List.replicate k xs).flatten
  | 0 => RepL.nil
  | k + 1 => by
    rw [List.replicate_succ, List.replicate_succ, List.flatten_cons, List.flatten_cons]
    exact RepL.append h (repL_rep h k)
/-- a new list that stays as it is -/
theorem LkE.fl {K ι H} {S : Sto} {Q : VKD} {Qh : VK} {ds : List D} {xs : List V} (l : LkE K ι H Q Qh) (r : RelS K ι S H) (h : RepL K ι H ds xs) (q : Q (.fl ds) S) {p : Addr} (n : H p = none) : Qh (.ref p) (upd H p (.lst xs)) := by
  refine l ι (.fl ds) S (.ref p) _ (Ext.new r n) (r.new n) (rep_fl.mpr ⟨p, xs, rfl, fun z => ?_, upd_same, RepL.mono (Ext.new r n) _ _ h⟩) q
  obtain ⟨o, e⟩ := r.there z
  rw [n] at e; cases e
theorem LkE.tup {K ι H} {S : Sto} {Q : VKD} {Qh : VK} {ds : List D} {xs : List V} (l : LkE K ι H Q Qh) (r : RelS K ι S H) (h : RepL K ι H ds xs) (q : Q (.tup ds) S) {p : Addr} (n : H p = none) : Qh (.ref p) (upd H p (.tup xs)) :=
  l ι (.tup ds) S (.ref p) _ (Ext.new r n) (r.new n) (rep_tup.mpr ⟨p, xs, rfl, SqT.of upd_same, RepL.mono (Ext.new r n) _ _ h⟩) q
/-- a new list as a cell -/
theorem LkE.cell {K ι H} {S : Sto} {Q : VKD} {Qh : VK} {ds : List D} {xs : List V} (l : LkE K ι H Q Qh) (r : RelS K ι S H) (h : RepL K ι H ds xs) (q : Q (.ref S.length) (S ++ [.lst ds])) {p : Addr} (n : H p = none) : Qh (.ref p) (upd H p (.lst xs)) := by
  have e := Ext.cell (o := .lst xs) r n
  refine l (ι.add p) (.ref S.length) _ (.ref p) _ e (r.cell (c := .lst ds) n ⟨xs, upd_same, RepL.mono e _ _ h⟩) (rep_ref.mpr ⟨p, rfl, ?_⟩) q
  rw [List.getElem?_append_right (by rw [r.len]; exact Nat.le_refl _), r.len, Nat.sub_self]
  rfl
theorem abs_add {K : PySem.W.Frag} : AbsR2 K E (rAddAll K) fAdd := by
  intro ι H S x y v u Q XX Qh r hx hy h l lx
  cases x <;> cases y <;> try exact h.elim
  · rename_i i j
    rw [rep_int] at hx hy
    exact .inl ⟨i, j, hx, hy, l ι (.int (i + j)) S _ H Ext.refl r (rep_int.mpr rfl) h⟩
  · rename_i i j
    rw [rep_str] at hx hy
    exact .inr (.inl ⟨i, j, hx, hy, h.1, l ι (.str (i ++ j)) S _ H Ext.refl r (rep_str.mpr rfl) h.2⟩)
  · rename_i xs ys
    obtain ⟨p, as, rfl, hp, ra⟩ := rep_tup.mp hx
    obtain ⟨q, bs, rfl, hq, rb⟩ := rep_tup.mp hy
    have la := RepL.length ra
    have lb := RepL.length rb
    refine .inr (.inr (.inl ⟨p, q, as, bs, rfl, rfl, hp, hq, by rw [← la, ← lb]; exact h.1, fun z => ?_, fun z1 z2 => ?_, fun z1 z2 t ht => l.tup r (RepL.append ra rb) h.2 ht⟩))
    · have e : xs = [] := by
        rw [z] at la; exact List.length_eq_zero_iff.mp la
      refine l ι (.tup (xs ++ ys)) S _ H Ext.refl r ?_ h.2
      rw [e]
      exact hy
    · have e : ys = [] := by
        rw [z2] at lb; exact List.length_eq_zero_iff.mp lb
      refine l ι (.tup (xs ++ ys)) S _ H Ext.refl r ?_ h.2
      rw [e, List.append_nil]
      exact hx
  · rename_i xs ys
    obtain ⟨p, as, rfl, np, hp, ra⟩ := rep_fl.mp hx
    obtain ⟨q, bs, rfl, nq, hq, rb⟩ := rep_fl.mp hy
    have la := RepL.length ra
    have lb := RepL.length rb
    exact .inr (.inr (.inr ⟨p, q, as, bs, rfl, rfl, hp, hq, by rw [← la, ← lb]; exact h.1, fun t ht => l.fl r (RepL.append ra rb) h.2 ht⟩))
theorem abs_mul {K : PySem.W.Frag} : AbsR2 K E rMulAll fMul := by
  intro ι H S x y v u Q XX Qh r hx hy h l lx
  cases x <;> cases y <;> try exact h.elim
  · rename_i i j
    rw [rep_int] at hx hy
    exact .inl ⟨i, j, hx, hy, h.1, l ι (.int (i * j)) S _ H Ext.refl r (rep_int.mpr rfl) h.2⟩
  · rename_i xs k
    obtain ⟨p, as, rfl, np, hp, ra⟩ := rep_fl.mp hx
    rw [rep_int] at hy
    have la := RepL.length ra
    obtain ⟨⟨h1, h2, h3⟩, hq⟩ := h
    exact .inr ⟨p, k, as, rfl, hy, hp, by omega, by omega, by rw [← la]; exact h3, fun t ht => l.fl r (repL_rep ra _) hq ht⟩
/-- an operator of two ints -/
theorem abs_int {K : PySem.W.Frag} {C : Int → Int → Prop} {g : Int → Int → Int} {f : F2} (hf : ∀ x y S Q XX, f x y S Q XX → ∃ i j, x = .int i ∧ y = .int j ∧ C i j ∧ Q (.int (g i j)) S) : AbsR2 K E (rI C fun i j => .int (g i j)) f := by
  intro ι H S x y v u Q XX Qh r hx hy h l lx
  obtain ⟨i, j, rfl, rfl, c, q⟩ := hf _ _ _ _ _ h
  rw [rep_int] at hx hy
  exact ⟨i, j, hx, hy, c, l ι (.int (g i j)) S _ H Ext.refl r (rep_int.mpr rfl) q⟩
theorem abs_int0 {K : PySem.W.Frag} {g : Int → Int → Int} {f : F2} (hf : ∀ x y S Q XX, f x y S Q XX → ∃ i j, x = .int i ∧ y = .int j ∧ Q (.int (g i j)) S) : AbsR2 K E (rI0 fun i j => .int (g i j)) f := by
  intro ι H S x y v u Q XX Qh r hx hy h l lx
  obtain ⟨i, j, rfl, rfl, q⟩ := hf _ _ _ _ _ h
  rw [rep_int] at hx hy
  exact ⟨i, j, hx, hy, l ι (.int (g i j)) S _ H Ext.refl r (rep_int.mpr rfl) q⟩
theorem abs_cmpI {K : PySem.W.Frag} {p : Int → Int → Bool} : AbsR2 K E (rI0 fun i j => .bl (p i j)) (fCmpI p) := by
  intro ι H S x y v u Q XX Qh r hx hy h l lx
  cases x <;> cases y <;> try exact h.elim
  rename_i i j
  rw [rep_int] at hx hy
  exact ⟨i, j, hx, hy, l ι (.bl (p i j)) S _ H Ext.refl r (rep_bl.mpr rfl) h⟩
theorem abs_sub {K : PySem.W.Frag} : AbsR2 K E (rI0 fun i j => .int (i - j)) fSub := abs_int0 fun x y S Q XX h => by
  cases x <;> cases y <;> try exact h.elim
  exact ⟨_, _, rfl, rfl, h⟩
theorem abs_div {K : PySem.W.Frag} : AbsR2 K E rDivA fDiv := abs_int fun x y S Q XX h => by
  cases x <;> cases y <;> try exact h.elim
  exact ⟨_, _, rfl, rfl, h⟩
theorem abs_mod {K : PySem.W.Frag} : AbsR2 K E (rI (fun _ j => j ≠ 0) fun i j => .int (i.fmod j)) fMod := abs_int fun x y S Q XX h => by
  cases x <;> cases y <;> try exact h.elim
  exact ⟨_, _, rfl, rfl, h⟩
theorem abs_pow {K : PySem.W.Frag} : AbsR2 K E (rI CPow fun i j => .int (i ^ j.toNat)) fPow := abs_int fun x y S Q XX h => by
  cases x <;> cases y <;> try exact h.elim
  exact ⟨_, _, rfl, rfl, h⟩
theorem abs_shl {K : PySem.W.Frag} : AbsR2 K E (rI CPow fun i j => .int (i * 2 ^ j.toNat)) fShl := abs_int fun x y S Q XX h => by
  cases x <;> cases y <;> try exact h.elim
  exact ⟨_, _, rfl, rfl, h⟩
theorem je_add {K : PySem.W.Frag} (ha : JE X E a ta wa) (hb : JE X E b tb wb) (hK : X.K = K := by rfl) : JE X E (.BinOp a .Add b pos) (tOp (rAddAll K) ta tb) (wOp fAdd wa wb) := by
  subst hK
  exact je_op op_addAll abs_add ha hb
theorem je_sub (ha : JE X E a ta wa) (hb : JE X E b tb wb) : JE X E (.BinOp a .Sub b pos) (tOp (rI0 fun i j => .int (i - j)) ta tb) (wOp fSub wa wb) := je_op op_sub abs_sub ha hb
theorem je_mul (ha : JE X E a ta wa) (hb : JE X E b tb wb) : JE X E (.BinOp a .Mult b pos) (tOp rMulAll ta tb) (wOp fMul wa wb) := je_op op_mulAll abs_mul ha hb
theorem je_div (ha : JE X E a ta wa) (hb : JE X E b tb wb) : JE X E (.BinOp a .FloorDiv b pos) (tOp rDivA ta tb) (wOp fDiv wa wb) := je_op op_divA abs_div ha hb
theorem je_mod (ha : JE X E a ta wa) (hb : JE X E b tb wb) : JE X E (.BinOp a .Mod b pos) (tOp (rI (fun _ j => j ≠ 0) fun i j => .int (i.fmod j)) ta tb) (wOp fMod wa wb) := je_op op_modN abs_mod ha hb
theorem je_pow (ha : JE X E a ta wa) (hb : JE X E b tb wb) : JE X E (.BinOp a .Pow b pos) (tOp (rI CPow fun i j => .int (i ^ j.toNat)) ta tb) (wOp fPow wa wb) := je_op op_pow abs_pow ha hb
theorem je_shl (ha : JE X E a ta wa) (hb : JE X E b tb wb) : JE X E (.BinOp a .LShift b pos) (tOp (rI CPow fun i j => .int (i * 2 ^ j.toNat)) ta tb) (wOp fShl wa wb) := je_op op_shl abs_shl ha hb
def fLt : F2 := fCmpI fun i j => decide (i < j)
def fLe : F2 := fCmpI fun i j => decide (i ≤ j)
def fGt : F2 := fCmpI fun i j => decide (j < i)
def fGe : F2 := fCmpI fun i j => decide (j ≤ i)
/-- the unary minus -/
def wNeg (wa : WE) : WE := fun σ S Q X => wa σ S (fun x S1 => match x with
  | .int i => Q (.int (-i)) S1
  | _ => False) X
theorem je_neg (ha : JE X E a ta wa) : JE X E (.UnaryOp .USub a pos) (tUn (rU fun i => .int (-i)) ta) (wNeg wa) := by
  refine ⟨pe_un un_neg ha.pe, ?_⟩
  intro ι σ H σD S Q XX Qh r s h l lx
  refine ha.ab ι σ H σD S _ XX _ r s h ?_ lx
  intro ι1 d1 S1 v1 H1 e1 r1 p1 h1
  cases d1 <;> try exact h1.elim
  rename_i i
  exact ⟨i, rep_int.mp p1, l ι1 (.int (-i)) S1 _ H1 e1 r1 (rep_int.mpr rfl) h1⟩
end

/-! ### == -/
mutual
def D.py : D → PyData
  | .non => .none
  | .bl b => .bool b
  | .int i => .int i
  | .str x => .str x
  | .tup ds => .tuple (pyL ds)
  | .fl ds => .list (pyL ds)
  | .scr ds => .list (pyL ds)
  | .ref _ => .none
  | .exc _ => .none
def pyL : List D → List PyData
  | [] => []
  | d :: ds => d.py :: pyL ds
end
mutual
def D.pure : D → Bool
  | .tup ds => pureL ds
  | .fl ds => pureL ds
  | .scr ds => pureL ds
  | .ref _ => false
  | .exc _ => false
  | _ => true
def pureL : List D → Bool
  | [] => true
  | d :: ds => d.pure && pureL ds
end
mutual
theorem Rep.dp {K ι H} : ∀ (d : D) (v : V), d.pure = true → Rep K ι H d v → Dp K H v d.py
  | .non, _, _, h => by rw [rep_non] at h; subst h; unfold D.py; exact .non
  | .bl b, _, _, h => by rw [rep_bl] at h; subst h; unfold D.py; exact .bl b
  | .int i, _, _, h => by rw [rep_int] at h; subst h; unfold D.py; exact .int i
  | .str x, _, _, h => by rw [rep_str] at h; subst h; unfold D.py; exact .str x
  | .tup ds, _, p, h => by
    obtain ⟨a, xs, rfl, h1, h2⟩ := rep_tup.mp h
    unfold D.py
    exact .tup h1 (RepL.dp ds xs (by unfold D.pure at p; exact p) h2)
  | .fl ds, _, p, h => by
    obtain ⟨a, xs, rfl, _, h1, h2⟩ := rep_fl.mp h
    unfold D.py
    exact .lst (SqL.of h1) (RepL.dp ds xs (by unfold D.pure at p; exact p) h2)
  | .scr ds, _, p, h => by
    obtain ⟨a, xs, rfl, h1, h2⟩ := rep_scr.mp h
    unfold D.py
    exact .lst h1.sq (RepL.dp ds xs (by unfold D.pure at p; exact p) h2)
  | .ref _, _, p, _ => by unfold D.pure at p; cases p
  | .exc _, _, p, _ => by unfold D.pure at p; cases p
theorem RepL.dp {K ι H} : ∀ (ds : List D) (xs : List V), pureL ds = true → RepL K ι H ds xs → DpAll K H xs (pyL ds)
  | [], _, _, h => by unfold RepL at h; subst h; unfold pyL; exact .nil
  | d :: ds, _, p, h => by
    unfold RepL at h
    obtain ⟨x, r, rfl, e2, e3⟩ := h
    unfold pureL at p
    rw [Bool.and_eq_true] at p
    unfold pyL
    exact .cons (Rep.dp d x p.1 e2) (RepL.dp ds r p.2 e3)
end
/-- a value with the lists that cells hold in their place, k cells deep -/
def D.see (S : Sto) : Nat → D → D
  | k + 1, .ref n => (match S[n]? with
    | some (.lst ds) => .fl (ds.map (D.see S k))
    | _ => .ref n)
  | _, d => d
theorem see_non {S : Sto} {k : Nat} : D.see S k .non = .non := by cases k <;> rfl
theorem see_bl {S : Sto} {k : Nat} {b : Bool} : D.see S k (.bl b) = .bl b := by cases k <;> rfl
theorem see_int {S : Sto} {k : Nat} {i : Int} : D.see S k (.int i) = .int i := by cases k <;> rfl
theorem see_str {S : Sto} {k : Nat} {x : Str} : D.see S k (.str x) = .str x := by cases k <;> rfl
theorem see_tup {S : Sto} {k : Nat} {ds : List D} : D.see S k (.tup ds) = .tup ds := by cases k <;> rfl
theorem see_fl {S : Sto} {k : Nat} {ds : List D} : D.see S k (.fl ds) = .fl ds := by cases k <;> rfl
theorem see_scr {S : Sto} {k : Nat} {ds : List D} : D.see S k (.scr ds) = .scr ds := by cases k <;> rfl
theorem see_ref {S : Sto} {k n : Nat} {ds : List D} (h : S[n]? = some (.lst ds)) : D.see S (k + 1) (.ref n) = .fl (ds.map (D.see S k)) := by
  unfold D.see
  rw [h]
theorem dpAll_of {K ι H S} {k : Nat} (ih : ∀ (d : D) (v : V), (D.see S k d).pure = true → Rep K ι H d v → Dp K H v (D.see S k d).py) : ∀ (ds : List D) (xs : List V), pureL (ds.map (D.see S k)) = true → RepL K ι H ds xs → DpAll K H xs (pyL (ds.map (D.see S k)))
  | [], _, _, h => by unfold RepL at h; subst h; rw [List.map_nil]; unfold pyL; exact .nil
  | d :: ds, _, p, h => by
    unfold RepL at h
    obtain ⟨x, r, rfl, e2, e3⟩ := h
    rw [List.map_cons] at p ⊢
    unfold pureL at p
    rw [Bool.and_eq_true] at p
    unfold pyL
    exact .cons (ih d x p.1 e2) (dpAll_of ih ds r p.2 e3)
theorem Rep.dpS {K ι H S} (r : RelS K ι S H) : ∀ (k : Nat) (d : D) (v : V), (D.see S k d).pure = true → Rep K ι H d v → Dp K H v (D.see S k d).py := by
  intro k
  induction k with
  | zero => intro d v p h; exact Rep.dp d v p h
  | succ k ih =>
    intro d v p h
    cases d with
    | ref n =>
      unfold D.see at p ⊢
      cases e : S[n]? with
      | none => rw [e] at p; cases p
      | some c =>
        rw [e] at p
        cases c with
        | ins C fs => cases p
        | lst ds =>
          obtain ⟨a, ha, hc⟩ := r.at e
          unfold Rep at h
          obtain ⟨a', rfl, ha'⟩ := h
          rw [ha] at ha'
          cases ha'
          obtain ⟨xs, hx, hl⟩ := hc
          show Dp K H (.ref a) (D.fl (ds.map (D.see S k))).py
          unfold D.py
          exact .lst (SqL.of hx) (dpAll_of ih ds xs (by have q : (D.fl (ds.map (D.see S k))).pure = true := p; unfold D.pure at q; exact q) hl)
    | _ => exact Rep.dp _ v p h
/-- == of two values is asked of data only -/
def EqOk (x y : D) : Prop := x.pure = true ∧ y.pure = true ∧ SeqAt.shaped x.py = true ∧ SeqAt.shaped y.py = true
def fEqB (g : Bool → Bool) : F2 := fun x y S Q _ => match x, y with
  | .int i, .int j => Q (.bl (g (decide (i = j)))) S
  | .str i, .str j => Q (.bl (g (decide (i = j)))) S
  | x, y => EqOk (x.see S 4) (y.see S 4) ∧ Q (.bl (g (PyData.eqv (x.see S 4).py (y.see S 4).py))) S
def fEq : F2 := fEqB fun b => b
def fNe : F2 := fEqB fun b => !b
def rEqAll (K : PySem.W.Frag) : R2 := fun x y H Q => rEq x y H Q ∨ rEqD K x y H Q
def rNeAll (K : PySem.W.Frag) : R2 := fun x y H Q => rNe x y H Q ∨ rNeD K x y H Q
theorem abs_eq {K : PySem.W.Frag} {E : XK} : AbsR2 K E (rEqAll K) fEq := by
  intro ι H S x y v u Q XX Qh r hx hy h l lx
  have gen : EqOk (x.see S 4) (y.see S 4) ∧ Q (.bl (PyData.eqv (x.see S 4).py (y.see S 4).py)) S → rEqAll K v u H Qh := fun ⟨⟨p1, p2, p3, p4⟩, q⟩ =>
    .inr ⟨(x.see S 4).py, (y.see S 4).py, Rep.dpS r 4 x v p1 hx, Rep.dpS r 4 y u p2 hy, p3, p4, l ι (.bl _) S _ H Ext.refl r (rep_bl.mpr rfl) q⟩
  cases x <;> cases y <;> first
    | exact gen h
    | skip
  · rename_i i j
    rw [rep_int] at hx hy
    subst hx hy
    refine .inl ⟨rfl, ?_⟩
    have e : decide (V.int i = V.int j) = decide (i = j) := by
      by_cases q : i = j
      · subst q; simp
      · rw [decide_eq_false q, decide_eq_false (fun z => q (V.int.inj z))]
    rw [e]
    exact l ι (.bl _) S _ H Ext.refl r (rep_bl.mpr rfl) h
  · rename_i i j
    rw [rep_str] at hx hy
    subst hx hy
    refine .inl ⟨rfl, ?_⟩
    have e : decide (V.str i = V.str j) = decide (i = j) := by
      by_cases q : i = j
      · subst q; simp
      · rw [decide_eq_false q, decide_eq_false (fun z => q (V.str.inj z))]
    rw [e]
    exact l ι (.bl _) S _ H Ext.refl r (rep_bl.mpr rfl) h
theorem abs_ne {K : PySem.W.Frag} {E : XK} : AbsR2 K E (rNeAll K) fNe := by
  intro ι H S x y v u Q XX Qh r hx hy h l lx
  have gen : EqOk (x.see S 4) (y.see S 4) ∧ Q (.bl (!PyData.eqv (x.see S 4).py (y.see S 4).py)) S → rNeAll K v u H Qh := fun ⟨⟨p1, p2, p3, p4⟩, q⟩ =>
    .inr ⟨(x.see S 4).py, (y.see S 4).py, Rep.dpS r 4 x v p1 hx, Rep.dpS r 4 y u p2 hy, p3, p4, l ι (.bl _) S _ H Ext.refl r (rep_bl.mpr rfl) q⟩
  cases x <;> cases y <;> first
    | exact gen h
    | skip
  · rename_i i j
    rw [rep_int] at hx hy
    subst hx hy
    refine .inl ⟨rfl, ?_⟩
    have e : decide (V.int i = V.int j) = decide (i = j) := by
      by_cases q : i = j
      · subst q; simp
      · rw [decide_eq_false q, decide_eq_false (fun z => q (V.int.inj z))]
    rw [e]
    exact l ι (.bl _) S _ H Ext.refl r (rep_bl.mpr rfl) h
  · rename_i i j
    rw [rep_str] at hx hy
    subst hx hy
    refine .inl ⟨rfl, ?_⟩
    have e : decide (V.str i = V.str j) = decide (i = j) := by
      by_cases q : i = j
      · subst q; simp
      · rw [decide_eq_false q, decide_eq_false (fun z => q (V.str.inj z))]
    rw [e]
    exact l ι (.bl _) S _ H Ext.refl r (rep_bl.mpr rfl) h
end AW
/-! AW4: tests, displays, subscripts, slices. -/
namespace AW
open PySem PySem.Spec PyProof.Rows L2

/-! ### truth -/
def fTru (x : D) (S : Sto) (Q : Bool → Prop) : Prop := match x with
  | .non => Q false
  | .bl b => Q b
  | .int i => Q (i != 0)
  | .str y => y.length ≤ sizeLine ∧ Q ((y.length : Int) != 0)
  | d => match items S d with
    | some ds => Q (!ds.isEmpty)
    | none => False
theorem isEmpty_rep {K ι H} {ds : List D} {xs : List V} (h : RepL K ι H ds xs) : (!ds.isEmpty) = !xs.isEmpty := by
  have e := RepL.length h
  cases ds <;> cases xs <;> first | rfl | cases e
theorem tru_of {K ι H} {S : Sto} (r : RelS K ι S H) {x : D} {v : V} {Q : Bool → Prop} (hx : Rep K ι H x v) (h : fTru x S Q) : ∃ k, TruV K v H k ∧ Q k := by
  have seq : ∀ {d : D}, Rep K ι H d v → (match items S d with
      | some ds => Q (!ds.isEmpty)
      | none => False) → ∃ k, TruV K v H k ∧ Q k := fun {d} hd hq => by
    split at hq
    · rename_i ds e
      obtain ⟨a, xs, rfl, hs, hl⟩ := items_rep r hd e
      refine ⟨_, ?_, hq⟩
      rw [isEmpty_rep hl]
      rcases hs with hs | hs
      · exact .inl ⟨xs, hs, rfl⟩
      · exact .inr (.inl ⟨xs, hs, rfl⟩)
    · exact hq.elim
  cases x with
  | non => rw [rep_non] at hx; subst hx; exact ⟨_, rfl, h⟩
  | bl b => rw [rep_bl] at hx; subst hx; exact ⟨_, rfl, h⟩
  | int i => rw [rep_int] at hx; subst hx; exact ⟨_, rfl, h⟩
  | str y => rw [rep_str] at hx; subst hx; exact ⟨_, ⟨h.1, rfl⟩, h.2⟩
  | tup ds => exact seq hx h
  | fl ds => exact seq hx h
  | scr ds => exact seq hx h
  | ref n => exact seq hx h
  | exc a => exact h.elim
section
variable {X : Cx} {E : XK} {pos : Pos} {a b : Expr} {ta tb : TE} {wa wb : WE} {rest : List Expr}
def wTruA (w : WE) : WT := fun σ S Q X => w σ S (fun d S1 => fTru d S1 fun k => Q k S1) X
theorem jt_tru {K : PySem.W.Frag} (ha : JE X E a ta wa) (he : ∀ whole, isTrue a X.env whole = (do let v ← whole; standAt a.pos; holding [v] (truthy v)) := by intro _; rfl) (hK : X.K = K := by rfl) :
    JT X E a (fun σ H Q => ta σ H fun x H' => ∃ k, TruV K x H' k ∧ Q k H') (wTruA wa) := by
  subst hK
  refine ⟨pt_truth ha.pe he, ?_⟩
  intro ι σ H σD S Q XX Qh r s h l lx
  refine ha.ab ι σ H σD S _ XX _ r s h ?_ lx
  intro ι1 d1 S1 v1 H1 e1 r1 p1 h1
  obtain ⟨k, h2, h3⟩ := tru_of r1 p1 h1
  exact ⟨k, h2, l ι1 k S1 H1 e1 r1 h3⟩
def wAnd (t u : WT) : WT := fun σ S Q X => t σ S (fun c S1 => if c = true then u σ S1 Q X else Q false S1) X
def wOr (t u : WT) : WT := fun σ S Q X => t σ S (fun c S1 => if c = true then Q true S1 else u σ S1 Q X) X
def wNotA (t : WT) : WT := fun σ S Q X => t σ S (fun c S1 => Q (!c) S1) X
variable {tA tB : TT} {wA wB : WT}
theorem jw_and1 (ha : JT X E a tA wA) : JW X E (.BoolOp .And [a] pos) tA wA := ⟨pw_and1 ha.pe, ha.ab⟩
theorem jw_or1 (ha : JT X E a tA wA) : JW X E (.BoolOp .Or [a] pos) tA wA := ⟨pw_or1 ha.pe, ha.ab⟩
theorem jw_and (ha : JT X E a tA wA) (hb : JW X E (.BoolOp .And (b :: rest) pos) tB wB) : JW X E (.BoolOp .And (a :: b :: rest) pos) (tAnd tA tB) (wAnd wA wB) := by
  refine ⟨pw_and ha.pe hb.pe, ?_⟩
  intro ι σ H σD S Q XX Qh r s h l lx
  refine ha.ab ι σ H σD S _ XX _ r s h ?_ lx
  intro ι1 c S1 H1 e1 r1 h1
  cases c with
  | true => exact hb.ab ι1 σ H1 σD S1 Q XX Qh r1 (s.mono e1) h1 (l.ext e1) (lx.ext e1)
  | false => exact l ι1 false S1 H1 e1 r1 h1
theorem jw_or (ha : JT X E a tA wA) (hb : JW X E (.BoolOp .Or (b :: rest) pos) tB wB) : JW X E (.BoolOp .Or (a :: b :: rest) pos) (tOr tA tB) (wOr wA wB) := by
  refine ⟨pw_or ha.pe hb.pe, ?_⟩
  intro ι σ H σD S Q XX Qh r s h l lx
  refine ha.ab ι σ H σD S _ XX _ r s h ?_ lx
  intro ι1 c S1 H1 e1 r1 h1
  cases c with
  | false => exact hb.ab ι1 σ H1 σD S1 Q XX Qh r1 (s.mono e1) h1 (l.ext e1) (lx.ext e1)
  | true => exact l ι1 true S1 H1 e1 r1 h1
theorem JW.jt (h : JW X E a tA wA) : JT X E a tA wA := ⟨h.pe.pt, h.ab⟩
theorem jt_not (ha : JT X E a tA wA) : JT X E (.UnaryOp .Not a pos) (tNot tA) (wNotA wA) := by
  refine ⟨pt_not ha.pe, ?_⟩
  intro ι σ H σD S Q XX Qh r s h l lx
  refine ha.ab ι σ H σD S _ XX _ r s h ?_ lx
  intro ι1 c S1 H1 e1 r1 h1
  exact l ι1 (!c) S1 H1 e1 r1 h1
/-- and, or, not as values -/
def wAndV (wa wb : WE) : WE := fun σ S Q X => wa σ S (fun x S1 => fTru x S1 fun k => if k = true then wb σ S1 Q X else Q x S1) X
def wOrV (wa wb : WE) : WE := fun σ S Q X => wa σ S (fun x S1 => fTru x S1 fun k => if k = true then Q x S1 else wb σ S1 Q X) X
def wNotV (wa : WE) : WE := fun σ S Q X => wa σ S (fun x S1 => fTru x S1 fun k => Q (.bl (!k)) S1) X
theorem je_one {op} (h : JE X E a ta wa) : JE X E (.BoolOp op [a] pos) ta wa := ⟨pe_one h.pe, h.ab⟩
theorem je_and {K : PySem.W.Frag} (ha : JE X E a ta wa) (hb : JE X E (.BoolOp .And (b :: rest) pos) tb wb) (hK : X.K = K := by rfl) : JE X E (.BoolOp .And (a :: b :: rest) pos) (tAndT K ta tb) (wAndV wa wb) := by
  subst hK
  refine ⟨pe_andT ha.pe hb.pe, ?_⟩
  intro ι σ H σD S Q XX Qh r s h l lx
  refine ha.ab ι σ H σD S _ XX _ r s h ?_ lx
  intro ι1 d1 S1 v1 H1 e1 r1 p1 h1
  obtain ⟨k, h2, h3⟩ := tru_of r1 p1 h1
  refine ⟨k, h2, ?_⟩
  cases k with
  | true => exact hb.ab ι1 σ H1 σD S1 Q XX Qh r1 (s.mono e1) h3 (l.ext e1) (lx.ext e1)
  | false => exact l ι1 d1 S1 v1 H1 e1 r1 p1 h3
theorem je_or {K : PySem.W.Frag} (ha : JE X E a ta wa) (hb : JE X E (.BoolOp .Or (b :: rest) pos) tb wb) (hK : X.K = K := by rfl) : JE X E (.BoolOp .Or (a :: b :: rest) pos) (tOrT K ta tb) (wOrV wa wb) := by
  subst hK
  refine ⟨pe_orT ha.pe hb.pe, ?_⟩
  intro ι σ H σD S Q XX Qh r s h l lx
  refine ha.ab ι σ H σD S _ XX _ r s h ?_ lx
  intro ι1 d1 S1 v1 H1 e1 r1 p1 h1
  obtain ⟨k, h2, h3⟩ := tru_of r1 p1 h1
  refine ⟨k, h2, ?_⟩
  cases k with
  | false => exact hb.ab ι1 σ H1 σD S1 Q XX Qh r1 (s.mono e1) h3 (l.ext e1) (lx.ext e1)
  | true => exact l ι1 d1 S1 v1 H1 e1 r1 p1 h3
theorem je_not {K : PySem.W.Frag} (ha : JE X E a ta wa) (hK : X.K = K := by rfl) : JE X E (.UnaryOp .Not a pos) (tNotT K ta) (wNotV wa) := by
  subst hK
  refine ⟨pe_notT ha.pe, ?_⟩
  intro ι σ H σD S Q XX Qh r s h l lx
  refine ha.ab ι σ H σD S _ XX _ r s h ?_ lx
  intro ι1 d1 S1 v1 H1 e1 r1 p1 h1
  obtain ⟨k, h2, h3⟩ := tru_of r1 p1 h1
  exact ⟨k, h2, l ι1 (.bl (!k)) S1 _ H1 e1 r1 (rep_bl.mpr rfl) h3⟩
def wIf (t : WT) (wa wb : WE) : WE := fun σ S Q X => t σ S (fun c S1 => if c = true then wa σ S1 Q X else wb σ S1 Q X) X
theorem je_if {c : Expr} (hc : JT X E c tA wA) (ha : JE X E a ta wa) (hb : JE X E b tb wb) : JE X E (.IfExp c a b pos) (tIf tA ta tb) (wIf wA wa wb) := by
  refine ⟨pe_ifExp hc.pe ha.pe hb.pe, ?_⟩
  intro ι σ H σD S Q XX Qh r s h l lx
  refine hc.ab ι σ H σD S _ XX _ r s h ?_ lx
  intro ι1 c S1 H1 e1 r1 h1
  cases c with
  | true => exact ha.ab ι1 σ H1 σD S1 Q XX Qh r1 (s.mono e1) h1 (l.ext e1) (lx.ext e1)
  | false => exact hb.ab ι1 σ H1 σD S1 Q XX Qh r1 (s.mono e1) h1 (l.ext e1) (lx.ext e1)

/-! ### is None -/
def isNon : D → Bool
  | .non => true
  | _ => false
theorem isNon_rep {K ι H} {x : D} {v : V} (h : Rep K ι H x v) : isNon x = decide (v = .non) := by
  cases x with
  | non => rw [rep_non] at h; subst h; rfl
  | bl b => rw [rep_bl] at h; subst h; rfl
  | int b => rw [rep_int] at h; subst h; rfl
  | str b => rw [rep_str] at h; subst h; rfl
  | tup b => obtain ⟨_, _, rfl, _⟩ := rep_tup.mp h; rfl
  | fl b => obtain ⟨_, _, rfl, _⟩ := rep_fl.mp h; rfl
  | scr b => obtain ⟨_, _, rfl, _⟩ := rep_scr.mp h; rfl
  | ref b => obtain ⟨_, rfl, _⟩ := rep_ref.mp h; rfl
  | exc a => unfold Rep at h; subst h; rfl
def wIsN (g : Bool → Bool) (wa : WE) : WE := fun σ S Q X => wa σ S (fun x S1 => Q (.bl (g (isNon x))) S1) X
theorem je_isN {j pos'} (ha : JE X E a ta wa) : JE X E (.Compare a [.Is] [.Constant .none j pos'] pos) (tIsN ta) (wIsN (fun b => b) wa) := by
  refine ⟨pe_cmp (pc_isN ha.pe) rfl, ?_⟩
  intro ι σ H σD S Q XX Qh r s h l lx
  refine ha.ab ι σ H σD S _ XX _ r s h ?_ lx
  intro ι1 d1 S1 v1 H1 e1 r1 p1 h1
  have h1 : Q (.bl (isNon d1)) S1 := h1
  rw [isNon_rep p1] at h1
  exact l ι1 _ S1 _ H1 e1 r1 (rep_bl.mpr rfl) h1
theorem je_notN {j pos'} (ha : JE X E a ta wa) : JE X E (.Compare a [.IsNot] [.Constant .none j pos'] pos) (tNotN ta) (wIsN (fun b => !b) wa) := by
  refine ⟨pe_cmp (pc_notN ha.pe) rfl, ?_⟩
  intro ι σ H σD S Q XX Qh r s h l lx
  refine ha.ab ι σ H σD S _ XX _ r s h ?_ lx
  intro ι1 d1 S1 v1 H1 e1 r1 p1 h1
  have h1 : Q (.bl (!isNon d1)) S1 := h1
  rw [isNon_rep p1] at h1
  exact l ι1 _ S1 _ H1 e1 r1 (rep_bl.mpr rfl) h1
theorem abs_b {K : PySem.W.Frag} {E : XK} {t : TE} {w : WE} (ha : AbsE K E t w) : AbsT K E (L2.tB t) (wTest w) := abs_test ha
theorem jt_isN {j pos'} (ha : JE X E a ta wa) : JT X E (.Compare a [.Is] [.Constant .none j pos'] pos) (L2.tB (tIsN ta)) (wTest (wIsN (fun b => b) wa)) := ⟨pt_cmp (pc_isN ha.pe) rfl, abs_b (je_isN (pos := pos) (j := j) (pos' := pos') ha).ab⟩
theorem jt_notN {j pos'} (ha : JE X E a ta wa) : JT X E (.Compare a [.IsNot] [.Constant .none j pos'] pos) (L2.tB (tNotN ta)) (wTest (wIsN (fun b => !b) wa)) := ⟨pt_cmp (pc_notN ha.pe) rfl, abs_b (je_notN (pos := pos) (j := j) (pos' := pos') ha).ab⟩
end

/-! ### arguments, displays -/
section
variable {X : Cx} {E : XK} {pos : Pos} {e : Expr} {es : List Expr} {te : TE} {t : TA} {we : WE} {w : WA}
def wNil : WA := fun _ S Q _ => Q [] S
def wCons (we : WE) (w : WA) : WA := fun σ S Q X => we σ S (fun d S1 => w σ S1 (fun ds S2 => Q (d :: ds) S2) X) X
theorem ja_nil : JA X E [] tNil wNil := ⟨pa_nil, fun ι σ H σD S Q XX Qh r s h l lx => l ι [] S [] H Ext.refl r RepL.nil h⟩
theorem ja_cons (ha : JE X E e te we) (hr : JA X E es t w) (hs : starEach (e :: es) X.env = (false, eval e X.env) :: starEach es X.env := by rfl) : JA X E (e :: es) (tCons te t) (wCons we w) := by
  refine ⟨pa_cons ha.pe hr.pe hs, ?_⟩
  intro ι σ H σD S Q XX Qh r s h l lx
  refine ha.ab ι σ H σD S _ XX _ r s h ?_ lx
  intro ι1 d1 S1 v1 H1 e1 r1 p1 h1
  refine hr.ab ι1 σ H1 σD S1 _ XX _ r1 (s.mono e1) h1 ?_ (lx.ext e1)
  intro ι2 ds S2 vs H2 e2 r2 p2 h2
  exact l ι2 (d1 :: ds) S2 (v1 :: vs) H2 (e1.trans e2) r2 (RepL.cons (Rep.mono e2 _ _ p1) p2) h2
def wTup (w : WA) : WE := fun σ S Q X => w σ S (fun ds S1 => ds.length ≤ sizeLine ∧ Q (.tup ds) S1) X
def wLst (w : WA) : WE := fun σ S Q X => w σ S (fun ds S1 => ds.length ≤ sizeLine ∧ Q (.fl ds) S1) X
def wLstR (w : WA) : WE := fun σ S Q X => w σ S (fun ds S1 => ds.length ≤ sizeLine ∧ Q (.ref S1.length) (S1 ++ [.lst ds])) X
theorem je_tup {x1} (ha : JA X E es t w) : JE X E (.Tuple es x1 pos) (tTup t) (wTup w) := by
  refine ⟨pe_tup ha.pe, ?_⟩
  intro ι σ H σD S Q XX Qh r s h l lx
  refine ha.ab ι σ H σD S _ XX _ r s h ?_ lx
  intro ι1 ds S1 vs H1 e1 r1 p1 h1
  exact ⟨by rw [← RepL.length p1]; exact h1.1, fun p hp => (l.ext e1).tup r1 p1 h1.2 hp⟩
theorem je_lst (ha : JA X E es t w) : JE X E (.List es pos) (tLst t) (wLst w) := by
  refine ⟨pe_lst ha.pe, ?_⟩
  intro ι σ H σD S Q XX Qh r s h l lx
  refine ha.ab ι σ H σD S _ XX _ r s h ?_ lx
  intro ι1 ds S1 vs H1 e1 r1 p1 h1
  exact ⟨by rw [← RepL.length p1]; exact h1.1, fun p hp => (l.ext e1).fl r1 p1 h1.2 hp⟩
theorem je_lstR (ha : JA X E es t w) : JE X E (.List es pos) (tLst t) (wLstR w) := by
  refine ⟨pe_lst ha.pe, ?_⟩
  intro ι σ H σD S Q XX Qh r s h l lx
  refine ha.ab ι σ H σD S _ XX _ r s h ?_ lx
  intro ι1 ds S1 vs H1 e1 r1 p1 h1
  exact ⟨by rw [← RepL.length p1]; exact h1.1, fun p hp => (l.ext e1).cell r1 p1 h1.2 hp⟩
end

/-! ### subscripts -/
theorem atI_rep {K ι H} {ds : List D} {xs : List V} (h : RepL K ι H ds xs) {i : Int} {d : D} (e : atI ds i = some d) : ∃ x, atI xs i = some x ∧ Rep K ι H d x := by
  unfold atI at e ⊢
  rw [← RepL.length h]
  cases q : ixN ds.length i with
  | none => rw [q] at e; cases e
  | some j =>
    rw [q] at e
    exact RepL.get h e
def fIx : F2 := fun x y S Q _ => match x, y with
  | .str z, .int i => z.length ≤ sizeLine ∧ match atI z.cps.toList i with
    | some c => Q (.str ⟨#[c]⟩) S
    | none => False
  | x, .int i => match items S x with
    | some ds => match atI ds i with
      | some d => Q d S
      | none => False
    | none => False
  | _, _ => False
theorem abs_ix {K : PySem.W.Frag} {E : XK} : AbsR2 K E (rIx K) fIx := by
  intro ι H S x y v u Q XX Qh r hx hy h l lx
  have seq : ∀ {i : Int}, Rep K ι H (.int i) u → (match items S x with
      | some ds => match atI ds i with
        | some d => Q d S
        | none => False
      | none => False) → rIx K v u H Qh := fun {i} hi hq => by
    rw [rep_int] at hi
    split at hq
    · rename_i ds e
      obtain ⟨a, xs, rfl, hs, hl⟩ := items_rep r hx e
      split at hq
      · rename_i d e2
        obtain ⟨z, e3, hz⟩ := atI_rep hl e2
        have fin := l ι d S z H Ext.refl r hz hq
        rcases hs with hs | hs
        · exact .inl ⟨a, xs, i, z, rfl, hi, hs, e3, fin⟩
        · exact .inr (.inl ⟨a, xs, i, z, rfl, hi, hs, e3, fin⟩)
      · exact hq.elim
    · exact hq.elim
  cases y with
  | int i =>
    cases x with
    | str z =>
      rw [rep_str] at hx
      rw [rep_int] at hy
      obtain ⟨h1, h2⟩ := h
      split at h2
      · rename_i c e
        exact .inr (.inr ⟨z, i, c, hx, hy, h1, e, l ι _ S _ H Ext.refl r (rep_str.mpr rfl) h2⟩)
      · exact h2.elim
    | _ => exact seq hy h
  | _ => cases x <;> exact h.elim
section
variable {X : Cx} {E : XK} {pos p2 : Pos} {a b e : Expr} {ta tb te : TE} {wa wb we : WE}
theorem je_ix {K : PySem.W.Frag} (ha : JE X E a ta wa) (hb : JE X E b tb wb) (hs : PlainIx b := by exact fun _ _ => rfl) (hK : X.K = K := by rfl) : JE X E (.Subscript a b pos) (tOp (rIx K) ta tb) (wOp fIx wa wb) := by
  subst hK
  exact ⟨pe_ix ix_seq ha.pe hb.pe hs, abs_op abs_ix ha.ab hb.ab⟩
/-! ### slices -/
def cutL {α : Type} (xs : List α) (lo hi : Option Int) : List α := (xs.drop (HT.sIx xs.length 0 lo)).take (HT.sIx xs.length xs.length hi - HT.sIx xs.length 0 lo)
theorem cutL_rep {K ι H} {ds : List D} {xs : List V} (h : RepL K ι H ds xs) (lo hi : Option Int) : RepL K ι H (cutL ds lo hi) (cutV xs lo hi) := by
  unfold cutL cutV
  rw [← RepL.length h]
  exact RepL.take _ (RepL.drop _ h)
abbrev WO := ASt → Sto → (Option Int → Sto → Prop) → XKD → Prop
def AbsO (K : PySem.W.Frag) (E : XK) (t : TO) (w : WO) : Prop := ∀ (ι : Ad) (σ : L2.St) (H : Hp) (σD : ASt) (S : Sto) (Q : Option Int → Sto → Prop) (X : XKD) (Qh : Option Int → Hp → Prop),
  RelS K ι S H → Slots K ι H σD σ → w σD S Q X → (∀ ι' o S' H', Ext K ι H ι' H' → RelS K ι' S' H' → Q o S' → Qh o H') → LkX K ι H X E → t σ H Qh
structure JO (X : Cx) (E : XK) (e : Option Expr) (t : TO) (w : WO) : Prop where
  pe : PO X e t
  ab : AbsO X.K E t w
def wNoPart : WO := fun _ S Q _ => Q none S
def wPart (w : WE) : WO := fun σ S Q X => w σ S (fun d S1 => match d with
  | .int i => Q (some i) S1
  | _ => False) X
theorem jo_none : JO X E none tNoPart wNoPart := ⟨po_none, fun ι σ H σD S Q XX Qh r s h l lx => l ι none S H Ext.refl r h⟩
theorem jo_some (ha : JE X E a ta wa) : JO X E (some a) (tPart ta) (wPart wa) := by
  refine ⟨po_some ha.pe, ?_⟩
  intro ι σ H σD S Q XX Qh r s h l lx
  refine ha.ab ι σ H σD S _ XX _ r s h ?_ lx
  intro ι1 d1 S1 v1 H1 e1 r1 p1 h1
  cases d1 <;> try exact h1.elim
  rename_i i
  exact ⟨i, rep_int.mp p1, l ι1 (some i) S1 H1 e1 r1 h1⟩
def fSl (x : D) (lo hi : Option Int) (S : Sto) (Q : VKD) : Prop := match x with
  | .tup ds => Q (.tup (cutL ds lo hi)) S
  | x => match itemsL S x with
    | some ds => Q (.fl (cutL ds lo hi)) S
    | none => False
def rSlAll (K : PySem.W.Frag) : V → Option Int → Option Int → Hp → VK → Prop := fun x lo hi H Q => rSlL K x lo hi H Q ∨ rSlA K x lo hi H Q
theorem sl_all : SlR X (rSlAll X.K) := sl_list.or sl_tupA
theorem cutL_whole {α : Type} (xs : List α) (lo hi : Option Int) (h : HT.sIx xs.length 0 lo = 0 ∧ HT.sIx xs.length xs.length hi = xs.length) : cutL xs lo hi = xs := by
  unfold cutL
  rw [h.1, h.2]
  simp
def wSl (we : WE) (wl wh : WO) : WE := fun σ S Q X => we σ S (fun x S1 => wl σ S1 (fun lo S2 => wh σ S2 (fun hi S3 => fSl x lo hi S3 Q) X) X) X
theorem sl_of {K ι H} {S : Sto} (r : RelS K ι S H) {x : D} {v : V} {lo hi : Option Int} {Q : VKD} {Qh : VK} (hx : Rep K ι H x v) (h : fSl x lo hi S Q) (l : LkE K ι H Q Qh) : rSlAll K v lo hi H Qh := by
  have seq : ∀ {d : D}, Rep K ι H d v → (match itemsL S d with
      | some ds => Q (.fl (cutL ds lo hi)) S
      | none => False) → rSlAll K v lo hi H Qh := fun {d} hd hq => by
    split at hq
    · rename_i ds e
      obtain ⟨a, xs, rfl, hs, hl⟩ := itemsL_rep r hd e
      exact .inl ⟨a, xs, rfl, hs, fun p hp => l.fl r (cutL_rep hl lo hi) hq hp⟩
    · exact hq.elim
  cases x with
  | tup ds =>
    obtain ⟨a, xs, rfl, hs, hl⟩ := rep_tup.mp hx
    refine .inr ⟨a, xs, rfl, hs, fun hw => ?_, fun hw p hp => l.tup r (cutL_rep hl lo hi) h hp⟩
    have h : Q (.tup (cutL ds lo hi)) S := h
    rw [← RepL.length hl] at hw
    rw [cutL_whole ds lo hi hw] at h
    exact l ι (.tup ds) S _ H Ext.refl r (rep_tup.mpr ⟨a, xs, rfl, hs, hl⟩) h
  | _ => exact seq hx h
theorem je_slice {K : PySem.W.Frag} {lo hi : Option Expr} {tl th : TO} {wl wh : WO} (he : JE X E e te we) (hl : JO X E lo tl wl) (hh : JO X E hi th wh) (hK : X.K = K := by rfl) :
    JE X E (.Subscript e (.Slice lo hi none p2) pos) (tSl (rSlAll K) te tl th) (wSl we wl wh) := by
  subst hK
  refine ⟨pe_slice sl_all he.pe hl.pe hh.pe, ?_⟩
  intro ι σ H σD S Q XX Qh r s h l lx
  refine he.ab ι σ H σD S _ XX _ r s h ?_ lx
  intro ι1 d1 S1 v1 H1 e1 r1 p1 h1
  refine hl.ab ι1 σ H1 σD S1 _ XX _ r1 (s.mono e1) h1 ?_ (lx.ext e1)
  intro ι2 lo' S2 H2 e2 r2 h2
  refine hh.ab ι2 σ H2 σD S2 _ XX _ r2 (s.mono (e1.trans e2)) h2 ?_ (lx.ext (e1.trans e2))
  intro ι3 hi' S3 H3 e3 r3 h3
  exact sl_of r3 (Rep.mono (e2.trans e3) _ _ p1) h3 (l.ext ((e1.trans e2).trans e3))
end
end AW
/-! AW5: calls, statements. -/
namespace AW
open PySem PySem.Spec PyProof.Rows L2

/-! ### built-in functions, by values -/
abbrev FC := List D → Sto → VKD → XKD → Prop
def AbsC (K : PySem.W.Frag) (E : XK) (r : List V → Hp → VK → Prop) (g : FC) : Prop := ∀ (ι : Ad) (H : Hp) (S : Sto) (ds : List D) (vs : List V) (Q : VKD) (XX : XKD) (Qh : VK),
  RelS K ι S H → RepL K ι H ds vs → g ds S Q XX → LkE K ι H Q Qh → LkX K ι H XX E → r vs H Qh
def wCB (g : FC) (w : WA) : WE := fun σ S Q X => w σ S (fun ds S1 => g ds S1 Q X) X
theorem abs_cb {K : PySem.W.Frag} {E : XK} {r : List V → Hp → VK → Prop} {g : FC} {t : TA} {w : WA} (hg : AbsC K E r g) (ha : AbsA K E t w) : AbsE K E (tCB r t) (wCB g w) := by
  intro ι σ H σD S Q XX Qh r s h l lx
  refine ha ι σ H σD S _ XX _ r s h ?_ lx
  intro ι1 ds S1 vs H1 e1 r1 p1 h1
  exact hg ι1 H1 S1 ds vs Q XX Qh r1 p1 h1 (l.ext e1) (lx.ext e1)
theorem repL1 {K ι H} {d : D} {vs : List V} (h : RepL K ι H [d] vs) : ∃ v, vs = [v] ∧ Rep K ι H d v := by
  unfold RepL at h
  obtain ⟨x, r, rfl, h1, h2⟩ := h
  unfold RepL at h2
  subst h2
  exact ⟨x, rfl, h1⟩
theorem repL2 {K ι H} {d e : D} {vs : List V} (h : RepL K ι H [d, e] vs) : ∃ v u, vs = [v, u] ∧ Rep K ι H d v ∧ Rep K ι H e u := by
  unfold RepL at h
  obtain ⟨x, r, rfl, h1, h2⟩ := h
  obtain ⟨u, rfl, h3⟩ := repL1 h2
  exact ⟨x, u, rfl, h1, h3⟩
theorem repL3 {K ι H} {d e f : D} {vs : List V} (h : RepL K ι H [d, e, f] vs) : ∃ v u w, vs = [v, u, w] ∧ Rep K ι H d v ∧ Rep K ι H e u ∧ Rep K ι H f w := by
  unfold RepL at h
  obtain ⟨x, r, rfl, h1, h2⟩ := h
  obtain ⟨u, w, rfl, h3, h4⟩ := repL2 h2
  exact ⟨x, u, w, rfl, h1, h3, h4⟩
def gAbs : FC := fun ds S Q _ => match ds with
  | [.int i] => Q (.int (i.natAbs : Int)) S
  | _ => False
def gInt : FC := fun ds S Q _ => match ds with
  | [.int i] => Q (.int i) S
  | [.bl b] => Q (.int (if b then 1 else 0)) S
  | _ => False
def gLen : FC := fun ds S Q _ => match ds with
  | [.str z] => z.length ≤ sizeLine ∧ Q (.int (z.length : Int)) S
  | [x] => match items S x with
    | some ds => Q (.int (ds.length : Int)) S
    | none => False
  | _ => False
def gTuple : FC := fun ds S Q _ => match ds with
  | [.tup ds] => Q (.tup ds) S
  | [x] => match itemsL S x with
    | some ds => Q (.tup ds) S
    | none => False
  | _ => False
/-- list(x): a list that stays as it is; a cell -/
def gList : FC := fun ds S Q _ => match ds with
  | [x] => match items S x with
    | some ds => Q (.fl ds) S
    | none => False
  | _ => False
def gListR : FC := fun ds S Q _ => match ds with
  | [x] => match items S x with
    | some ds => Q (.ref S.length) (S ++ [.lst ds])
    | none => False
  | _ => False
def intsOf : List D → Option (List Int)
  | [] => some []
  | .int i :: r => (intsOf r).map (i :: ·)
  | _ => none
def blsOf : List D → Option (List Bool)
  | [] => some []
  | .bl i :: r => (blsOf r).map (i :: ·)
  | _ => none
theorem intsOf_eq : ∀ {ds : List D} {ns : List Int}, intsOf ds = some ns → ds = ns.map D.int
  | [], ns, h => by cases h; rfl
  | d :: r, ns, h => by
    cases d <;> try cases h
    unfold intsOf at h
    cases e : intsOf r with
    | none => rw [e] at h; cases h
    | some ms => rw [e] at h; cases h; rw [intsOf_eq e]; rfl
theorem blsOf_eq : ∀ {ds : List D} {ns : List Bool}, blsOf ds = some ns → ds = ns.map D.bl
  | [], ns, h => by cases h; rfl
  | d :: r, ns, h => by
    cases d <;> try cases h
    unfold blsOf at h
    cases e : blsOf r with
    | none => rw [e] at h; cases h
    | some ms => rw [e] at h; cases h; rw [blsOf_eq e]; rfl
theorem intsOf_map : ∀ (ns : List Int), intsOf (ns.map D.int) = some ns
  | [] => rfl
  | n :: ns => by
    show (intsOf (ns.map D.int)).map (n :: ·) = _
    rw [intsOf_map ns]; rfl
theorem blsOf_map : ∀ (ns : List Bool), blsOf (ns.map D.bl) = some ns
  | [] => rfl
  | n :: ns => by
    show (blsOf (ns.map D.bl)).map (n :: ·) = _
    rw [blsOf_map ns]; rfl
theorem repL_ints {K ι H} : ∀ {ns : List Int} {xs : List V}, RepL K ι H (ns.map D.int) xs → xs = ns.map V.int
  | [], _, h => by unfold List.map RepL at h; exact h
  | n :: ns, _, h => by
    rw [List.map_cons] at h
    unfold RepL at h
    obtain ⟨x, r, rfl, h1, h2⟩ := h
    rw [rep_int] at h1
    rw [h1, repL_ints h2]; rfl
theorem repL_of_ints {K ι H} : ∀ (ns : List Int), RepL K ι H (ns.map D.int) (ns.map V.int)
  | [] => RepL.nil
  | n :: ns => RepL.cons (rep_int.mpr rfl) (repL_of_ints ns)
theorem repL_bls {K ι H} : ∀ {ns : List Bool} {xs : List V}, RepL K ι H (ns.map D.bl) xs → xs = ns.map V.bl
  | [], _, h => by unfold List.map RepL at h; exact h
  | n :: ns, _, h => by
    rw [List.map_cons] at h
    unfold RepL at h
    obtain ⟨x, r, rfl, h1, h2⟩ := h
    rw [rep_bl] at h1
    rw [h1, repL_bls h2]; rfl
def gSum : FC := fun ds S Q _ => match ds with
  | [x] => match (itemsL S x).bind intsOf with
    | some ns => Q (.int ns.sum) S
    | none => False
  | _ => False
def gAny : FC := fun ds S Q _ => match ds with
  | [x] => match (itemsL S x).bind blsOf with
    | some bs => Q (.bl (bs.any id)) S
    | none => False
  | _ => False
def gAll : FC := fun ds S Q _ => match ds with
  | [x] => match (itemsL S x).bind blsOf with
    | some bs => Q (.bl (bs.all id)) S
    | none => False
  | _ => False
/-- max, min of two ints; of a list of ints that is not empty -/
def gMax : FC := fun ds S Q _ => match ds with
  | [.int i, .int j] => Q (.int (max i j)) S
  | [x] => match (itemsL S x).bind intsOf with
    | some ns => 0 < ns.length ∧ ∀ m, m ∈ ns → (∀ y, y ∈ ns → y ≤ m) → Q (.int m) S
    | none => False
  | _ => False
def gMin : FC := fun ds S Q _ => match ds with
  | [.int i, .int j] => Q (.int (min i j)) S
  | [x] => match (itemsL S x).bind intsOf with
    | some ns => 0 < ns.length ∧ ∀ m, m ∈ ns → (∀ y, y ∈ ns → m ≤ y) → Q (.int m) S
    | none => False
  | _ => False
def rAbsV : List V → Hp → VK → Prop := fun xs H Q => ∃ i, xs = [.int i] ∧ Q (.int (if i < 0 then -i else i)) H
def rIntV : List V → Hp → VK → Prop := fun xs H Q => (∃ i, xs = [.int i] ∧ Q (.int i) H) ∨ ∃ k, xs = [.bl k] ∧ Q (.int (if k then 1 else 0)) H
def rLenV (K : PySem.W.Frag) : List V → Hp → VK → Prop := fun xs H Q => ∃ x n, xs = [x] ∧ LenV K x H n ∧ Q (.int n) H
def rTupV (K : PySem.W.Frag) : List V → Hp → VK → Prop := fun xs H Q => ∃ p ys, xs = [.ref p] ∧ ((SqL K H p ys ∧ ∀ l, H l = none → Q (.ref l) (upd H l (.tup ys))) ∨ (SqT K H p ys ∧ Q (.ref p) H))
def rListV (K : PySem.W.Frag) : List V → Hp → VK → Prop := fun xs H Q => ∃ p ys, xs = [.ref p] ∧ (SqL K H p ys ∨ SqT K H p ys) ∧ ∀ l, H l = none → Q (.ref l) (upd H l (.lst ys))
section
variable {K : PySem.W.Frag} {E : XK}
theorem abs_abs : AbsC K E rAbsV gAbs := by
  intro ι H S ds vs Q XX Qh r h g l lx
  unfold gAbs at g
  split at g
  · rename_i i
    obtain ⟨v, ev, hv⟩ := repL1 h; subst ev; clear h; have h := hv
    rw [rep_int] at h
    have e : (if i < 0 then -i else i) = (i.natAbs : Int) := by split <;> omega
    refine ⟨i, by rw [h], ?_⟩
    rw [e]
    exact l ι _ S _ H Ext.refl r (rep_int.mpr rfl) g
  · exact g.elim
theorem abs_intC : AbsC K E rIntV gInt := by
  intro ι H S ds vs Q XX Qh r h g l lx
  unfold gInt at g
  split at g
  · obtain ⟨v, ev, hv⟩ := repL1 h; subst ev; clear h; have h := hv
    rw [rep_int] at h
    exact .inl ⟨_, by rw [h], l ι _ S _ H Ext.refl r (rep_int.mpr rfl) g⟩
  · obtain ⟨v, ev, hv⟩ := repL1 h; subst ev; clear h; have h := hv
    rw [rep_bl] at h
    exact .inr ⟨_, by rw [h], l ι _ S _ H Ext.refl r (rep_int.mpr rfl) g⟩
  · exact g.elim
theorem abs_len : AbsC K E (rLenV K) gLen := by
  intro ι H S ds vs Q XX Qh r h g l lx
  unfold gLen at g
  split at g
  · rename_i z
    obtain ⟨v, ev, hv⟩ := repL1 h; subst ev; clear h; have h := hv
    rw [rep_str] at h
    exact ⟨v, z.length, rfl, by rw [h]; exact ⟨g.1, rfl⟩, l ι _ S _ H Ext.refl r (rep_int.mpr rfl) g.2⟩
  · obtain ⟨v, ev, hv⟩ := repL1 h; subst ev; clear h; have h := hv
    split at g
    · rename_i es e
      obtain ⟨a, xs, rfl, hs, hl⟩ := items_rep r h e
      refine ⟨.ref a, es.length, rfl, ?_, l ι _ S _ H Ext.refl r (rep_int.mpr rfl) g⟩
      have q := RepL.length hl
      rcases hs with hs | hs
      · exact .inl ⟨xs, hs, q⟩
      · exact .inr ⟨xs, hs, q⟩
    · exact g.elim
  · exact g.elim
theorem abs_tuple : AbsC K E (rTupV K) gTuple := by
  intro ι H S ds vs Q XX Qh r h g l lx
  unfold gTuple at g
  split at g
  · obtain ⟨v, ev, hv⟩ := repL1 h; subst ev; clear h; have h := hv
    obtain ⟨a, xs, rfl, hs, hl⟩ := rep_tup.mp h
    exact ⟨a, xs, rfl, .inr ⟨hs, l ι _ S _ H Ext.refl r h g⟩⟩
  · obtain ⟨v, ev, hv⟩ := repL1 h; subst ev; clear h; have h := hv
    split at g
    · rename_i es e
      obtain ⟨a, xs, rfl, hs, hl⟩ := itemsL_rep r h e
      exact ⟨a, xs, rfl, .inl ⟨hs, fun p hp => l.tup r hl g hp⟩⟩
    · exact g.elim
  · exact g.elim
theorem abs_list : AbsC K E (rListV K) gList := by
  intro ι H S ds vs Q XX Qh r h g l lx
  unfold gList at g
  split at g
  · obtain ⟨v, ev, hv⟩ := repL1 h; subst ev; clear h; have h := hv
    split at g
    · rename_i es e
      obtain ⟨a, xs, rfl, hs, hl⟩ := items_rep r h e
      exact ⟨a, xs, rfl, hs, fun p hp => l.fl r hl g hp⟩
    · exact g.elim
  · exact g.elim
theorem abs_listR : AbsC K E (rListV K) gListR := by
  intro ι H S ds vs Q XX Qh r h g l lx
  unfold gListR at g
  split at g
  · obtain ⟨v, ev, hv⟩ := repL1 h; subst ev; clear h; have h := hv
    split at g
    · rename_i es e
      obtain ⟨a, xs, rfl, hs, hl⟩ := items_rep r h e
      exact ⟨a, xs, rfl, hs, fun p hp => l.cell r hl g hp⟩
    · exact g.elim
  · exact g.elim
theorem ints_of {ι : Ad} {H : Hp} {S : Sto} (r : RelS K ι S H) {x : D} {v : V} {ns : List Int} (h : Rep K ι H x v) (e : (itemsL S x).bind intsOf = some ns) : ∃ a, v = .ref a ∧ SqL K H a (ns.map V.int) := by
  cases q : itemsL S x with
  | none => rw [q] at e; cases e
  | some es =>
    rw [q] at e
    obtain ⟨a, xs, rfl, hs, hl⟩ := itemsL_rep r h q
    have e2 : es = ns.map D.int := intsOf_eq e
    rw [e2] at hl
    rw [repL_ints hl] at hs
    exact ⟨a, rfl, hs⟩
theorem bls_of {ι : Ad} {H : Hp} {S : Sto} (r : RelS K ι S H) {x : D} {v : V} {ns : List Bool} (h : Rep K ι H x v) (e : (itemsL S x).bind blsOf = some ns) : ∃ a, v = .ref a ∧ SqL K H a (ns.map V.bl) := by
  cases q : itemsL S x with
  | none => rw [q] at e; cases e
  | some es =>
    rw [q] at e
    obtain ⟨a, xs, rfl, hs, hl⟩ := itemsL_rep r h q
    have e2 : es = ns.map D.bl := blsOf_eq e
    rw [e2] at hl
    rw [repL_bls hl] at hs
    exact ⟨a, rfl, hs⟩
theorem abs_sum : AbsC K E (rSum K) gSum := by
  intro ι H S ds vs Q XX Qh r h g l lx
  unfold gSum at g
  split at g
  · obtain ⟨v, ev, hv⟩ := repL1 h; subst ev; clear h; have h := hv
    split at g
    · rename_i ns e
      obtain ⟨a, rfl, hs⟩ := ints_of r h e
      exact ⟨a, ns, rfl, hs, l ι _ S _ H Ext.refl r (rep_int.mpr rfl) g⟩
    · exact g.elim
  · exact g.elim
theorem abs_any : AbsC K E (rAny K) gAny := by
  intro ι H S ds vs Q XX Qh r h g l lx
  unfold gAny at g
  split at g
  · obtain ⟨v, ev, hv⟩ := repL1 h; subst ev; clear h; have h := hv
    split at g
    · rename_i ns e
      obtain ⟨a, rfl, hs⟩ := bls_of r h e
      exact ⟨a, ns, rfl, hs, l ι _ S _ H Ext.refl r (rep_bl.mpr rfl) g⟩
    · exact g.elim
  · exact g.elim
theorem abs_all : AbsC K E (rAll K) gAll := by
  intro ι H S ds vs Q XX Qh r h g l lx
  unfold gAll at g
  split at g
  · obtain ⟨v, ev, hv⟩ := repL1 h; subst ev; clear h; have h := hv
    split at g
    · rename_i ns e
      obtain ⟨a, rfl, hs⟩ := bls_of r h e
      exact ⟨a, ns, rfl, hs, l ι _ S _ H Ext.refl r (rep_bl.mpr rfl) g⟩
    · exact g.elim
  · exact g.elim
def rMaxAll (K : PySem.W.Frag) : List V → Hp → VK → Prop := fun xs H Q => (∃ i j, xs = [.int i, .int j] ∧ Q (.int (if j > i then j else i)) H) ∨ rMax K xs H Q
def rMinAll (K : PySem.W.Frag) : List V → Hp → VK → Prop := fun xs H Q => (∃ i j, xs = [.int i, .int j] ∧ Q (.int (if j < i then j else i)) H) ∨ rMin K xs H Q
theorem abs_max : AbsC K E (rMaxAll K) gMax := by
  intro ι H S ds vs Q XX Qh r h g l lx
  unfold gMax at g
  split at g
  · rename_i i j
    obtain ⟨v, u, rfl, h1, h2⟩ := repL2 h
    rw [rep_int] at h1 h2
    have e : (if j > i then j else i) = max i j := by rw [Int.max_def]; split <;> split <;> omega
    refine .inl ⟨i, j, by rw [h1, h2], ?_⟩
    rw [e]
    exact l ι _ S _ H Ext.refl r (rep_int.mpr rfl) g
  · obtain ⟨v, ev, hv⟩ := repL1 h; subst ev; clear h; have h := hv
    split at g
    · rename_i ns e
      obtain ⟨a, rfl, hs⟩ := ints_of r h e
      exact .inr ⟨a, ns, rfl, hs, g.1, fun m h1 h2 => l ι _ S _ H Ext.refl r (rep_int.mpr rfl) (g.2 m h1 h2)⟩
    · exact g.elim
  · exact g.elim
theorem abs_min : AbsC K E (rMinAll K) gMin := by
  intro ι H S ds vs Q XX Qh r h g l lx
  unfold gMin at g
  split at g
  · rename_i i j
    obtain ⟨v, u, rfl, h1, h2⟩ := repL2 h
    rw [rep_int] at h1 h2
    have e : (if j < i then j else i) = min i j := by rw [Int.min_def]; split <;> split <;> omega
    refine .inl ⟨i, j, by rw [h1, h2], ?_⟩
    rw [e]
    exact l ι _ S _ H Ext.refl r (rep_int.mpr rfl) g
  · obtain ⟨v, ev, hv⟩ := repL1 h; subst ev; clear h; have h := hv
    split at g
    · rename_i ns e
      obtain ⟨a, rfl, hs⟩ := ints_of r h e
      exact .inr ⟨a, ns, rfl, hs, g.1, fun m h1 h2 => l ι _ S _ H Ext.refl r (rep_int.mpr rfl) (g.2 m h1 h2)⟩
    · exact g.elim
  · exact g.elim
end
section
variable {X : Cx} {E : XK} {p pos : Pos} {e : Expr} {es : List Expr} {t : TA} {w : WA}
theorem je_callB {x : Str} {id : String} {r : List V → Hp → VK → Prop} {g : FC} (hc : CallR X (.builtin id) r) (hf : AbsC X.K E r g) (hg : Gl X x) (hm : X.mg x = none) (hv : bootBuiltins x = some (.builtin id)) (ha : JA X E (e :: es) t w) (hn : x ≠ "__name__" := by decide) (hdb : (x == ("__debug__" : Str)) = false := by decide)
    (he : starEach (e :: es) X.env = (false, eval e X.env) :: starEach es X.env := by rfl) (hpl : (backTo pos (starEach es X.env)).any (·.1) = false := by rfl) : JE X E (.Call (.Name x p) (e :: es) [] pos) (tCB r t) (wCB g w) :=
  ⟨pe_callB hc hg hm hv ha.pe hn hdb he hpl, abs_cb hf ha.ab⟩
theorem je_callTy {x : Str} {T : String} {r : List V → Hp → VK → Prop} {g : FC} (hc : CallR X (.type T) r) (hf : AbsC X.K E r g) (hg : Gl X x) (hm : X.mg x = none) (hv : bootBuiltins x = some (.type T)) (ha : JA X E (e :: es) t w) (hn : x ≠ "__name__" := by decide) (hdb : (x == ("__debug__" : Str)) = false := by decide)
    (he : starEach (e :: es) X.env = (false, eval e X.env) :: starEach es X.env := by rfl) (hpl : (backTo pos (starEach es X.env)).any (·.1) = false := by rfl) : JE X E (.Call (.Name x p) (e :: es) [] pos) (tCB r t) (wCB g w) :=
  ⟨pe_callTy hc hg hm hv ha.pe hn hdb he hpl, abs_cb hf ha.ab⟩
theorem bt_abs : bootBuiltins "abs" = some (.builtin "abs") := by decide +kernel
theorem bt_int : bootBuiltins "int" = some (.type "int") := by decide +kernel
theorem bt_len : bootBuiltins "len" = some (.builtin "len") := by decide +kernel
theorem bt_tuple : bootBuiltins "tuple" = some (.type "tuple") := by decide +kernel
theorem bt_list : bootBuiltins "list" = some (.type "list") := by decide +kernel
theorem bt_sum : bootBuiltins "sum" = some (.builtin "sum") := by decide +kernel
theorem bt_any : bootBuiltins "any" = some (.builtin "any") := by decide +kernel
theorem bt_all : bootBuiltins "all" = some (.builtin "all") := by decide +kernel
theorem bt_max : bootBuiltins "max" = some (.builtin "max") := by decide +kernel
theorem bt_min : bootBuiltins "min" = some (.builtin "min") := by decide +kernel
theorem bt_isinstance : bootBuiltins "isinstance" = some (.builtin "isinstance") := by decide +kernel
theorem bt_bool : bootBuiltins "bool" = some (.type "bool") := by decide +kernel
theorem bt_str : bootBuiltins "str" = some (.type "str") := by decide +kernel
theorem je_abs (hm : X.mg "abs" = none) (ha : JA X E (e :: es) t w) (hg : Gl X "abs" := by rfl) (he : starEach (e :: es) X.env = (false, eval e X.env) :: starEach es X.env := by rfl) (hpl : (backTo pos (starEach es X.env)).any (·.1) = false := by rfl) : JE X E (.Call (.Name "abs" p) (e :: es) [] pos) (tCB rAbsV t) (wCB gAbs w) :=
  je_callB call_abs abs_abs hg hm bt_abs ha (he := he) (hpl := hpl)
theorem je_intC (hm : X.mg "int" = none) (ha : JA X E (e :: es) t w) (hg : Gl X "int" := by rfl) (he : starEach (e :: es) X.env = (false, eval e X.env) :: starEach es X.env := by rfl) (hpl : (backTo pos (starEach es X.env)).any (·.1) = false := by rfl) : JE X E (.Call (.Name "int" p) (e :: es) [] pos) (tCB rIntV t) (wCB gInt w) :=
  je_callTy call_int1 abs_intC hg hm bt_int ha (he := he) (hpl := hpl)
theorem je_len {K : PySem.W.Frag} (hm : X.mg "len" = none) (ha : JA X E (e :: es) t w) (hg : Gl X "len" := by rfl) (he : starEach (e :: es) X.env = (false, eval e X.env) :: starEach es X.env := by rfl) (hpl : (backTo pos (starEach es X.env)).any (·.1) = false := by rfl) (hK : X.K = K := by rfl) : JE X E (.Call (.Name "len" p) (e :: es) [] pos) (tCB (rLenV K) t) (wCB gLen w) := by
  subst hK
  exact je_callB call_len abs_len hg hm bt_len ha (he := he) (hpl := hpl)
theorem je_tuple {K : PySem.W.Frag} (hm : X.mg "tuple" = none) (ha : JA X E (e :: es) t w) (hg : Gl X "tuple" := by rfl) (he : starEach (e :: es) X.env = (false, eval e X.env) :: starEach es X.env := by rfl) (hpl : (backTo pos (starEach es X.env)).any (·.1) = false := by rfl) (hK : X.K = K := by rfl) : JE X E (.Call (.Name "tuple" p) (e :: es) [] pos) (tCB (rTupV K) t) (wCB gTuple w) := by
  subst hK
  exact je_callTy call_tuple_of abs_tuple hg hm bt_tuple ha (he := he) (hpl := hpl)
theorem je_list {K : PySem.W.Frag} (hm : X.mg "list" = none) (ha : JA X E (e :: es) t w) (hg : Gl X "list" := by rfl) (he : starEach (e :: es) X.env = (false, eval e X.env) :: starEach es X.env := by rfl) (hpl : (backTo pos (starEach es X.env)).any (·.1) = false := by rfl) (hK : X.K = K := by rfl) : JE X E (.Call (.Name "list" p) (e :: es) [] pos) (tCB (rListV K) t) (wCB gList w) := by
  subst hK
  exact je_callTy call_list_of abs_list hg hm bt_list ha (he := he) (hpl := hpl)
theorem je_listR {K : PySem.W.Frag} (hm : X.mg "list" = none) (ha : JA X E (e :: es) t w) (hg : Gl X "list" := by rfl) (he : starEach (e :: es) X.env = (false, eval e X.env) :: starEach es X.env := by rfl) (hpl : (backTo pos (starEach es X.env)).any (·.1) = false := by rfl) (hK : X.K = K := by rfl) : JE X E (.Call (.Name "list" p) (e :: es) [] pos) (tCB (rListV K) t) (wCB gListR w) := by
  subst hK
  exact je_callTy call_list_of abs_listR hg hm bt_list ha (he := he) (hpl := hpl)
theorem je_sum {K : PySem.W.Frag} (hc : X.calm = true) (hm : X.mg "sum" = none) (ha : JA X E (e :: es) t w) (hg : Gl X "sum" := by rfl) (he : starEach (e :: es) X.env = (false, eval e X.env) :: starEach es X.env := by rfl) (hpl : (backTo pos (starEach es X.env)).any (·.1) = false := by rfl) (hK : X.K = K := by rfl) : JE X E (.Call (.Name "sum" p) (e :: es) [] pos) (tCB (rSum K) t) (wCB gSum w) := by
  subst hK
  exact je_callB (cr_sum hc) abs_sum hg hm bt_sum ha (he := he) (hpl := hpl)
theorem je_any {K : PySem.W.Frag} (hc : X.calm = true) (hm : X.mg "any" = none) (ha : JA X E (e :: es) t w) (hg : Gl X "any" := by rfl) (he : starEach (e :: es) X.env = (false, eval e X.env) :: starEach es X.env := by rfl) (hpl : (backTo pos (starEach es X.env)).any (·.1) = false := by rfl) (hK : X.K = K := by rfl) : JE X E (.Call (.Name "any" p) (e :: es) [] pos) (tCB (rAny K) t) (wCB gAny w) := by
  subst hK
  exact je_callB (cr_any hc) abs_any hg hm bt_any ha (he := he) (hpl := hpl)
theorem je_all {K : PySem.W.Frag} (hc : X.calm = true) (hm : X.mg "all" = none) (ha : JA X E (e :: es) t w) (hg : Gl X "all" := by rfl) (he : starEach (e :: es) X.env = (false, eval e X.env) :: starEach es X.env := by rfl) (hpl : (backTo pos (starEach es X.env)).any (·.1) = false := by rfl) (hK : X.K = K := by rfl) : JE X E (.Call (.Name "all" p) (e :: es) [] pos) (tCB (rAll K) t) (wCB gAll w) := by
  subst hK
  exact je_callB (cr_all hc) abs_all hg hm bt_all ha (he := he) (hpl := hpl)
theorem je_max {K : PySem.W.Frag} (hc : X.calm = true) (hm : X.mg "max" = none) (ha : JA X E (e :: es) t w) (hg : Gl X "max" := by rfl) (he : starEach (e :: es) X.env = (false, eval e X.env) :: starEach es X.env := by rfl) (hpl : (backTo pos (starEach es X.env)).any (·.1) = false := by rfl) (hK : X.K = K := by rfl) : JE X E (.Call (.Name "max" p) (e :: es) [] pos) (tCB (rMaxAll K) t) (wCB gMax w) := by
  subst hK
  exact je_callB (CallR.or (call_max2 hc) (cr_max hc)) abs_max hg hm bt_max ha (he := he) (hpl := hpl)
theorem je_min {K : PySem.W.Frag} (hc : X.calm = true) (hm : X.mg "min" = none) (ha : JA X E (e :: es) t w) (hg : Gl X "min" := by rfl) (he : starEach (e :: es) X.env = (false, eval e X.env) :: starEach es X.env := by rfl) (hpl : (backTo pos (starEach es X.env)).any (·.1) = false := by rfl) (hK : X.K = K := by rfl) : JE X E (.Call (.Name "min" p) (e :: es) [] pos) (tCB (rMinAll K) t) (wCB gMin w) := by
  subst hK
  exact je_callB (CallR.or (call_min2 hc) (cr_min hc)) abs_min hg hm bt_min ha (he := he) (hpl := hpl)
end

/-! ### isinstance -/
inductive TN where
  | int | bool | str | tuple | list
def TN.name : TN → String
  | .int => "int"
  | .bool => "bool"
  | .str => "str"
  | .tuple => "tuple"
  | .list => "list"
def isTN : TN → Sto → D → Option Bool
  | T, S, .ref n => match S[n]? with
    | some (.lst _) => match T with
      | .list => some true
      | _ => some false
    | _ => none
  | _, _, .exc _ => none
  | .int, _, .int _ => some true
  | .int, _, .bl _ => some true
  | .bool, _, .bl _ => some true
  | .str, _, .str _ => some true
  | .tuple, _, .tup _ => some true
  | .list, _, .fl _ => some true
  | .list, _, .scr _ => some true
  | _, _, _ => some false
def tyName : D → String
  | .non => "NoneType"
  | .bl _ => "bool"
  | .int _ => "int"
  | .str _ => "str"
  | .tup _ => "tuple"
  | _ => "list"
theorem kitB_all : (["NoneType", "bool", "int", "str", "tuple", "list"].all fun a => ["int", "bool", "str", "tuple", "list"].all fun b => decide (kitB a b = some (decide (a = b) || (decide (a = "bool") && decide (b = "int"))))) = true := by decide +kernel
theorem isTN_rep {K ι H} {S : Sto} (r : RelS K ι S H) {T : TN} {x : D} {v : V} {b : Bool} (h : Rep K ι H x v) (e : isTN T S x = some b) : ∃ t, TyX K H v t ∧ PySem.W.kitOne K t (.type T.name) = some b := by
  have look : ∀ a ∈ ["NoneType", "bool", "int", "str", "tuple", "list"], PySem.W.kitOne K (.type a) (.type T.name) = some (decide (a = T.name) || (decide (a = "bool") && decide (T.name = "int"))) := fun a ha => by
    have q := List.all_eq_true.mp kitB_all a ha
    have q2 := List.all_eq_true.mp q T.name (by cases T <;> decide)
    exact kit_ty (of_decide_eq_true q2)
  cases x with
  | non => rw [rep_non] at h; subst h; exact ⟨_, .base .non, by rw [look _ (by decide)]; cases T <;> cases e <;> rfl⟩
  | bl y => rw [rep_bl] at h; subst h; exact ⟨_, .base (.bl _), by rw [look _ (by decide)]; cases T <;> cases e <;> rfl⟩
  | int y => rw [rep_int] at h; subst h; exact ⟨_, .base (.int _), by rw [look _ (by decide)]; cases T <;> cases e <;> rfl⟩
  | str y => rw [rep_str] at h; subst h; exact ⟨_, .base (.str _), by rw [look _ (by decide)]; cases T <;> cases e <;> rfl⟩
  | tup ds =>
    obtain ⟨a, xs, rfl, hs, _⟩ := rep_tup.mp h
    refine ⟨.type "tuple", ?_, by rw [look _ (by decide)]; cases T <;> cases e <;> rfl⟩
    rcases hs with (hs | ⟨o, hs⟩) | ⟨o, its, n, k1, k2, _⟩
    · exact .base (.tup hs)
    · exact .fTuple hs
    · exact .kTuple k1 k2
  | fl ds =>
    obtain ⟨a, xs, rfl, _, hs, _⟩ := rep_fl.mp h
    exact ⟨.type "list", .base (.lst hs), by rw [look _ (by decide)]; cases T <;> cases e <;> rfl⟩
  | scr ds =>
    obtain ⟨a, xs, rfl, hs, _⟩ := rep_scr.mp h
    refine ⟨.type "list", ?_, by rw [look _ (by decide)]; cases T <;> cases e <;> rfl⟩
    rcases hs with ⟨o, hs⟩ | ⟨o, its, n, k1, k2, _⟩
    · exact .base (.frz hs)
    · exact .kList k1 k2
  | ref n =>
    obtain ⟨a, rfl, h2⟩ := rep_ref.mp h
    have e : (match S[n]? with
      | some (.lst _) => match T with
        | .list => some true
        | _ => some false
      | _ => none) = some b := by cases T <;> exact e
    split at e
    · rename_i ds hc
      obtain ⟨xs, q1, q2⟩ := r.cel n _ a hc h2
      exact ⟨.type "list", .base (.lst q1), by rw [look _ (by decide)]; cases T <;> cases e <;> rfl⟩
    · cases e
  | exc a => cases T <;> cases e
section
variable {X : Cx} {E : XK} {p pT pos : Pos} {e : Expr} {te : TE} {we : WE}
def wIsi (T : TN) (we : WE) : WE := fun σ S Q X => we σ S (fun d S1 => match isTN T S1 d with
  | some b => Q (.bl b) S1
  | none => False) X
theorem je_isi {K : PySem.W.Frag} (T : TN) (hm : X.mg "isinstance" = none) (hT : X.mg (Str.ofString T.name) = none) (he : JE X E e te we) (hg : Gl X "isinstance" := by rfl) (hgT : Gl X (Str.ofString T.name) := by rfl)
    (h1 : starEach [e, .Name (Str.ofString T.name) pT] X.env = (false, eval e X.env) :: starEach [.Name (Str.ofString T.name) pT] X.env := by rfl) (h2 : starEach [.Name (Str.ofString T.name) pT] X.env = (false, eval (.Name (Str.ofString T.name) pT) X.env) :: starEach [] X.env := by rfl)
    (hpl : (backTo pos (starEach [.Name (Str.ofString T.name) pT] X.env)).any (·.1) = false := by rfl) (hK : X.K = K := by rfl) :
    JE X E (.Call (.Name "isinstance" p) [e, .Name (Str.ofString T.name) pT] [] pos) (tCB (rIsi K) (tCons te (tCons (tC (.ty T.name)) tNil))) (wIsi T we) := by
  subst hK
  have hb : bootBuiltins (Str.ofString T.name) = some (.type T.name) := by cases T <;> first | exact bt_int | exact bt_bool | exact bt_str | exact bt_tuple | exact bt_list
  have hn : Str.ofString T.name ≠ "__name__" := by cases T <;> decide
  have hd : (Str.ofString T.name == ("__debug__" : Str)) = false := by cases T <;> decide
  refine ⟨pe_callB call_isi hg hm bt_isinstance (pa_cons he.pe (pa_cons (pe_bltn (v := .ty T.name) hgT hT hb rfl hn hd) pa_nil h2) h1) (he := h1) (hpl := hpl), ?_⟩
  intro ι σ H σD S Q XX Qh r s h l lx
  refine he.ab ι σ H σD S _ XX _ r s h ?_ lx
  intro ι1 d1 S1 v1 H1 e1 r1 p1 h1
  have h1 : (match isTN T S1 d1 with
    | some b => Q (.bl b) S1
    | none => False) := h1
  split at h1
  · rename_i b e2
    obtain ⟨t, ty, k⟩ := isTN_rep r1 p1 e2
    exact ⟨v1, .ty T.name, t, .type T.name, b, rfl, .ty _, ty, k, l ι1 _ S1 _ H1 e1 r1 (rep_bl.mpr rfl) h1⟩
  · exact h1.elim
end

/-! ### own defs -/
/-- what a def promises: arguments, store, the wished end, the wished exception -/
abbrev ASp := FC
def spOf (K : PySem.W.Frag) (a : ASp) : Sp := fun vs H Q E => ∃ (ι : Ad) (ds : List D) (S : Sto) (Qa : VKD) (Xa : XKD), RelS K ι S H ∧ RepL K ι H ds vs ∧ a ds S Qa Xa ∧ LkE K ι H Qa Q ∧ LkX K ι H Xa E
structure Cal (P : Program) (w : World) (K : PySem.W.Frag) (mg : Str → Option Value) (base : Heap) (k : Nat) (x : Str) (a : ASp) : Prop where
  ex : ∃ f fd ps, FnOk P w K mg base (L2.CX P w) k f fd ps (spOf K a) ∧ mg x = some (.ref f) ∧ PySem.W.keepIn K (.ref f) = true ∧ Binds K fd ps []
theorem Cal.mono {P w K mg base k x a} (c : Cal P w K mg base k x a) {j : Nat} (h : k ≤ j) : Cal P w K mg base j x a :=
  let ⟨f, fd, ps, h1, h2⟩ := c.ex; ⟨f, fd, ps, h1.mono h, h2⟩
theorem Cal.imp {P w K mg base k x a} (c : Cal P w K mg base k x a) {b : ASp} (h : ∀ ds S Q XX, b ds S Q XX → a ds S Q XX) : Cal P w K mg base k x b :=
  let ⟨f, fd, ps, h1, h2⟩ := c.ex; ⟨f, fd, ps, h1.imp fun vs H Q E ⟨ι, ds, S, Qa, Xa, r, rl, q, l, lx⟩ => ⟨ι, ds, S, Qa, Xa, r, rl, h _ _ _ _ q, l, lx⟩, h2⟩
section
variable {X : Cx} {E : XK} {p pos : Pos} {e : Expr} {es : List Expr} {t : TA} {w : WA} {k : Nat} {x : Str} {a : ASp}
/-- the reading of a call: chosen by what is known of the def -/
def CalT (X : Cx) (k : Nat) (x : Str) (a : ASp) : Prop := True
theorem je_call {K : PySem.W.Frag} (c : Cal X.prog X.w X.K X.mg X.base k x a) (hr : Room k X.A) (hx : Passes (L2.CX X.prog X.w) X E) (ha : JA X E (e :: es) t w) (hg : Gl X x := by rfl) (hdb : (x == ("__debug__" : Str)) = false := by decide)
    (he : starEach (e :: es) X.env = (false, eval e X.env) :: starEach es X.env := by rfl) (hpl : (backTo pos (starEach es X.env)).any (·.1) = false := by rfl) (hK : X.K = K := by rfl) :
    JE X E (.Call (.Name x p) (e :: es) [] pos) (tCall (spOf K a) [] E t) (wCB a w) := by
  subst hK
  obtain ⟨f, fd, ps, F, hm, hk, hb⟩ := c.ex
  refine ⟨pe_call F hr hg hm hk hb .nil hx ha.pe hdb he hpl, ?_⟩
  intro ι σ H σD S Q XX Qh r s h l lx
  refine ha.ab ι σ H σD S _ XX _ r s h ?_ lx
  intro ι1 ds S1 vs H1 e1 r1 p1 h1
  exact ⟨ι1, ds, S1, Q, XX, r1, by rw [List.append_nil]; exact p1, h1, l.ext e1, lx.ext e1⟩
theorem je_call0 {K : PySem.W.Frag} (c : Cal X.prog X.w X.K X.mg X.base k x a) (hr : Room k X.A) (hx : Passes (L2.CX X.prog X.w) X E) (hg : Gl X x := by rfl) (hdb : (x == ("__debug__" : Str)) = false := by decide) (hK : X.K = K := by rfl) :
    JE X E (.Call (.Name x p) [] [] pos) (tCall (spOf K a) [] E tNil) (wCB a wNil) := by
  subst hK
  obtain ⟨f, fd, ps, F, hm, hk, hb⟩ := c.ex
  refine ⟨pe_call0 F hr hg hm hk hb .nil hx hdb, ?_⟩
  intro ι σ H σD S Q XX Qh r s h l lx
  exact ⟨ι, [], S, Q, XX, r, RepL.nil, h, l, lx⟩
end
end AW
/-! AW6: statements, loops, comprehensions, defs. -/
namespace AW
open PySem PySem.Spec PyProof.Rows L2

section
variable {X : Cx} {E : XK} {pos : Pos} {st : Stmt} {rest : List Stmt} {t u : TS} {w wu : WS} {e : Expr} {te : TE} {we : WE}
def wNext : WS := fun D σ S _ => D.nx σ S
def wSeq (w u : WS) : WS := fun D σ S X => w { nx := fun σ' S' => u D σ' S' X, rt := D.rt, bk := D.bk, ct := D.ct } σ S X
theorem jss_nil : JSs X E [] tNext wNext := ⟨pss_nil, fun ι σ H σD S DA XX De r s h l lx => l.nx ι σD S σ H Ext.refl r s h⟩
theorem jss_cons (h1 : JS X E st t w) (h2 : JSs X E rest u wu) : JSs X E (st :: rest) (tSeq t u) (wSeq w wu) := by
  refine ⟨pss_cons h1.pe h2.pe, ?_⟩
  intro ι σ H σD S DA XX De r s h l lx
  refine h1.ab ι σ H σD S _ XX _ r s h ⟨?_, l.rt, l.bk, l.ct⟩ lx
  intro ι1 σD1 S1 σ1 H1 e1 r1 s1 h1
  exact h2.ab ι1 σ1 H1 σD1 S1 DA XX De r1 s1 h1 (l.ext e1) (lx.ext e1)
theorem jss_one (h1 : JS X E st t w) : JSs X E [st] t w := ⟨pss_one h1.pe, h1.ab⟩
theorem js_pass : JS X E (.Pass pos) tNext wNext := ⟨ps_pass, fun ι σ H σD S DA XX De r s h l lx => l.nx ι σD S σ H Ext.refl r s h⟩
def wBreak : WS := fun D σ S _ => D.bk σ S
def wCont : WS := fun D σ S _ => D.ct σ S
theorem js_break : JS X E (.Break pos) tBreak wBreak := ⟨ps_break, fun ι σ H σD S DA XX De r s h l lx => l.bk ι σD S σ H Ext.refl r s h⟩
theorem js_continue : JS X E (.Continue pos) tCont wCont := ⟨ps_continue, fun ι σ H σD S DA XX De r s h l lx => l.ct ι σD S σ H Ext.refl r s h⟩
def wDrop (we : WE) : WS := fun D σ S X => we σ S (fun _ S1 => D.nx σ S1) X
theorem js_expr (he : JE X E e te we) (hs : swapsWith e none pos.line X.env = pure false := by rfl) : JS X E (.Expr e pos) (tDrop te) (wDrop we) := by
  refine ⟨ps_expr he.pe hs, ?_⟩
  intro ι σ H σD S DA XX De r s h l lx
  refine he.ab ι σ H σD S _ XX _ r s h ?_ lx
  intro ι1 d1 S1 v1 H1 e1 r1 p1 h1
  exact l.nx ι1 σD S1 σ H1 e1 r1 (s.mono e1) h1
def wRet (we : WE) : WS := fun D σ S X => we σ S D.rt X
theorem js_ret (he : JE X E e te we) : JS X E (.Return (some e) pos) (tRet te) (wRet we) := by
  refine ⟨ps_ret he.pe, ?_⟩
  intro ι σ H σD S DA XX De r s h l lx
  exact he.ab ι σ H σD S _ XX _ r s h l.rt lx
def wRetN : WS := fun D _ S _ => D.rt .non S
theorem js_retN : JS X E (.Return none pos) tRetN wRetN := ⟨ps_retN, fun ι σ H σD S DA XX De r s h l lx => l.rt ι .non S .non H Ext.refl r (rep_non.mpr rfl) h⟩
def wIfS (c : WT) (w u : WS) : WS := fun D σ S X => c σ S (fun b S1 => if b = true then w D σ S1 X else u D σ S1 X) X
theorem js_if {c : Expr} {a b : List Stmt} {tc : TT} {wc : WT} (hc : JT X E c tc wc) (ha : JSs X E a t w) (hb : JSs X E b u wu) : JS X E (.If c a b pos) (tIfS tc t u) (wIfS wc w wu) := by
  refine ⟨ps_if hc.pe ha.pe hb.pe, ?_⟩
  intro ι σ H σD S DA XX De r s h l lx
  refine hc.ab ι σ H σD S _ XX _ r s h ?_ lx
  intro ι1 c S1 H1 e1 r1 h1
  cases c with
  | true => exact ha.ab ι1 σ H1 σD S1 DA XX De r1 (s.mono e1) h1 (l.ext e1) (lx.ext e1)
  | false => exact hb.ab ι1 σ H1 σD S1 DA XX De r1 (s.mono e1) h1 (l.ext e1) (lx.ext e1)
/-- code that is never come to -/
def wNever : WS := fun _ _ _ _ => False
theorem js_never : JS X E st tNever wNever := ⟨ps_never, fun ι σ H σD S DA XX De r s h l lx => h.elim⟩
theorem jss_never {sts : List Stmt} : JSs X E sts tNever wNever := ⟨pss_never, fun ι σ H σD S DA XX De r s h l lx => h.elim⟩
def wSet (i : Nat) (we : WE) : WS := fun D σ S X => we σ S (fun d S1 => D.nx (σ.set i (some d)) S1) X
theorem js_set {i : Nat} {x : Str} {pos' : Pos} (hN : X.N.Nodup) (hi : X.N[i]? = some x) (hx : Loc X.env.scope x) (he : JE X E e te we) (hs : swapsWith e (some (.Name x pos')) pos.line X.env = pure false := by rfl) (hf : X.fn x = true ∨ X.env.scope.names.lookup x = some .local := by first | exact .inl rfl | exact .inr rfl | assumption) :
    JS X E (.Assign [.Name x pos'] e pos) (tAsg te (gName i)) (wSet i we) := by
  refine ⟨ps_set hN hi hx he.pe hs hf, ?_⟩
  intro ι σ H σD S DA XX De r s h l lx
  refine he.ab ι σ H σD S _ XX _ r s h ?_ lx
  intro ι1 d1 S1 v1 H1 e1 r1 p1 h1
  exact l.nx ι1 _ S1 _ H1 e1 r1 ((s.mono e1).set i p1) h1
def wPar (i j : Nat) (w : WA) : WS := fun D σ S X => w σ S (fun ds S1 => match ds with
  | [d, e] => D.nx ((σ.set i (some d)).set j (some e)) S1
  | _ => False) X
theorem js_par {i j : Nat} {x y : Str} {a b : Expr} {ta : TA} {wa : WA} {px py pt : Pos} {kt k2 pt2} (hc : X.calm = true) (hN : X.N.Nodup) (hi : X.N[i]? = some x) (hj : X.N[j]? = some y) (hij : i ≠ j)
    (hx : X.env.scope.names.lookup x = some .local) (hy : X.env.scope.names.lookup y = some .local) (ha : JA X E [a, b] ta wa)
    (hw : swappedStores [.Tuple [.Name x px, .Name y py] kt pt] (.Tuple [a, b] k2 pt2) X.env = pure (some [x, y]) := by rfl)
    (hs : swapsWithSole [.Tuple [.Name x px, .Name y py] kt pt] (.Tuple [a, b] k2 pt2) pos.line X.env = pure false := by rfl) :
    JS X E (.Assign [.Tuple [.Name x px, .Name y py] kt pt] (.Tuple [a, b] k2 pt2) pos) (tPar i j ta) (wPar i j wa) := by
  refine ⟨ps_par hc hN hi hj hij hx hy ha.pe hw hs, ?_⟩
  intro ι σ H σD S DA XX De r s h l lx
  refine ha.ab ι σ H σD S _ XX _ r s h ?_ lx
  intro ι1 ds S1 vs H1 e1 r1 p1 h1
  rcases ds with _ | ⟨d, _ | ⟨d2, _ | _⟩⟩ <;> try exact h1.elim
  obtain ⟨v, u, ev, q1, q2⟩ := repL2 p1
  subst ev
  exact ⟨v, u, rfl, l.nx ι1 _ S1 _ H1 e1 r1 (((s.mono e1).set i q1).set j q2) h1⟩
/-- name op= e -/
def wAug (i : Nat) (f : F2) (we : WE) : WS := fun D σ S X => match σ[i]? with
  | some (some d) => we σ S (fun y S1 => f d y S1 (fun z S2 => D.nx (σ.set i (some z)) S2) X) X
  | _ => False
theorem js_aug {i : Nat} {x : Str} {op : Operator} {ti : TIp} {f : F2} {pos' : Pos} (hN : X.N.Nodup) (hi : X.N[i]? = some x) (hx : Loc X.env.scope x) (he : JE X E e te we) (ho : PIp X op ti) (hf2 : AbsR2 X.K E ti f) (hf : X.fn x = true ∨ X.env.scope.names.lookup x = some .local := by first | exact .inl rfl | exact .inr rfl | assumption) :
    JS X E (.AugAssign (.Name x pos') op e pos) (tAug i te ti) (wAug i f we) := by
  refine ⟨ps_aug hN hi hx he.pe ho hf, ?_⟩
  intro ι σ H σD S DA XX De r s h l lx
  have h : (match σD[i]? with
    | some (some d) => we σD S (fun y S1 => f d y S1 (fun z S2 => DA.nx (σD.set i (some z)) S2) XX) XX
    | _ => False) := h
  split at h
  · rename_i d ed
    obtain ⟨v, h1, h2⟩ := s.2 i d ed
    refine ⟨v, h1, ?_⟩
    refine he.ab ι σ H σD S _ XX _ r s h ?_ lx
    intro ι1 y S1 u H1 e1 r1 p1 h3
    refine hf2 ι1 H1 S1 d y v u _ XX _ r1 (Rep.mono e1 _ _ h2) p1 h3 ?_ (lx.ext e1)
    intro ι2 z S2 vz H2 e2 r2 p2 h4
    exact l.nx ι2 _ S2 _ H2 (e1.trans e2) r2 ((s.mono (e1.trans e2)).set i p2) h4
  · exact h.elim
def rIAddAll : R2 := fun x y H Q => (rI0 fun i j => .int (i + j)) x y H Q ∨ (∃ i j, x = .str i ∧ y = .str j ∧ i.length + j.length ≤ sizeLine ∧ Q (.str (i ++ j)) H)
theorem ip_addAll : PIp X .Add rIAddAll := iop_add.or iop_add_str
def fIAdd : F2 := fun x y S Q _ => match x, y with
  | .int i, .int j => Q (.int (i + j)) S
  | .str i, .str j => i.length + j.length ≤ sizeLine ∧ Q (.str (i ++ j)) S
  | _, _ => False
theorem abs_iadd {K : PySem.W.Frag} : AbsR2 K E rIAddAll fIAdd := by
  intro ι H S x y v u Q XX Qh r hx hy h l lx
  cases x <;> cases y <;> try exact h.elim
  · rename_i i j
    rw [rep_int] at hx hy
    exact .inl ⟨i, j, hx, hy, l ι (.int (i + j)) S _ H Ext.refl r (rep_int.mpr rfl) h⟩
  · rename_i i j
    rw [rep_str] at hx hy
    exact .inr ⟨i, j, hx, hy, h.1, l ι (.str (i ++ j)) S _ H Ext.refl r (rep_str.mpr rfl) h.2⟩
theorem ip_subA : PIp X .Sub (rI0 fun i j => .int (i - j)) := iop_sub

/-! ### targets -/
abbrev WG := D → ASt → Sto → (ASt → Sto → Prop) → XKD → Prop
def SameOff (vs : List Nat) (σ σ' : L2.St) : Prop := σ'.length = σ.length ∧ ∀ i, i ∉ vs → σ'[i]? = σ[i]?
theorem SameOff.refl {vs : List Nat} {σ : L2.St} : SameOff vs σ σ := ⟨rfl, fun _ _ => rfl⟩
theorem SameOff.trans {vs : List Nat} {σ σ1 σ2 : L2.St} (a : SameOff vs σ σ1) (b : SameOff vs σ1 σ2) : SameOff vs σ σ2 := ⟨b.1.trans a.1, fun i h => (b.2 i h).trans (a.2 i h)⟩
def LkG (K : PySem.W.Frag) (ι : Ad) (H : Hp) (vs : List Nat) (σ : L2.St) (Q : ASt → Sto → Prop) (Qh : L2.St → Hp → Prop) : Prop :=
  ∀ ι' σD' S' σ' H', Ext K ι H ι' H' → RelS K ι' S' H' → Slots K ι' H' σD' σ' → SameOff vs σ σ' → Q σD' S' → Qh σ' H'
def AbsG (K : PySem.W.Frag) (E : XK) (vs : List Nat) (g : TG) (wg : WG) : Prop := ∀ (ι : Ad) (σ : L2.St) (H : Hp) (σD : ASt) (S : Sto) (d : D) (v : V) (Q : ASt → Sto → Prop) (X : XKD) (Qh : L2.St → Hp → Prop),
  RelS K ι S H → Slots K ι H σD σ → Rep K ι H d v → wg d σD S Q X → LkG K ι H vs σ Q Qh → LkX K ι H X E → g v σ H Qh
structure JG (X : Cx) (E : XK) (vs : List Nat) (tg : Expr) (g : TG) (wg : WG) : Prop where
  pe : PG X tg g
  ab : AbsG X.K E vs g wg
abbrev WGs := List D → ASt → Sto → (ASt → Sto → Prop) → XKD → Prop
def AbsGs (K : PySem.W.Frag) (E : XK) (vs : List Nat) (g : TGs) (wg : WGs) : Prop := ∀ (ι : Ad) (σ : L2.St) (H : Hp) (σD : ASt) (S : Sto) (ds : List D) (us : List V) (Q : ASt → Sto → Prop) (X : XKD) (Qh : L2.St → Hp → Prop),
  RelS K ι S H → Slots K ι H σD σ → RepL K ι H ds us → wg ds σD S Q X → LkG K ι H vs σ Q Qh → LkX K ι H X E → g us σ H Qh
structure JGs (X : Cx) (E : XK) (vs : List Nat) (tgs : List Expr) (g : TGs) (wg : WGs) : Prop where
  pe : PGs X tgs g
  ab : AbsGs X.K E vs g wg
def wgName (i : Nat) : WG := fun d σ S Q _ => Q (σ.set i (some d)) S
theorem jg_name {vs : List Nat} (i : Nat) {x : Str} (hN : X.N.Nodup) (hi : X.N[i]? = some x) (hx : Loc X.env.scope x) (hv : i ∈ vs := by decide) (hf : X.fn x = true ∨ X.env.scope.names.lookup x = some .local := by first | exact .inl rfl | exact .inr rfl | assumption) : JG X E vs (.Name x pos) (gName i) (wgName i) := by
  refine ⟨pg_name hN hi hx hf, ?_⟩
  intro ι σ H σD S d v Q XX Qh r s p h l lx
  refine l ι _ S _ H Ext.refl r (s.set i p) ⟨by rw [List.length_set], fun j hj => ?_⟩ h
  rw [List.getElem?_set_ne (by rintro rfl; exact hj hv)]
def wgNil : WGs := fun ds σ S Q _ => match ds with
  | [] => Q σ S
  | _ => False
def wgCons (wg : WG) (wgs : WGs) : WGs := fun ds σ S Q X => match ds with
  | d :: r => wg d σ S (fun σ' S' => wgs r σ' S' Q X) X
  | _ => False
theorem jgs_nil {vs : List Nat} : JGs X E vs [] gNil wgNil := by
  refine ⟨pgs_nil, ?_⟩
  intro ι σ H σD S ds us Q XX Qh r s p h l lx
  cases ds with
  | nil =>
    unfold RepL at p
    exact ⟨p, l ι _ S _ H Ext.refl r s SameOff.refl h⟩
  | cons => exact h.elim
theorem jgs_cons {vs : List Nat} {es : List Expr} {g : TG} {gs : TGs} {wg : WG} {wgs : WGs} (h1 : JG X E vs e g wg) (h2 : JGs X E vs es gs wgs)
    (hs : (assignEach (e :: es) X.env).map (·.2) = assign e X.env :: (assignEach es X.env).map (·.2) := by rfl) : JGs X E vs (e :: es) (gCons g gs) (wgCons wg wgs) := by
  refine ⟨pgs_cons h1.pe h2.pe hs, ?_⟩
  intro ι σ H σD S ds us Q XX Qh r s p h l lx
  cases ds with
  | nil => exact h.elim
  | cons d ds =>
    unfold RepL at p
    obtain ⟨x, rr, rfl, p1, p2⟩ := p
    refine ⟨x, rr, rfl, ?_⟩
    refine h1.ab ι σ H σD S d x _ XX _ r s p1 h ?_ lx
    intro ι1 σD1 S1 σ1 H1 e1 r1 s1 o1 q1
    refine h2.ab ι1 σ1 H1 σD1 S1 ds rr Q XX Qh r1 s1 (RepL.mono e1 _ _ p2) q1 ?_ (lx.ext e1)
    intro ι2 σD2 S2 σ2 H2 e2 r2 s2 o2 q2
    exact l ι2 σD2 S2 σ2 H2 (e1.trans e2) r2 s2 (o1.trans o2) q2
def wgTup (n : Nat) (wgs : WGs) : WG := fun d σ S Q X => match d with
  | .tup ds => ds.length = n ∧ wgs ds σ S Q X
  | _ => False
theorem jg_tup {K : PySem.W.Frag} {vs : List Nat} {es : List Expr} {k : Nat} {gs : TGs} {wgs : WGs} {n : Nat} (hc : X.calm = true) (h : JGs X E vs es gs wgs)
    (hn : (assignEach es X.env).length = n := by rfl) (hst : (assignEach es X.env).findIdx? (·.1) = none := by rfl) (hK : X.K = K := by rfl) : JG X E vs (.Tuple es k pos) (gTup K n gs) (wgTup n wgs) := by
  subst hK
  refine ⟨pg_tup hc h.pe hn hst, ?_⟩
  intro ι σ H σD S d v Q XX Qh r s p hq l lx
  cases d <;> try exact hq.elim
  rename_i ds
  obtain ⟨a, xs, rfl, q1, q2⟩ := rep_tup.mp p
  exact ⟨a, xs, rfl, q1, by rw [← RepL.length q2]; exact hq.1, h.ab ι σ H σD S ds xs Q XX Qh r s q2 hq.2 l lx⟩
/-- o[i] = .. of a cell -/
def fPut (o i d : D) (S : Sto) (Q : Sto → Prop) : Prop := match o, i with
  | .ref n, .int k => match S[n]? with
    | some (.lst ds) => match ixN ds.length k with
      | some j => Q (S.set n (.lst (ds.set j d)))
      | none => False
    | _ => False
  | _, _ => False
def wgSub (wo wi : WE) : WG := fun d σ S Q X => wo σ S (fun o S1 => wi σ S1 (fun i S2 => fPut o i d S2 (Q σ)) X) X
theorem put_of {K ι H} {S : Sto} (r : RelS K ι S H) {o i d : D} {vo vi v : V} {Q : Sto → Prop} {Qh : Hp → Prop} (h1 : Rep K ι H o vo) (h2 : Rep K ι H i vi) (h3 : Rep K ι H d v) (h : fPut o i d S Q)
    (l : ∀ S' H', Ext K ι H ι H' → RelS K ι S' H' → Q S' → Qh H') : rSetL vo vi v H Qh := by
  unfold fPut at h
  split at h
  · rename_i n k
    split at h
    · rename_i ds hc
      split at h
      · rename_i j hj
        obtain ⟨a, rfl, ha⟩ := rep_ref.mp h1
        rw [rep_int] at h2
        obtain ⟨xs, q1, q2⟩ := r.cel n _ a hc ha
        have ex := Ext.wr (o' := .lst (xs.set j v)) r (List.mem_of_getElem? ha) q1 True.intro
        refine ⟨a, xs, k, j, rfl, h2, q1, by rw [← RepL.length q2]; exact hj, ?_⟩
        exact l _ _ ex (r.wr (c := .lst (ds.set j d)) ha q1 True.intro ⟨_, upd_same, RepL.set j (RepL.mono ex _ _ q2) (Rep.mono ex _ _ h3)⟩) h
      · exact h.elim
    · exact h.elim
  · exact h.elim
theorem jg_sub {vs : List Nat} {o i : Expr} {to ti : TE} {wo wi : WE} (ho : JE X E o to wo) (hi : JE X E i ti wi)
    (ha : ∀ v, assign (.Subscript o i pos) X.env v = (do
      let ov ← holding [v] (eval o X.env)
      let iv ← holding [v, ov] (eval i X.env)
      standAt pos
      holding [v, ov, iv] (setItem ov iv v)
      release [v, ov, iv] []) := by intro _; rfl) : JG X E vs (.Subscript o i pos) (gSub to ti rSetL) (wgSub wo wi) := by
  refine ⟨pg_sub ho.pe hi.pe set_list ha, ?_⟩
  intro ι σ H σD S d v Q XX Qh r s p h l lx
  refine ho.ab ι σ H σD S _ XX _ r s h ?_ lx
  intro ι1 o1 S1 vo H1 e1 r1 p1 h1
  refine hi.ab ι1 σ H1 σD S1 _ XX _ r1 (s.mono e1) h1 ?_ (lx.ext e1)
  intro ι2 i2 S2 vi H2 e2 r2 p2 h2
  exact put_of r2 (Rep.mono e2 _ _ p1) p2 (Rep.mono (e1.trans e2) _ _ p) h2 fun S' H' ex r' q => l ι2 σD S' σ H' ((e1.trans e2).trans ex) r' (s.mono ((e1.trans e2).trans ex)) SameOff.refl q
def wAsg (we : WE) (wg : WG) : WS := fun D σ S X => we σ S (fun d S1 => wg d σ S1 D.nx X) X
theorem js_asg {vs : List Nat} {tg : Expr} {g : TG} {wg : WG} (he : JE X E e te we) (hg : JG X E vs tg g wg) (hs : swapsWithSole [tg] e pos.line X.env = pure false := by rfl) (hw : swappedStores [tg] e X.env = pure none := by rfl)
    (h1 : (assignEach [tg] X.env).map (·.2) = [assign tg X.env] := by rfl) : JS X E (.Assign [tg] e pos) (tAsg te g) (wAsg we wg) := by
  refine ⟨ps_asg he.pe hg.pe hs hw h1, ?_⟩
  intro ι σ H σD S DA XX De r s h l lx
  refine he.ab ι σ H σD S _ XX _ r s h ?_ lx
  intro ι1 d1 S1 v1 H1 e1 r1 p1 h1
  refine hg.ab ι1 σ H1 σD S1 d1 v1 _ XX _ r1 (s.mono e1) p1 h1 ?_ (lx.ext e1)
  intro ι2 σD2 S2 σ2 H2 e2 r2 s2 o2 q2
  exact l.nx ι2 σD2 S2 σ2 H2 (e1.trans e2) r2 s2 q2

/-! ### while -/
def wWhile (c : WT) (b : WS) : WS := fun D σ S X => ∃ W : Nat → ASt → Sto → Prop, (∃ m, W m σ S) ∧ ∀ m σ S, W m σ S →
  c σ S (fun k S1 => if k = true then b { nx := fun σ' S' => ∃ m', m' < m ∧ W m' σ' S', rt := D.rt, bk := D.nx, ct := fun σ' S' => ∃ m', m' < m ∧ W m' σ' S' } σ S1 X else D.nx σ S1) X
theorem js_while {c : Expr} {body : List Stmt} {tc : TT} {wc : WT} (hp : PassesOwn (model X.prog X.w) X.A X.env X.xe) (hc : JT X E c tc wc) (hb : JSs X E body t w) : JS X E (.While c body [] pos) (tWhile tc t) (wWhile wc w) := by
  refine ⟨ps_while hp hc.pe hb.pe, ?_⟩
  intro ι σ H σD S DA XX De r s h l lx
  obtain ⟨W, ⟨m0, w0⟩, turn⟩ := h
  refine ⟨fun m σ' H' => ∃ ι' σD' S', Ext X.K ι H ι' H' ∧ RelS X.K ι' S' H' ∧ Slots X.K ι' H' σD' σ' ∧ W m σD' S', ⟨m0, ι, σD, S, Ext.refl, r, s, w0⟩, ?_⟩
  rintro m σ1 H1 ⟨ι1, σD1, S1, e1, r1, s1, w1⟩
  refine hc.ab ι1 σ1 H1 σD1 S1 _ XX _ r1 s1 (turn m σD1 S1 w1) ?_ (lx.ext e1)
  intro ι2 c S2 H2 e2 r2 h2
  cases c with
  | true =>
    rw [if_pos rfl] at h2 ⊢
    refine ⟨fun σ' H' => ∃ ι' σD' S', Ext X.K ι H ι' H' ∧ RelS X.K ι' S' H' ∧ Slots X.K ι' H' σD' σ' ∧ ∃ m', m' < m ∧ W m' σD' S', fun σ' H' ⟨ι', σD', S', a, b, c, m', d, e⟩ => ⟨m', d, ι', σD', S', a, b, c, e⟩, ?_⟩
    refine hb.ab ι2 σ1 H2 σD1 S2 _ XX _ r2 (s1.mono e2) h2 ⟨?_, (l.ext (e1.trans e2)).rt, (l.ext (e1.trans e2)).nx, ?_⟩ (lx.ext (e1.trans e2))
    · intro ι3 σD3 S3 σ3 H3 e3 r3 s3 q3
      exact ⟨ι3, σD3, S3, (e1.trans e2).trans e3, r3, s3, q3⟩
    · intro ι3 σD3 S3 σ3 H3 e3 r3 s3 q3
      exact ⟨ι3, σD3, S3, (e1.trans e2).trans e3, r3, s3, q3⟩
  | false =>
    rw [if_neg Bool.false_ne_true] at h2 ⊢
    exact l.nx ι2 σD1 S2 σ1 H2 (e1.trans e2) r2 (s1.mono e2) h2
end
end AW
/-! AW7: for, comprehensions, defs, the law's entry. -/
namespace AW
open PySem PySem.Spec PyProof.Rows L2

/-- what is walked -/
inductive Src where
  | seq (ds : List D)
  | cel (n : Nat)
  | enc (n : Nat)
def Src.at : Src → Nat → Sto → Option (Option D)
  | .seq ds, i, _ => some ds[i]?
  | .cel n, i, S => match S[n]? with
    | some (.lst ds) => some ds[i]?
    | _ => none
  | .enc n, i, S => match S[n]? with
    | some (.lst ds) => some (ds[i]?.map fun d => .tup [.int (i : Nat), d])
    | _ => none
def SimIt (K : PySem.W.Frag) (ι : Ad) (H : Hp) (J : It) (src : Src) : Prop := ∀ (i : Nat) (ι' : Ad) (S' : Sto) (H' : Hp), Ext K ι H ι' H' → RelS K ι' S' H' →
  (∀ d, src.at i S' = some (some d) → J.go i H' ∧ ∀ x H'', J.yld i H' x H'' → Ext K ι' H' ι' H'' ∧ RelS K ι' S' H'' ∧ Rep K ι' H'' d x) ∧ (src.at i S' = some none → J.stop i H')
theorem SimIt.ext {K ι H ι1 H1 J src} (h : SimIt K ι H J src) (e : Ext K ι H ι1 H1) : SimIt K ι1 H1 J src := fun i ι' S' H' x r => h i ι' S' H' (e.trans x) r
abbrev WI := ASt → Sto → (Src → Sto → Prop) → XKD → Prop
def AbsI (K : PySem.W.Frag) (E : XK) (wi : TI) (w : WI) : Prop := ∀ (ι : Ad) (σ : L2.St) (H : Hp) (σD : ASt) (S : Sto) (Q : Src → Sto → Prop) (X : XKD) (R : It → Hp → Prop),
  RelS K ι S H → Slots K ι H σD σ → w σD S Q X → (∀ ι' src S' J H', Ext K ι H ι' H' → RelS K ι' S' H' → SimIt K ι' H' J src → Q src S' → R J H') → LkX K ι H X E → wi σ H R
structure JI (X : Cx) (E : XK) (tg iter : Expr) (wi : TI) (w : WI) : Prop where
  pe : PI X tg iter wi
  ab : AbsI X.K E wi w

def srcOf (S : Sto) : D → Option Src
  | .tup ds => some (.seq ds)
  | .fl ds => some (.seq ds)
  | .scr ds => some (.seq ds)
  | .ref n => match S[n]? with
    | some (.lst _) => some (.cel n)
    | _ => none
  | _ => none
def rangeD (lo : Int) (n : Nat) : List D := (List.range n).map fun k => .int (lo + (k : Nat))
theorem simL {K ι H} {a : Addr} {xs : List V} {ds : List D} (hs : ∀ ι' H', Ext K ι H ι' H' → SqL K H' a xs) (hl : RepL K ι H ds xs) : SimIt K ι H (Itl K a) (.seq ds) := by
  intro i ι' S' H' e r
  have hl' := RepL.mono e _ _ hl
  refine ⟨fun d hd => ?_, fun hd => ?_⟩
  · have hd : ds[i]? = some d := Option.some.inj hd
    obtain ⟨x, hx, px⟩ := RepL.get hl' hd
    refine ⟨⟨xs, x, hs ι' H' e, hx⟩, fun y H'' hy => ?_⟩
    obtain ⟨e1, e2⟩ := hy
    subst e1
    have := e2 xs (hs ι' _ e)
    rw [hx] at this
    cases this
    exact ⟨Ext.refl, r, px⟩
  · have hd : ds[i]? = none := Option.some.inj hd
    refine ⟨xs, hs ι' H' e, ?_⟩
    rw [← RepL.length hl]
    exact List.getElem?_eq_none_iff.mp hd
theorem simT {K ι H} {a : Addr} {xs : List V} {ds : List D} (hs : SqT K H a xs) (hl : RepL K ι H ds xs) : SimIt K ι H (Itt K a) (.seq ds) := by
  intro i ι' S' H' e r
  have hl' := RepL.mono e _ _ hl
  refine ⟨fun d hd => ?_, fun hd => ?_⟩
  · have hd : ds[i]? = some d := Option.some.inj hd
    obtain ⟨x, hx, px⟩ := RepL.get hl' hd
    refine ⟨⟨xs, x, e.tup a xs hs, hx⟩, fun y H'' hy => ?_⟩
    obtain ⟨e1, e2⟩ := hy
    subst e1
    have := e2 xs (e.tup a xs hs)
    rw [hx] at this
    cases this
    exact ⟨Ext.refl, r, px⟩
  · have hd : ds[i]? = none := Option.some.inj hd
    refine ⟨xs, e.tup a xs hs, ?_⟩
    rw [← RepL.length hl]
    exact List.getElem?_eq_none_iff.mp hd
theorem simC {K ι H} {a : Addr} {n : Nat} (h : ι.cells[n]? = some a) : SimIt K ι H (Itl K a) (.cel n) := by
  intro i ι' S' H' e r
  refine ⟨fun d hd => ?_, fun hd => ?_⟩
  · have hd : (match S'[n]? with
      | some (.lst ds) => some ds[i]?
      | _ => none) = some (some d) := hd
    split at hd
    · rename_i ds hc
      have hd : ds[i]? = some d := Option.some.inj hd
      obtain ⟨xs, q1, q2⟩ := r.cel n _ a hc (e.get h)
      obtain ⟨x, hx, px⟩ := RepL.get q2 hd
      refine ⟨⟨xs, x, SqL.of q1, hx⟩, fun y H'' hy => ?_⟩
      obtain ⟨e1, e2⟩ := hy
      subst e1
      have := e2 xs (SqL.of q1)
      rw [hx] at this
      cases this
      exact ⟨Ext.refl, r, px⟩
    · cases hd
  · have hd : (match S'[n]? with
      | some (.lst ds) => some ds[i]?
      | _ => none) = some none := hd
    split at hd
    · rename_i ds hc
      have hd : ds[i]? = none := Option.some.inj hd
      obtain ⟨xs, q1, q2⟩ := r.cel n _ a hc (e.get h)
      refine ⟨xs, SqL.of q1, ?_⟩
      rw [← RepL.length q2]
      exact List.getElem?_eq_none_iff.mp hd
    · cases hd
theorem simR {K ι H} {lo : Int} {n : Nat} : SimIt K ι H (Itr lo n) (.seq (rangeD lo n)) := by
  intro i ι' S' H' e r
  have hlen : (rangeD lo n).length = n := by unfold rangeD; simp
  refine ⟨fun d hd => ?_, fun hd => ?_⟩
  · have hd : (rangeD lo n)[i]? = some d := Option.some.inj hd
    have hi : i < n := by rw [← hlen]; exact (List.getElem?_eq_some_iff.mp hd).1
    have ed : d = .int (lo + (i : Nat)) := by
      unfold rangeD at hd
      rw [List.getElem?_map, List.getElem?_range hi] at hd
      exact (Option.some.inj hd).symm
    subst ed
    refine ⟨hi, fun y H'' hy => ?_⟩
    obtain ⟨e1, e2⟩ := hy
    subst e1
    exact ⟨Ext.refl, r, rep_int.mpr e2⟩
  · have hd : (rangeD lo n)[i]? = none := Option.some.inj hd
    have := List.getElem?_eq_none_iff.mp hd
    rw [hlen] at this
    exact this

section
variable {X : Cx} {E : XK} {tg : Expr} {pos p : Pos}
/-- a list or a tuple, walked -/
def iItems (K : PySem.W.Frag) (tl : TE) : TI := fun σ H R => tl σ H fun x H1 => ∃ a, x = .ref a ∧ (((∃ xs, SqL K H1 a xs) ∧ R (Itl K a) H1) ∨ ((∃ xs, SqT K H1 a xs) ∧ R (Itt K a) H1))
theorem pi_items {l : Expr} {tl : TE} (hl : PE X l tl) : PI X tg l (iItems X.K tl) := by
  refine ⟨fun pins s σ H R I h => ?_⟩
  refine thn (hl.run pins s σ H _ I h) fun v s1 ⟨x, H1, I1, r1, q1⟩ => ?_
  obtain ⟨a, e, q⟩ := q1
  subst e
  cases r1
  rcases q with ⟨⟨xs, hq⟩, q⟩ | ⟨⟨xs, hq⟩, q⟩
  · obtain ⟨its, rv, p, hz⟩ := I1.list hq
    refine wpAny_pyIter_list p.isList ?_
    refine ⟨s1.heap.objs.size, [s1.heap.objs.size], _, _, H1, rfl, I1.kept (t' := s1.toks) fun b o e => Heap.get?_push_of_some _ e, turn_list a _, ⟨_, Heap.get?_push_size _ rfl, rfl, rfl⟩, fun b hb => ?_, q⟩
    have e : b = s1.heap.objs.size := by simpa using hb
    subst e
    exact I1.fpOk (Nat.le_refl _) (I1.hok.fresh (Nat.le_refl _))
  · obtain ⟨its, rv, p, hz⟩ := I1.tuple hq
    refine wpAny_pyIter_tuple (show s1.heap.IsTuple a its.toArray from p) ?_
    refine ⟨s1.heap.objs.size, [s1.heap.objs.size], _, _, H1, rfl, I1.kept (t' := s1.toks) fun b o e => Heap.get?_push_of_some _ e, turn_tuple a _, ⟨_, Heap.get?_push_size _ rfl, rfl, rfl⟩, fun b hb => ?_, q⟩
    have e : b = s1.heap.objs.size := by simpa using hb
    subst e
    exact I1.fpOk (Nat.le_refl _) (I1.hok.fresh (Nat.le_refl _))
def wiItems (we : WE) : WI := fun σ S Q X => we σ S (fun d S1 => match d with
  | .tup ds => Q (.seq ds) S1
  | .fl ds => Q (.seq ds) S1
  | .ref n => match S1[n]? with
    | some (.lst _) => Q (.cel n) S1
    | _ => False
  | _ => False) X
theorem ji_items {K : PySem.W.Frag} {l : Expr} {tl : TE} {wl : WE} (hl : JE X E l tl wl) (hK : X.K = K := by rfl) : JI X E tg l (iItems K tl) (wiItems wl) := by
  subst hK
  refine ⟨pi_items hl.pe, ?_⟩
  intro ι σ H σD S Q XX R r s h l lx
  refine hl.ab ι σ H σD S _ XX _ r s h ?_ lx
  intro ι1 d1 S1 v1 H1 e1 r1 p1 h1
  cases d1 with
  | tup ds =>
    obtain ⟨a, xs, rfl, q1, q2⟩ := rep_tup.mp p1
    exact ⟨a, rfl, .inr ⟨⟨xs, q1⟩, l ι1 _ S1 _ H1 e1 r1 (simT q1 q2) h1⟩⟩
  | fl ds =>
    obtain ⟨a, xs, rfl, na, q1, q2⟩ := rep_fl.mp p1
    exact ⟨a, rfl, .inl ⟨⟨xs, SqL.of q1⟩, l ι1 _ S1 _ H1 e1 r1 (simL (fun ι' H' e => SqL.of (e.frz a xs na q1).2) q2) h1⟩⟩
  | ref n =>
    obtain ⟨a, rfl, ha⟩ := rep_ref.mp p1
    have h1 : (match S1[n]? with
      | some (.lst _) => Q (.cel n) S1
      | _ => False) := h1
    split at h1
    · rename_i ds hc
      obtain ⟨xs, q1, q2⟩ := r1.cel n _ a hc ha
      exact ⟨a, rfl, .inl ⟨⟨xs, SqL.of q1⟩, l ι1 _ S1 _ H1 e1 r1 (simC ha) h1⟩⟩
    · exact h1.elim
  | _ => exact h1.elim
def wiRange1 (w : WA) : WI := fun σ S Q X => w σ S (fun ds S1 => match ds with
  | [.int j] => (-(2 ^ 62) ≤ j ∧ j < 2 ^ 62) ∧ Q (.seq (rangeD 0 j.toNat)) S1
  | _ => False) X
def wiRange2 (w : WA) : WI := fun σ S Q X => w σ S (fun ds S1 => match ds with
  | [.int i, .int j] => (-(2 ^ 62) ≤ i ∧ i < 2 ^ 62 ∧ -(2 ^ 62) ≤ j ∧ j < 2 ^ 62) ∧ Q (.seq (rangeD i (j - i).toNat)) S1
  | _ => False) X
theorem ji_range1 {a : Expr} {ta : TA} {wa : WA} (hm : X.mg "range" = none) (ha : JA X E [a] ta wa) (hg : Gl X "range" := by rfl) (hs : starEach [a] X.env = [(false, eval a X.env)] := by rfl) : JI X E tg (.Call (.Name "range" p) [a] [] pos) (iRng1 ta) (wiRange1 wa) := by
  refine ⟨pi_range1 hg hm ha.pe hs, ?_⟩
  intro ι σ H σD S Q XX R r s h l lx
  refine ha.ab ι σ H σD S _ XX _ r s h ?_ lx
  intro ι1 ds S1 vs H1 e1 r1 p1 h1
  rcases ds with _ | ⟨d, _ | ⟨d2, r2⟩⟩
  · exact h1.elim
  · cases d <;> try exact h1.elim
    rename_i j
    obtain ⟨v, ev, q1⟩ := repL1 p1
    subst ev
    rw [rep_int] at q1
    subst q1
    exact ⟨j, rfl, h1.1.1, h1.1.2, l ι1 _ S1 _ H1 e1 r1 simR h1.2⟩
  · cases d <;> exact h1.elim
theorem ji_range2 {a b : Expr} {ta : TA} {wa : WA} (hm : X.mg "range" = none) (ha : JA X E [a, b] ta wa) (hg : Gl X "range" := by rfl) (hs : starEach [a, b] X.env = [(false, eval a X.env), (false, eval b X.env)] := by rfl) (hs2 : starEach [b] X.env = [(false, eval b X.env)] := by rfl) : JI X E tg (.Call (.Name "range" p) [a, b] [] pos) (iRng2 ta) (wiRange2 wa) := by
  refine ⟨pi_range2 hg hm ha.pe hs hs2, ?_⟩
  intro ι σ H σD S Q XX R r s h l lx
  refine ha.ab ι σ H σD S _ XX _ r s h ?_ lx
  intro ι1 ds S1 vs H1 e1 r1 p1 h1
  rcases ds with _ | ⟨d, _ | ⟨d2, _ | _⟩⟩ <;> try exact h1.elim
  · cases d <;> exact h1.elim
  · cases d <;> cases d2 <;> try exact h1.elim
    rename_i i j
    obtain ⟨v, u, ev, q1, q2⟩ := repL2 p1
    subst ev
    rw [rep_int] at q1 q2
    subst q1 q2
    exact ⟨i, j, rfl, h1.1, l ι1 _ S1 _ H1 e1 r1 simR h1.2⟩
  · cases d <;> cases d2 <;> exact h1.elim
end

/-! ### for -/
/-- over a sequence that is known -/
def forL (wg : WG) (b : WS) (D0 : AE) (X : XKD) : List D → ASt → Sto → Prop
  | [], σ, S => D0.nx σ S
  | d :: ds, σ, S => wg d σ S (fun σ1 S1 => b { nx := fun σ2 S2 => forL wg b D0 X ds σ2 S2, rt := D0.rt, bk := D0.nx, ct := fun σ2 S2 => forL wg b D0 X ds σ2 S2 } σ1 S1 X) X
/-- over a cell, as it stands at each turn -/
def forC (wg : WG) (b : WS) (D0 : AE) (X : XKD) (src : Src) : Nat → Nat → ASt → Sto → Prop
  | 0, i, σ, S => src.at i S = some none ∧ D0.nx σ S
  | k + 1, i, σ, S => match src.at i S with
    | some (some d) => wg d σ S (fun σ1 S1 => b { nx := fun σ2 S2 => forC wg b D0 X src k (i + 1) σ2 S2, rt := D0.rt, bk := D0.nx, ct := fun σ2 S2 => forC wg b D0 X src k (i + 1) σ2 S2 } σ1 S1 X) X
    | _ => False
def cellLen (S : Sto) (n : Nat) : Nat := match S[n]? with
  | some (.lst ds) => ds.length
  | _ => 0
def wFor (wi : WI) (wg : WG) (b : WS) : WS := fun D σ S X => wi σ S (fun src S1 => match src with
  | .seq ds => forL wg b D X ds σ S1
  | .cel n => forC wg b D X (.cel n) (cellLen S1 n) 0 σ S1
  | .enc n => forC wg b D X (.enc n) (cellLen S1 n) 0 σ S1) X
section
variable {X : Cx} {E : XK} {tg iter : Expr} {pos p : Pos} {body : List Stmt} {t : TS} {w : WS} {wi : TI} {wI : WI} {g : TG} {wg : WG}
theorem js_for {vs : List Nat} (hp : PassesOwn (model X.prog X.w) X.A X.env X.xe) (hc : X.calm = true) (hi : JI X E tg iter wi wI) (hg : JG X E vs tg g wg) (hb : JSs X E body t w)
    (hs : ∀ x, foldedSetIterable iter X.env x = pure x := by intro _; rfl) : JS X E (.For tg iter body [] pos) (tFor wi g t) (wFor wI wg w) := by
  refine ⟨ps_for hp hc hi.pe hg.pe hb.pe hs, ?_⟩
  intro ι σ H σD S DA XX De r s h l lx
  refine hi.ab ι σ H σD S _ XX _ r s h ?_ lx
  intro ι1 src S1 J H1 e1 r1 sim h1
  -- one turn: from the rest that is wished (Z) at turn i
  have turn : ∀ (d : D) (i : Nat) (Z : ASt → Sto → Prop) (M : L2.St → Hp → Prop) (ι2 : Ad) (σD2 : ASt) (S2 : Sto) (σ2 : L2.St) (H2 : Hp), Ext X.K ι1 H1 ι2 H2 → RelS X.K ι2 S2 H2 → Slots X.K ι2 H2 σD2 σ2 → src.at i S2 = some (some d) →
      wg d σD2 S2 (fun σ1 S1 => w { nx := Z, rt := DA.rt, bk := DA.nx, ct := Z } σ1 S1 XX) XX → (∀ ι3 σD3 S3 σ3 H3, Ext X.K ι1 H1 ι3 H3 → RelS X.K ι3 S3 H3 → Slots X.K ι3 H3 σD3 σ3 → Z σD3 S3 → M σ3 H3) →
      J.go i H2 ∧ ∀ x H', J.yld i H2 x H' → g x σ2 H' fun σ3 H3 => t { De with nx := M, ct := M, bk := De.nx } σ3 H3 := by
    intro d i Z M ι2 σD2 S2 σ2 H2 e2 r2 s2 hd hq hM
    obtain ⟨go, yl⟩ := (sim i ι2 S2 H2 e2 r2).1 d hd
    refine ⟨go, fun x H' hy => ?_⟩
    obtain ⟨e3, r3, p3⟩ := yl x H' hy
    refine hg.ab ι2 σ2 H' σD2 S2 d x _ XX _ r3 (s2.mono e3) p3 hq ?_ (lx.ext ((e1.trans e2).trans e3))
    intro ι4 σD4 S4 σ4 H4 e4 r4 s4 o4 q4
    have ee := ((e1.trans e2).trans e3).trans e4
    refine hb.ab ι4 σ4 H4 σD4 S4 _ XX _ r4 s4 q4 ⟨?_, (l.ext ee).rt, (l.ext ee).nx, ?_⟩ (lx.ext ee)
    · intro ι5 σD5 S5 σ5 H5 e5 r5 s5 q5
      exact hM ι5 σD5 S5 σ5 H5 (((e2.trans e3).trans e4).trans e5) r5 s5 q5
    · intro ι5 σD5 S5 σ5 H5 e5 r5 s5 q5
      exact hM ι5 σD5 S5 σ5 H5 (((e2.trans e3).trans e4).trans e5) r5 s5 q5
  have cells : ∀ (hsrc : ∀ ds, src ≠ .seq ds) (k : Nat), forC wg w DA XX src k 0 σD S1 → ∃ W : Nat → Nat → L2.St → Hp → Prop, (∃ m, W 0 m σ H1) ∧ ∀ i m σ H, W i m σ H →
      (J.stop i H ∧ De.nx σ H) ∨ (J.go i H ∧ ∃ N : L2.St → Hp → Prop, (∀ σ' H', N σ' H' → ∃ m', m' < m ∧ W (i + 1) m' σ' H') ∧ ∀ x H', J.yld i H x H' → g x σ H' fun σ2 H2 => t { De with nx := N, ct := N, bk := De.nx } σ2 H2) := by
    intro hsrc k hk
    refine ⟨fun i m σ' H' => ∃ ι' σD' S', Ext X.K ι1 H1 ι' H' ∧ RelS X.K ι' S' H' ∧ Slots X.K ι' H' σD' σ' ∧ forC wg w DA XX src m i σD' S', ⟨k, ι1, σD, S1, Ext.refl, r1, s.mono e1, hk⟩, ?_⟩
    rintro i m σ2 H2 ⟨ι2, σD2, S2, e2, r2, s2, h2⟩
    cases m with
    | zero =>
      obtain ⟨h3, h4⟩ := h2
      exact .inl ⟨(sim i ι2 S2 H2 e2 r2).2 h3, l.nx ι2 σD2 S2 σ2 H2 (e1.trans e2) r2 s2 h4⟩
    | succ m =>
      unfold forC at h2
      split at h2
      · rename_i d hd
        obtain ⟨go, st⟩ := turn d i _ (fun σ' H' => ∃ ι' σD' S', Ext X.K ι1 H1 ι' H' ∧ RelS X.K ι' S' H' ∧ Slots X.K ι' H' σD' σ' ∧ forC wg w DA XX src m (i + 1) σD' S') ι2 σD2 S2 σ2 H2 e2 r2 s2 hd h2
          fun ι3 σD3 S3 σ3 H3 e3 r3 s3 q3 => ⟨ι3, σD3, S3, e3, r3, s3, q3⟩
        exact .inr ⟨go, _, fun σ' H' n => ⟨m, Nat.lt_succ_self m, n⟩, st⟩
      · exact h2.elim
  cases src with
  | seq ds =>
    refine ⟨fun i m σ' H' => m = ds.length - i ∧ i ≤ ds.length ∧ ∃ ι' σD' S', Ext X.K ι1 H1 ι' H' ∧ RelS X.K ι' S' H' ∧ Slots X.K ι' H' σD' σ' ∧ forL wg w DA XX (ds.drop i) σD' S', ⟨ds.length, by omega, Nat.zero_le _, ι1, σD, S1, Ext.refl, r1, s.mono e1, by rw [List.drop_zero]; exact h1⟩, ?_⟩
    rintro i m σ2 H2 ⟨rfl, hi, ι2, σD2, S2, e2, r2, s2, h2⟩
    by_cases hlt : i < ds.length
    · rw [List.drop_eq_getElem_cons hlt] at h2
      have hd : (Src.seq ds).at i S2 = some (some ds[i]) := congrArg some (List.getElem?_eq_getElem hlt)
      obtain ⟨go, st⟩ := turn ds[i] i _ (fun σ' H' => ∃ ι' σD' S', Ext X.K ι1 H1 ι' H' ∧ RelS X.K ι' S' H' ∧ Slots X.K ι' H' σD' σ' ∧ forL wg w DA XX (ds.drop (i + 1)) σD' S') ι2 σD2 S2 σ2 H2 e2 r2 s2 hd h2
        fun ι3 σD3 S3 σ3 H3 e3 r3 s3 q3 => ⟨ι3, σD3, S3, e3, r3, s3, q3⟩
      exact .inr ⟨go, _, fun σ' H' n => ⟨ds.length - (i + 1), by omega, rfl, hlt, n⟩, st⟩
    · have ei : i = ds.length := by omega
      subst ei
      rw [List.drop_length] at h2
      exact .inl ⟨(sim _ ι2 S2 H2 e2 r2).2 (congrArg some (List.getElem?_eq_none_iff.mpr (Nat.le_refl _))), l.nx ι2 σD2 S2 σ2 H2 (e1.trans e2) r2 s2 h2⟩
  | cel n => exact cells (fun _ z => nomatch z) _ h1
  | enc n => exact cells (fun _ z => nomatch z) _ h1
end
end AW
/-! AW8: comprehensions. -/
namespace AW
open PySem PySem.Spec PyProof.Rows L2

def wipeD (σ : ASt) : List Nat → ASt
  | [] => σ
  | v :: vs => (wipeD σ vs).set v none
theorem wipe_get {σ : L2.St} {i : Nat} : ∀ {vs : List Nat}, i ∉ vs → (wipe σ vs)[i]? = σ[i]?
  | [], _ => rfl
  | v :: vs, h => by
    unfold wipe
    rw [List.getElem?_set_ne (fun e => h (by rw [e]; exact List.mem_cons_self))]
    exact wipe_get fun z => h (List.mem_cons_of_mem _ z)
theorem wipe_none {σ : L2.St} {i : Nat} : ∀ {vs : List Nat}, i ∈ vs → i < σ.length → (wipe σ vs)[i]? = some none
  | [], h, _ => by cases h
  | v :: vs, h, hl => by
    unfold wipe
    by_cases e : v = i
    · subst e
      rw [List.getElem?_set_self (by rw [wipe_length]; exact hl)]
    · rw [List.getElem?_set_ne e]
      exact wipe_none ((List.mem_cons.mp h).resolve_left fun z => e z.symm) hl
theorem SameOff.wipe {vs : List Nat} {σ σ2 : L2.St} (h : SameOff vs (wipe σ vs) σ2) : L2.wipe σ2 vs = L2.wipe σ vs := by
  have hl : σ2.length = σ.length := by rw [h.1, wipe_length]
  refine List.ext_getElem? fun i => ?_
  by_cases hi : i ∈ vs
  · by_cases hlt : i < σ.length
    · rw [wipe_none hi hlt, wipe_none hi (by rw [hl]; exact hlt)]
    · rw [List.getElem?_eq_none (by rw [wipe_length]; omega), List.getElem?_eq_none (by rw [wipe_length]; omega)]
  · rw [wipe_get hi, h.2 i hi, wipe_get hi]
theorem Slots.wipe {K ι H} {σD : ASt} {σ : L2.St} (s : Slots K ι H σD σ) : ∀ vs : List Nat, Slots K ι H (wipeD σD vs) (L2.wipe σ vs)
  | [] => s
  | v :: vs => by
    have q := Slots.wipe s vs
    unfold wipeD L2.wipe
    refine ⟨by rw [List.length_set, List.length_set]; exact q.1, fun i d h => ?_⟩
    by_cases e : v = i
    · subst e
      by_cases hl : v < (wipeD σD vs).length
      · rw [List.getElem?_set_self hl] at h; cases h
      · rw [List.getElem?_eq_none (by rw [List.length_set]; omega)] at h; cases h
    · rw [List.getElem?_set_ne e] at h
      rw [List.getElem?_set_ne e]
      exact q.2 i d h

structure JTs (X : Cx) (E : XK) (ifs : List Expr) (t : TT) (w : WT) : Prop where
  pe : PTs X ifs t
  ab : AbsT X.K E t w
def wYes : WT := fun _ S Q _ => Q true S
theorem jts_nil {X : Cx} {E : XK} : JTs X E [] tYes wYes := ⟨pts_nil, fun ι σ H σD S Q XX Qh r s h l lx => l ι true S H Ext.refl r h⟩
theorem jts_one {X : Cx} {E : XK} {c : Expr} {t : TT} {w : WT} (h : JT X E c t w) : JTs X E [c] t w := ⟨pts_one h.pe, h.ab⟩

/-- one turn of a comprehension; the rest is rest -/
@[reducible] def lcTurn (wg : WG) (wt : WT) (we : WE) (σ : ASt) (d : D) (acc : List D) (S : Sto) (rest : List D → Sto → Prop) : Prop :=
  wg d σ S (fun σ2 S2 => wt σ2 S2 (fun b S3 => if b = true then we σ2 S3 (fun y S4 => rest (acc ++ [y]) S4) X0 else rest acc S3) X0) X0
def lcL (wg : WG) (wt : WT) (we : WE) (σ : ASt) (Q : List D → Sto → Prop) : List D → List D → Sto → Prop
  | [], acc, S => Q acc S
  | d :: ds, acc, S => lcTurn wg wt we σ d acc S fun acc' S' => lcL wg wt we σ Q ds acc' S'
def lcC (wg : WG) (wt : WT) (we : WE) (σ : ASt) (Q : List D → Sto → Prop) (src : Src) : Nat → Nat → List D → Sto → Prop
  | 0, i, acc, S => src.at i S = some none ∧ Q acc S
  | k + 1, i, acc, S => match src.at i S with
    | some (some d) => lcTurn wg wt we σ d acc S fun acc' S' => lcC wg wt we σ Q src k (i + 1) acc' S'
    | _ => False
def wLcA (wi : WI) (wg : WG) (wt : WT) (we : WE) (vs : List Nat) (fin : List D → Sto → VKD → Prop) : WE := fun σ S Q X => wi σ S (fun src S1 => match src with
  | .seq ds => ds.length ≤ sizeLine ∧ lcL wg wt we (wipeD σ vs) (fun acc S2 => fin acc S2 Q) ds [] S1
  | .cel n => cellLen S1 n ≤ sizeLine ∧ lcC wg wt we (wipeD σ vs) (fun acc S2 => fin acc S2 Q) (.cel n) (cellLen S1 n) 0 [] S1
  | .enc n => cellLen S1 n ≤ sizeLine ∧ lcC wg wt we (wipeD σ vs) (fun acc S2 => fin acc S2 Q) (.enc n) (cellLen S1 n) 0 [] S1) X
/-- a list that stays as it is; a cell -/
@[reducible] def finF : List D → Sto → VKD → Prop := fun acc S Q => Q (.fl acc) S
@[reducible] def finR : List D → Sto → VKD → Prop := fun acc S Q => Q (.ref S.length) (S ++ [.lst acc])
def wLc (wi : WI) (wg : WG) (wt : WT) (we : WE) (vs : List Nat) : WE := wLcA wi wg wt we vs finF
def wLcR (wi : WI) (wg : WG) (wt : WT) (we : WE) (vs : List Nat) : WE := wLcA wi wg wt we vs finR

/-- what the list made may be taken as -/
def FinOk (K : PySem.W.Frag) (fin : List D → Sto → VKD → Prop) : Prop := ∀ (ι ι' : Ad) (H H' : Hp) (S S' : Sto) (p : Addr) (acc : List D) (xs : List V) (Q : VKD) (Qh : VK), RelS K ι S H → H p = none → Ext K ι H ι' H' → RelS K ι' S' H' → p ∈ ι'.hid →
  H' p = some (.lst xs) → RepL K ι' H' acc xs → fin acc S' Q → LkE K ι H Q Qh → Qh (.ref p) H'
theorem fin_fl {K : PySem.W.Frag} : FinOk K finF := by
  intro ι ι' H H' S S' p acc xs Q Qh r0 n e r hp h hl q l
  have h2 : ∀ a ∈ ι.hid, a ∈ ι'.hid := e.hid
  refine l ⟨ι'.cells, ι.hid⟩ (.fl acc) S' (.ref p) H' (e.bare (fun _ z => z) h2) (r.bare h2) (rep_fl.mpr ⟨p, xs, rfl, fun z => ?_, h, RepL.bare h2 hl⟩) q
  rcases z with z | z
  · exact (r.hid p hp).1 z
  · obtain ⟨u, y⟩ := (r0.hid p z).2
    rw [n] at y; cases y
theorem fin_cell {K : PySem.W.Frag} : FinOk K finR := by
  intro ι ι' H H' S S' p acc xs Q Qh r0 n e r hp h hl q l
  have h2 : ∀ a ∈ ι.hid, a ∈ ι'.hid := e.hid
  have np : p ∉ ι.hid := fun z => by
    obtain ⟨u, y⟩ := (r0.hid p z).2
    rw [n] at y; cases y
  have e1 := e.bare (fun _ z => z) h2
  have r1 := r.bare h2
  have pc : p ∉ ι'.cells := (r.hid p hp).1
  -- from the bare state to the one with p as a cell
  have e2 : Ext0 K ι' H' ⟨ι'.cells ++ [p], ι.hid⟩ H' := ⟨fun _ _ z => z, fun b ys nb z => ⟨fun y => by
    rcases y with y | y
    · rcases List.mem_append.mp y with y | y
      · exact nb (.inl y)
      · rw [List.mem_singleton.mp y] at nb; exact nb (.inr hp)
    · exact nb (.inr (h2 b y)), z⟩, fun _ _ z => z, List.prefix_append _ _⟩
  refine l ⟨ι'.cells ++ [p], ι.hid⟩ (.ref S'.length) (S' ++ [.lst acc]) (.ref p) H' ⟨e.toExt0.trans e2, fun _ z => z, e.hidk⟩ ⟨?_, ?_, fun a ha => ⟨fun z => ?_, (r.hid a (h2 a ha)).2⟩, fun m c a q1 q2 => ?_⟩ (rep_ref.mpr ⟨p, rfl, ?_⟩) q
  · show (ι'.cells ++ [p]).length = _
    rw [List.length_append, List.length_append, r.len]; rfl
  · show (ι'.cells ++ [p]).Nodup
    rw [List.nodup_append]
    exact ⟨r.nd, by simp, fun a ha b hb => by rintro rfl; exact pc (by rw [List.mem_singleton.mp hb] at ha; exact ha)⟩
  · rcases List.mem_append.mp z with z | z
    · exact (r.hid a (h2 a ha)).1 z
    · exact np (by rw [← List.mem_singleton.mp z]; exact ha)
  · have q2 : (ι'.cells ++ [p])[m]? = some a := q2
    by_cases hm : m < S'.length
    · rw [List.getElem?_append_left hm] at q1
      rw [List.getElem?_append_left (by rw [r.len]; exact hm)] at q2
      exact (r.cel m c a q1 q2).mono0 e2 fun _ z => z
    · have em : m = S'.length := by
        have := (List.getElem?_eq_some_iff.mp q1).1
        rw [List.length_append, List.length_singleton] at this
        omega
      subst em
      rw [List.getElem?_append_right (Nat.le_refl _), Nat.sub_self] at q1
      rw [List.getElem?_append_right (by rw [r.len]; exact Nat.le_refl _), r.len, Nat.sub_self] at q2
      cases q1
      cases q2
      exact ⟨xs, h, RepL.mono0 e2 _ _ hl⟩
  · show (ι'.cells ++ [p])[S'.length]? = some p
    rw [List.getElem?_append_right (by rw [r.len]; exact Nat.le_refl _), r.len, Nat.sub_self]
    rfl

theorem abs_lc {K : PySem.W.Frag} {E : XK} {wi : TI} {wI : WI} {g : TG} {wg : WG} {tt : TT} {wt : WT} {te : TE} {we : WE} {vs : List Nat} {fin : List D → Sto → VKD → Prop} (hfin : FinOk K fin)
    (hi : AbsI K E wi wI) (hg : AbsG K E0 vs g wg) (ht : AbsT K E0 tt wt) (he : AbsE K E0 te we) : AbsE K E (tLc wi g tt te vs) (wLcA wI wg wt we vs fin) := by
  intro ι σ H σD S Q XX Qh r s h l lx
  refine hi ι σ H σD S _ XX _ r s h ?_ lx
  intro ι1 src S1 J H1 e1 r1 sim h1 p np
  have s1 := (s.mono e1).wipe vs
  -- the state of the loop
  let Inv (i : Nat) (Z : List D → Sto → Prop) (H' : Hp) : Prop := ∃ ι' S' acc xs, Ext K ι1 H1 ι' H' ∧ RelS K ι' S' H' ∧ p ∈ ι'.hid ∧ H' p = some (.lst xs) ∧ RepL K ι' H' acc xs ∧ acc.length ≤ i ∧ Z acc S'
  have start : ∀ Z : List D → Sto → Prop, Z [] S1 → Inv 0 Z (upd H1 p (.lst [])) := fun Z z => ⟨ι1.hide p, S1, [], [], Ext.hide r1 np, r1.hide np, List.mem_cons_self, upd_same, RepL.nil, Nat.le_refl _, z⟩
  have turn : ∀ (d : D) (i : Nat) (Z : List D → Sto → Prop) (H2 : Hp), i < sizeLine → Inv i (fun acc S' => src.at i S' = some (some d) ∧ lcTurn wg wt we (wipeD σD vs) d acc S' Z) H2 →
      J.go i H2 ∧ ∀ x H', J.yld i H2 x H' → g x (wipe σ vs) H' fun σ2 H2 => wipe σ2 vs = wipe σ vs ∧ tt σ2 H2 fun b H3 =>
        if b = true then te σ2 H3 fun y H4 => ∃ acc, H4 p = some (.lst acc) ∧ acc.length < sizeLine ∧ Inv (i + 1) Z (upd H4 p (.lst (acc ++ [y]))) else Inv (i + 1) Z H3 := by
    rintro d i Z H2 hlt ⟨ι2, S2, acc, xs, e2, r2, hp2, hx2, hl2, ha, hd, q2⟩
    obtain ⟨go, yl⟩ := (sim i ι2 S2 H2 e2 r2).1 d hd
    refine ⟨go, fun x H' hy => ?_⟩
    obtain ⟨e3, r3, p3⟩ := yl x H' hy
    refine hg ι2 _ H' (wipeD σD vs) S2 d x _ X0 _ r3 ((s1.mono e2).mono e3) p3 q2 ?_ LkX.none
    intro ι4 σD4 S4 σ4 H4 e4 r4 s4 o4 q4
    refine ⟨o4.wipe, ?_⟩
    refine ht ι4 σ4 H4 σD4 S4 _ X0 _ r4 s4 q4 ?_ LkX.none
    intro ι5 b S5 H5 e5 r5 q5
    have e25 := (e3.trans e4).trans e5
    have hp5 : p ∈ ι5.hid := e25.hid p hp2
    have hx5 : H5 p = some (.lst xs) := (e25.hidk p hp2).trans hx2
    cases b with
    | false =>
      rw [if_neg Bool.false_ne_true] at q5 ⊢
      exact ⟨ι5, S5, acc, xs, e2.trans e25, r5, hp5, hx5, RepL.mono e25 _ _ hl2, by omega, q5⟩
    | true =>
      rw [if_pos rfl] at q5 ⊢
      refine he ι5 σ4 H5 σD4 S5 _ X0 _ r5 (s4.mono e5) q5 ?_ LkX.none
      intro ι6 y S6 vy H6 e6 r6 p6 q6
      have hp6 : p ∈ ι6.hid := e6.hid p hp5
      have hx6 : H6 p = some (.lst xs) := (e6.hidk p hp5).trans hx5
      have e26 := e25.trans e6
      have len := RepL.length hl2
      refine ⟨xs, hx6, by omega, ι6, S6, acc ++ [y], xs ++ [vy], (e2.trans e26).hidw r1 np hp6 hx6, r6.hidw hp6 hx6, hp6, upd_same, ?_, by rw [List.length_append, List.length_singleton]; omega, q6⟩
      have w := Ext0.hidw (K := K) (o := .lst (xs ++ [vy])) hp6 hx6
      exact RepL.append (RepL.mono0 w _ _ (RepL.mono e26 _ _ hl2)) (RepL.cons (Rep.mono0 w _ _ p6) RepL.nil)
  have done : ∀ (i : Nat) (H2 : Hp), Inv i (fun acc S' => src.at i S' = some none ∧ fin acc S' Q) H2 → J.stop i H2 ∧ Qh (.ref p) H2 := by
    rintro i H2 ⟨ι2, S2, acc, xs, e2, r2, hp2, hx2, hl2, ha, hd, q2⟩
    exact ⟨(sim i ι2 S2 H2 e2 r2).2 hd, hfin ι1 ι2 H1 H2 S1 S2 p acc xs Q Qh r1 np e2 r2 hp2 hx2 hl2 q2 (l.ext e1)⟩
  have cells : ∀ k, k ≤ sizeLine → lcC wg wt we (wipeD σD vs) (fun acc S2 => fin acc S2 Q) src k 0 [] S1 → ∃ W : Nat → Nat → Hp → Prop, (∃ m, W 0 m (upd H1 p (.lst []))) ∧ ∀ i m H, W i m H →
      (J.stop i H ∧ Qh (.ref p) H) ∨ (J.go i H ∧ ∃ Nx : Hp → Prop, (∀ H', Nx H' → ∃ m', m' < m ∧ W (i + 1) m' H') ∧ ∀ x H', J.yld i H x H' → g x (wipe σ vs) H' fun σ2 H2 => wipe σ2 vs = wipe σ vs ∧ tt σ2 H2 fun b H3 =>
        if b = true then te σ2 H3 fun y H4 => ∃ acc, H4 p = some (.lst acc) ∧ acc.length < sizeLine ∧ Nx (upd H4 p (.lst (acc ++ [y]))) else Nx H3) := by
    intro k hk hq
    refine ⟨fun i m H' => m + i = k ∧ Inv i (fun acc S' => lcC wg wt we (wipeD σD vs) (fun acc S2 => fin acc S2 Q) src m i acc S') H', ⟨k, rfl, start _ hq⟩, ?_⟩
    rintro i m H2 ⟨hm, ι2, S2, acc, xs, e2, r2, hp2, hx2, hl2, ha, q2⟩
    cases m with
    | zero => exact .inl (done i H2 ⟨ι2, S2, acc, xs, e2, r2, hp2, hx2, hl2, ha, q2⟩)
    | succ m =>
      unfold lcC at q2
      split at q2
      · rename_i d hd
        obtain ⟨go, st⟩ := turn d i _ H2 (by omega) ⟨ι2, S2, acc, xs, e2, r2, hp2, hx2, hl2, ha, hd, q2⟩
        exact .inr ⟨go, _, fun H' n => ⟨m, Nat.lt_succ_self m, by omega, n⟩, st⟩
      · exact q2.elim
  cases src with
  | seq ds =>
    obtain ⟨hz, hq⟩ := h1
    refine ⟨fun i m H' => m = ds.length - i ∧ i ≤ ds.length ∧ Inv i (fun acc S' => lcL wg wt we (wipeD σD vs) (fun acc S2 => fin acc S2 Q) (ds.drop i) acc S') H', ⟨ds.length, by omega, Nat.zero_le _, start _ (by rw [List.drop_zero]; exact hq)⟩, ?_⟩
    rintro i m H2 ⟨rfl, hi2, ι2, S2, acc, xs, e2, r2, hp2, hx2, hl2, ha, q2⟩
    by_cases hlt : i < ds.length
    · rw [List.drop_eq_getElem_cons hlt] at q2
      have hd : (Src.seq ds).at i S2 = some (some ds[i]) := congrArg some (List.getElem?_eq_getElem hlt)
      obtain ⟨go, st⟩ := turn ds[i] i _ H2 (by omega) ⟨ι2, S2, acc, xs, e2, r2, hp2, hx2, hl2, ha, hd, q2⟩
      exact .inr ⟨go, _, fun H' n => ⟨ds.length - (i + 1), by omega, rfl, hlt, n⟩, st⟩
    · have ei : i = ds.length := by omega
      subst ei
      rw [List.drop_length] at q2
      exact .inl (done _ H2 ⟨ι2, S2, acc, xs, e2, r2, hp2, hx2, hl2, ha, congrArg some (List.getElem?_eq_none_iff.mpr (Nat.le_refl _)), q2⟩)
  | cel n => exact cells _ h1.1 h1.2
  | enc n => exact cells _ h1.1 h1.2
section
variable {X : Cx} {E : XK} {elt tg iter : Expr} {ifs : List Expr} {scope : Scope} {own : List (Str × Nat)} {pos : Pos} {wi : TI} {wI : WI} {g : TG} {wg : WG} {tt : TT} {wt : WT} {te : TE} {we : WE}
theorem je_lcA {fin : List D → Sto → VKD → Prop} (hfin : FinOk X.K fin) (hc : X.calm = true) (hN : X.N.Nodup) (hi : JI X E tg iter wi wI) (ok : BlkOk X.N X.env.scope scope own)
    (hg : ∀ (s : Shared) (H : Hp) (C : Addr) (cl : List (Str × Addr)) (fp : List Addr), JG (X.blk s H scope (compEnvC scope cl C X.env) fp) E0 (own.map (·.2)) tg g wg) (ht : ∀ (s : Shared) (H : Hp) (C : Addr) (cl : List (Str × Addr)) (fp : List Addr), JTs (X.blk s H scope (compEnvC scope cl C X.env) fp) E0 ifs tt wt)
    (he : ∀ (s : Shared) (H : Hp) (C : Addr) (cl : List (Str × Addr)) (fp : List Addr), JE (X.blk s H scope (compEnvC scope cl C X.env) fp) E0 elt te we) (s0 : Shared) (hs : ∀ x, foldedSetIterable iter X.env x = pure x := by intro _; rfl) :
    JE X E (.ListComp elt [⟨tg, iter, ifs, 0⟩] scope pos) (tLc wi g tt te (own.map (·.2))) (wLcA wI wg wt we (own.map (·.2)) fin) :=
  ⟨pe_lc hc hN hi.pe ok (fun s H C cl fp => (hg s H C cl fp).pe) (fun s H C cl fp => (ht s H C cl fp).pe) (fun s H C cl fp => (he s H C cl fp).pe) hs,
    abs_lc hfin hi.ab (hg s0 (fun _ => none) 0 [] []).ab (ht s0 (fun _ => none) 0 [] []).ab (he s0 (fun _ => none) 0 [] []).ab⟩
theorem js_setLcA {fin : List D → Sto → VKD → Prop} (hfin : FinOk X.K fin) {i : Nat} {y : Str} {py spos : Pos} (hc : X.calm = true) (hN : X.N.Nodup) (hy : X.N[i]? = some y) (hyl : X.env.scope.names.lookup y = some .local)
    (hsw : swapsWith (.ListComp elt [⟨tg, iter, ifs, 0⟩] scope pos) (some (.Name y py)) spos.line X.env = pure true) (hi : JI X E tg iter wi wI) (ok : BlkOk X.N X.env.scope scope own)
    (hg : ∀ (s : Shared) (H : Hp) (C : Addr) (cl : List (Str × Addr)) (fp : List Addr), JG (X.blk s H scope (compEnvC scope cl C X.env) fp) E0 (own.map (·.2)) tg g wg) (ht : ∀ (s : Shared) (H : Hp) (C : Addr) (cl : List (Str × Addr)) (fp : List Addr), JTs (X.blk s H scope (compEnvC scope cl C X.env) fp) E0 ifs tt wt)
    (he : ∀ (s : Shared) (H : Hp) (C : Addr) (cl : List (Str × Addr)) (fp : List Addr), JE (X.blk s H scope (compEnvC scope cl C X.env) fp) E0 elt te we) (s0 : Shared) (hs : ∀ x, foldedSetIterable iter X.env x = pure x := by intro _; rfl) :
    JS X E (.Assign [.Name y py] (.ListComp elt [⟨tg, iter, ifs, 0⟩] scope pos) spos) (tAsg (tLc wi g tt te (own.map (·.2))) (gName i)) (wSet i (wLcA wI wg wt we (own.map (·.2)) fin)) := by
  refine ⟨ps_setLc hc hN hy hyl hsw hi.pe ok (fun s H C cl fp => (hg s H C cl fp).pe) (fun s H C cl fp => (ht s H C cl fp).pe) (fun s H C cl fp => (he s H C cl fp).pe) hs, ?_⟩
  have ab := abs_lc hfin hi.ab (hg s0 (fun _ => none) 0 [] []).ab (ht s0 (fun _ => none) 0 [] []).ab (he s0 (fun _ => none) 0 [] []).ab
  intro ι σ H σD S DA XX De r s h l lx
  refine ab ι σ H σD S _ XX _ r s h ?_ lx
  intro ι1 d1 S1 v1 H1 e1 r1 p1 h1
  exact l.nx ι1 _ S1 _ H1 e1 r1 ((s.mono e1).set i p1) h1
end
end AW
/-! AW9: defs by their bodies; the law's entry. -/
namespace AW
open PySem PySem.Spec PyProof.Rows L2

/-! ### cells that are left behind -/
mutual
def D.under (k : Nat) : D → Bool
  | .tup ds => belowL k ds
  | .fl ds => belowL k ds
  | .scr ds => belowL k ds
  | .ref n => decide (n < k)
  | _ => true
def belowL (k : Nat) : List D → Bool
  | [] => true
  | d :: ds => d.under k && belowL k ds
end
def belowF (k : Nat) : List (Str × D) → Bool
  | [] => true
  | d :: ds => d.2.under k && belowF k ds
def Cel.under (k : Nat) : Cel → Bool
  | .lst ds => belowL k ds
  | .ins _ fs => belowF k fs
/-- all cells speak of cells of the store -/
def Closed (S : Sto) : Prop := ∀ c ∈ S, c.under S.length = true
mutual
/-- the cells from k on are seen as lists that stay as they are -/
inductive Frz (S : Sto) (k : Nat) : D → D → Prop where
  | same {d : D} : d.under k = true → Frz S k d d
  | cell {n : Nat} {ds es : List D} : k ≤ n → S[n]? = some (.lst ds) → FrzL S k ds es → Frz S k (.ref n) (.fl es)
  | tup {ds es : List D} : FrzL S k ds es → Frz S k (.tup ds) (.tup es)
  | fl {ds es : List D} : FrzL S k ds es → Frz S k (.fl ds) (.fl es)
inductive FrzL (S : Sto) (k : Nat) : List D → List D → Prop where
  | nil : FrzL S k [] []
  | cons {d e : D} {ds es : List D} : Frz S k d e → FrzL S k ds es → FrzL S k (d :: ds) (e :: es)
end
theorem FrzL.same {S : Sto} {k : Nat} : ∀ {ds : List D}, belowL k ds = true → FrzL S k ds ds
  | [], _ => .nil
  | d :: ds, h => by
    unfold belowL at h
    rw [Bool.and_eq_true] at h
    exact .cons (.same h.1) (FrzL.same h.2)
def Gives (Q : VKD) (m : Nat) (d : D) (S' : Sto) : Prop := Q d S' ∨ ∃ S'' d' g, S' = S'' ++ g ∧ m ≤ S''.length ∧ Closed S'' ∧ Frz S' S''.length d d' ∧ Q d' S''
def GivesX (X : XKD) (m : Nat) (c : Value) (fo : Option (List (Str × D))) (S' : Sto) : Prop := X c fo S' ∨ (fo = none ∧ ∃ S'' g, S' = S'' ++ g ∧ m ≤ S''.length ∧ Closed S'' ∧ X c none S'')
section
variable {K : PySem.W.Frag} {ι ι1 : Ad} {H H1 : Hp} {S S1 : Sto}
abbrev Ad.cut (ι : Ad) (k : Nat) : Ad := ⟨ι.cells.take k, ι.hid⟩
theorem cut_in {a : Addr} {k : Nat} (h : a ∈ ι.cut k) : a ∈ ι := h.elim (fun z => .inl (List.mem_of_mem_take z)) .inr
mutual
theorem Rep.cut {k : Nat} : ∀ (d : D) (v : V), d.under k = true → Rep K ι H d v → Rep K (ι.cut k) H d v
  | .non, _, _, h => by rw [rep_non] at h ⊢; exact h
  | .bl _, _, _, h => by rw [rep_bl] at h ⊢; exact h
  | .int _, _, _, h => by rw [rep_int] at h ⊢; exact h
  | .str _, _, _, h => by rw [rep_str] at h ⊢; exact h
  | .tup ds, _, b, h => by
    rw [rep_tup] at h ⊢
    obtain ⟨a, xs, e1, e2, e3⟩ := h
    exact ⟨a, xs, e1, e2, RepL.cut ds xs (by unfold D.under at b; exact b) e3⟩
  | .fl ds, _, b, h => by
    rw [rep_fl] at h ⊢
    obtain ⟨a, xs, e1, n, e2, e3⟩ := h
    exact ⟨a, xs, e1, fun z => n (cut_in z), e2, RepL.cut ds xs (by unfold D.under at b; exact b) e3⟩
  | .scr ds, _, b, h => by
    rw [rep_scr] at h ⊢
    obtain ⟨a, xs, e1, e2, e3⟩ := h
    exact ⟨a, xs, e1, e2, RepL.cut ds xs (by unfold D.under at b; exact b) e3⟩
  | .ref n, _, b, h => by
    rw [rep_ref] at h ⊢
    obtain ⟨a, e1, e2⟩ := h
    refine ⟨a, e1, ?_⟩
    unfold D.under at b
    show (ι.cells.take k)[n]? = some a
    rw [List.getElem?_take_of_lt (of_decide_eq_true b)]
    exact e2
  | .exc _, _, _, h => by unfold Rep at h ⊢; exact h
theorem RepL.cut {k : Nat} : ∀ (ds : List D) (xs : List V), belowL k ds = true → RepL K ι H ds xs → RepL K (ι.cut k) H ds xs
  | [], _, _, h => by unfold RepL at h ⊢; exact h
  | d :: ds, _, b, h => by
    unfold RepL at h ⊢
    unfold belowL at b
    rw [Bool.and_eq_true] at b
    obtain ⟨x, r, e1, e2, e3⟩ := h
    exact ⟨x, r, e1, Rep.cut d x b.1 e2, RepL.cut ds r b.2 e3⟩
end
theorem RepF.cut {k : Nat} : ∀ (ds : List (Str × D)) (xs : List (Str × V)), belowF k ds = true → RepF K ι H ds xs → RepF K (ι.cut k) H ds xs
  | [], _, _, h => by unfold RepF at h ⊢; exact h
  | d :: ds, _, b, h => by
    unfold RepF at h ⊢
    unfold belowF at b
    rw [Bool.and_eq_true] at b
    obtain ⟨x, r, e1, e2, e3⟩ := h
    exact ⟨x, r, e1, Rep.cut _ x b.1 e2, RepF.cut ds r b.2 e3⟩
mutual
theorem Rep.below : ∀ (d : D) (v : V), Rep K ι H d v → d.under ι.cells.length = true
  | .non, _, _ => by unfold D.under; rfl
  | .bl _, _, _ => by unfold D.under; rfl
  | .int _, _, _ => by unfold D.under; rfl
  | .str _, _, _ => by unfold D.under; rfl
  | .tup ds, _, h => by
    rw [rep_tup] at h
    obtain ⟨a, xs, e1, e2, e3⟩ := h
    unfold D.under
    exact RepL.below ds xs e3
  | .fl ds, _, h => by
    rw [rep_fl] at h
    obtain ⟨a, xs, e1, n, e2, e3⟩ := h
    unfold D.under
    exact RepL.below ds xs e3
  | .scr ds, _, h => by
    rw [rep_scr] at h
    obtain ⟨a, xs, e1, e2, e3⟩ := h
    unfold D.under
    exact RepL.below ds xs e3
  | .ref n, _, h => by
    rw [rep_ref] at h
    obtain ⟨a, e1, e2⟩ := h
    unfold D.under
    exact decide_eq_true (List.getElem?_eq_some_iff.mp e2).1
  | .exc _, _, _ => by unfold D.under; rfl
theorem RepL.below : ∀ (ds : List D) (xs : List V), RepL K ι H ds xs → belowL ι.cells.length ds = true
  | [], _, _ => by unfold belowL; rfl
  | d :: ds, _, h => by
    unfold RepL at h
    obtain ⟨x, r, e1, e2, e3⟩ := h
    unfold belowL
    rw [Rep.below d x e2, RepL.below ds r e3]; rfl
end
theorem RepF.below : ∀ (ds : List (Str × D)) (xs : List (Str × V)), RepF K ι H ds xs → belowF ι.cells.length ds = true
  | [], _, _ => by unfold belowF; rfl
  | d :: ds, _, h => by
    unfold RepF at h
    obtain ⟨x, r, e1, e2, e3⟩ := h
    unfold belowF
    rw [Rep.below _ x e2, RepF.below ds r e3]; rfl
theorem RelS.closed (r : RelS K ι S H) : Closed S := fun c hc => by
  obtain ⟨n, hn⟩ := List.getElem?_of_mem hc
  obtain ⟨a, h1, h2⟩ := r.at hn
  rw [← r.len]
  cases c with
  | lst ds => obtain ⟨xs, _, h3⟩ := h2; exact RepL.below ds xs h3
  | ins C fs => obtain ⟨dx, xs, _, h3⟩ := h2; exact RepF.below fs xs h3
theorem RelS.cut {g : Sto} (r : RelS K ι (S ++ g) H) (c : Closed S) : RelS K (ι.cut S.length) S H := by
  have hl : S.length ≤ ι.cells.length := by rw [r.len, List.length_append]; omega
  refine ⟨by show (ι.cells.take S.length).length = _; rw [List.length_take]; omega, r.nd.sublist (List.take_sublist _ _), fun a ha => ⟨fun z => (r.hid a ha).1 (List.mem_of_mem_take z), (r.hid a ha).2⟩, fun n x a h1 h2 => ?_⟩
  have hn : n < S.length := (List.getElem?_eq_some_iff.mp h1).1
  have h2 : (ι.cells.take S.length)[n]? = some a := h2
  rw [List.getElem?_take_of_lt hn] at h2
  have q := r.cel n x a (by rw [List.getElem?_append_left hn]; exact h1) h2
  have b := c x (List.mem_of_getElem? h1)
  cases x with
  | lst ds => obtain ⟨xs, e, h3⟩ := q; exact ⟨xs, e, RepL.cut ds xs b h3⟩
  | ins C fs => obtain ⟨dx, xs, e, h3⟩ := q; exact ⟨dx, xs, e, RepF.cut fs xs b h3⟩
theorem Ext.cut (e : Ext K ι H ι1 H1) {k : Nat} (h : ι.cells.length ≤ k) : Ext K ι H (ι1.cut k) H1 := by
  refine ⟨⟨e.tup, fun a xs m q => ⟨fun z => (e.frz a xs m q).1 (cut_in z), (e.frz a xs m q).2⟩, e.scr, ?_⟩, e.hid, e.hidk⟩
  obtain ⟨t, q⟩ := e.pre
  show ι.cells <+: ι1.cells.take k
  rw [← q, List.take_append, List.take_of_length_le h]
  exact List.prefix_append _ _
mutual
theorem Frz.rep {k : Nat} (r : RelS K ι S H) : ∀ {d e : D} (v : V), Frz S k d e → Rep K ι H d v → Rep K (ι.cut k) H e v
  | _, _, v, .same b, h => Rep.cut _ v b h
  | _, _, v, .cell (n := n) hk hc f, h => by
    obtain ⟨a, e1, e2⟩ := rep_ref.mp h
    obtain ⟨xs, q1, q2⟩ := r.cel _ _ a hc e2
    refine rep_fl.mpr ⟨a, xs, e1, fun z => ?_, q1, FrzL.rep r xs f q2⟩
    rcases z with z | z
    · obtain ⟨m, hm⟩ := List.getElem?_of_mem z
      have hm : (ι.cells.take k)[m]? = some a := hm
      have hlt : m < k := by
        have := (List.getElem?_eq_some_iff.mp hm).1
        rw [List.length_take] at this
        omega
      rw [List.getElem?_take_of_lt hlt] at hm
      have := nodup_eq r.nd hm e2
      omega
    · exact (r.hid a z).1 (List.mem_of_getElem? e2)
  | _, _, v, .tup f, h => by
    obtain ⟨a, xs, e1, e2, e3⟩ := rep_tup.mp h
    exact rep_tup.mpr ⟨a, xs, e1, e2, FrzL.rep r xs f e3⟩
  | _, _, v, .fl f, h => by
    obtain ⟨a, xs, e1, n, e2, e3⟩ := rep_fl.mp h
    exact rep_fl.mpr ⟨a, xs, e1, fun z => n (cut_in z), e2, FrzL.rep r xs f e3⟩
theorem FrzL.rep {k : Nat} (r : RelS K ι S H) : ∀ {ds es : List D} (xs : List V), FrzL S k ds es → RepL K ι H ds xs → RepL K (ι.cut k) H es xs
  | _, _, xs, .nil, h => by unfold RepL at h; subst h; exact RepL.nil
  | _, _, xs, .cons f g, h => by
    unfold RepL at h
    obtain ⟨x, rr, rfl, e2, e3⟩ := h
    exact RepL.cons (Frz.rep r x f e2) (FrzL.rep r rr g e3)
end
theorem LkE.gives {Q : VKD} {Qh : VK} (r : RelS K ι S H) (l : LkE K ι H Q Qh) : LkE K ι H (Gives Q S.length) Qh := by
  intro ι' d S' v H' e r' p g
  rcases g with g | ⟨S'', d', gg, rfl, hm, hc, hf, hq⟩
  · exact l ι' d S' v H' e r' p g
  · exact l (ι'.cut S''.length) d' S'' v H' (e.cut (by rw [r.len]; exact hm)) (r'.cut hc) (Frz.rep r' v hf p) hq
theorem LkX.gives {X : XKD} {E : XK} (r : RelS K ι S H) (l : LkX K ι H X E) : LkX K ι H (GivesX X S.length) E := by
  intro ι' c fo od S' H' e r' p g
  rcases g with g | ⟨rfl, S'', gg, rfl, hm, hc, hq⟩
  · exact l ι' c fo od S' H' e r' p g
  · refine l (ι'.cut S''.length) c Option.none od S'' H' (e.cut (by rw [r.len]; exact hm)) (r'.cut hc) ?_ hq
    cases od with
    | none => exact True.intro
    | some _ => exact p.elim
end

/-! ### defs -/
def startD (N : List Str) (ds : List D) : ASt := ds.map some ++ List.replicate (N.length - ds.length) none
theorem slots_start {K ι H} {N : List Str} {ds : List D} {vs : List V} (h : RepL K ι H ds vs) : Slots K ι H (startD N ds) (L2.start N vs) := by
  have hl := RepL.length h
  refine ⟨by unfold startD L2.start; rw [List.length_append, List.length_append, List.length_map, List.length_map, List.length_replicate, List.length_replicate, hl], fun i d e => ?_⟩
  unfold startD at e
  unfold L2.start
  by_cases hi : i < ds.length
  · rw [List.getElem?_append_left (by rw [List.length_map]; exact hi), List.getElem?_map] at e
    cases q : ds[i]? with
    | none => rw [q] at e; cases e
    | some d' =>
      rw [q] at e
      cases e
      obtain ⟨x, h1, h2⟩ := RepL.get h q
      refine ⟨x, ?_, h2⟩
      rw [List.getElem?_append_left (by rw [List.length_map, ← hl]; exact hi), List.getElem?_map, h1]
      rfl
  · rw [List.getElem?_append_right (by rw [List.length_map]; omega), List.getElem?_replicate] at e
    split at e <;> cases e
abbrev noS : ASt → Sto → Prop := fun _ _ => False
def endOf (Q : VKD) (m : Nat) : AE := { nx := fun _ S' => Gives Q m .non S', rt := Gives Q m, bk := noS, ct := noS }
section
variable {P : Program} {w : World} {K : PySem.W.Frag} {mg : Str → Option Value} {base : Heap}
/-- THE RULE for a def -/
theorem fn_abs {x qual : Str} {st : Stmt} {f : Addr} {fd : FuncData} {N ps : List Str} {k : Nat} {a : ASp} {wB : WS} (F : Fun K x qual st f fd) (Sc : FnScope N ps (defScope st)) (len : ∀ ds S Q XX, a ds S Q XX → ds.length = ps.length)
    (hbody : ∀ (cdv : Value) (A : Around) (outer : List Env) (s : Shared) (H : Hp) (E : XK), Room k (A.deeper (envOfC qual (defScope st) s.heap.objs.size f cdv)) →
      ∃ t, JSs (cxOf (L2.CX P w) P w K mg base N qual (defScope st) f cdv A outer s H E) E (defBody st) t wB)
    (hp : ∀ ds S Q XX, Closed S → a ds S Q XX → wB (endOf Q S.length) (startD N ds) S (GivesX XX S.length)) : FnOk P w K mg base (L2.CX P w) (k + 1) f fd ps (spOf K a) := by
  refine F.okX Sc (fun vs H Q E ⟨ι, ds, S, Qa, Xa, r, rl, q, l, lx⟩ => ?_) (fun cdv A outer s H vs Q E hr ⟨ι, ds, S, Qa, Xa, r, rl, q, l, lx⟩ => ?_)
  · rw [← RepL.length rl]; exact len _ _ _ _ q
  · obtain ⟨t, j⟩ := hbody cdv A outer s H E hr
    refine ⟨t, j.pe, ?_⟩
    refine j.ab ι (L2.start N vs) H (startD N ds) S (endOf Qa S.length) (GivesX Xa S.length) _ r (slots_start rl) (hp ds S Qa Xa r.closed q) ⟨?_, l.gives r, ?_, ?_⟩ (lx.gives r)
    · intro ι' σD' S' σ' H' e r' s' g
      exact (l.gives r) ι' .non S' .non H' e r' (rep_non.mpr rfl) g
    · intro ι' σD' S' σ' H' e r' s' g
      exact g
    · intro ι' σD' S' σ' H' e r' s' g
      exact g
theorem cal_mk {x qual : Str} {st : Stmt} {f : Addr} {fd : FuncData} {ps : List Str} {k : Nat} {a : ASp} (F : Fun K x qual st f fd) (ok : FnOk P w K mg base (L2.CX P w) k f fd ps (spOf K a)) (hm : mg x = some (.ref f)) (hb : Binds K fd ps []) : Cal P w K mg base k x a :=
  ⟨f, fd, ps, ok, hm, F.kp, hb⟩
/-- what a body's derivation wants of its context -/
theorem px_of {x qual : Str} {sc : Scope} {f : Addr} {cdv : Value} {A : Around} {outer : List Env} {s : Shared} {H : Hp} {E : XK} {N : List Str} : Passes (L2.CX P w) (cxOf (L2.CX P w) P w K mg base N qual sc f cdv A outer s H E) E :=
  passes_call (takes_of rfl rfl rfl rfl) (fun _ _ _ _ h => h)
theorem po_of {x qual : Str} {sc : Scope} {f : Addr} {cdv : Value} {A : Around} {outer : List Env} {s : Shared} {H : Hp} {E : XK} {N : List Str} : PassesOwn (model (cxOf (L2.CX P w) P w K mg base N qual sc f cdv A outer s H E).prog (cxOf (L2.CX P w) P w K mg base N qual sc f cdv A outer s H E).w) (cxOf (L2.CX P w) P w K mg base N qual sc f cdv A outer s H E).A (cxOf (L2.CX P w) P w K mg base N qual sc f cdv A outer s H E).env (cxOf (L2.CX P w) P w K mg base N qual sc f cdv A outer s H E).xe :=
  passes_of rfl
end

/-! ### the law -/
def aspLaw : ASp := fun ds S Q _ => ∃ ns : List Int, ns.length ≤ 63 ∧ (ds = [.scr (ns.map .int)] ∨ ds = [.fl (ns.map .int)]) ∧ S = [] ∧ ∀ S', Q (.bl true) S'
theorem law_sp (K : PySem.W.Frag) (H : Hp) (a : Addr) (ns : List Int) (h : ns.length ≤ 63) (hS : SqL K H a (ns.map V.int)) : spOf K aspLaw [.ref a] H (fun v _ => v = .bl true) fun _ _ _ => False := by
  have lk : LkE K ⟨[], []⟩ H (fun d _ => d = .bl true) (fun v _ => v = .bl true) := fun ι' d S' v H' e r p q => by
    subst q
    exact rep_bl.mp p
  have r : RelS K ⟨[], []⟩ [] H := ⟨rfl, List.nodup_nil, fun a z => (nomatch (z : a ∈ ([] : List Addr))), fun n c a z => by simp at z⟩
  have no : a ∉ (⟨[], []⟩ : Ad) := fun z => by rcases z with z | z <;> cases z
  rcases hS with (hS | ⟨o, hS⟩) | hS
  · exact ⟨⟨[], []⟩, [.fl (ns.map .int)], [], fun d _ => d = .bl true, X0, r, RepL.cons (rep_fl.mpr ⟨a, _, rfl, no, hS, repL_of_ints ns⟩) RepL.nil, ⟨ns, h, .inr rfl, rfl, fun _ => rfl⟩, lk, LkX.none⟩
  · exact ⟨⟨[], []⟩, [.scr (ns.map .int)], [], fun d _ => d = .bl true, X0, r, RepL.cons (rep_scr.mpr ⟨a, _, rfl, .inl ⟨o, hS⟩, repL_of_ints ns⟩) RepL.nil, ⟨ns, h, .inl rfl, rfl, fun _ => rfl⟩, lk, LkX.none⟩
  · exact ⟨⟨[], []⟩, [.scr (ns.map .int)], [], fun d _ => d = .bl true, X0, r, RepL.cons (rep_scr.mpr ⟨a, _, rfl, .inr hS, repL_of_ints ns⟩) RepL.nil, ⟨ns, h, .inl rfl, rfl, fun _ => rfl⟩, lk, LkX.none⟩
theorem law_cx {P : Program} {w : World} (H : Hp) (s : Shared) (e : Value) (s' : Shared) (h : L2.CX P w [] H s (fun _ _ _ => False) e s') : False := by
  obtain ⟨_, _, _, _, _, _, _, _, _, _, _, _, z⟩ := h
  exact z
end AW
/-! AW10: further rules. -/
namespace AW
open PySem PySem.Spec PyProof.Rows L2

section
variable {X : Cx} {E : XK} {pos p apos : Pos} {a b c e o : Expr} {es : List Expr} {ta tb tc te to : TE} {wa wb wc we wo : WE} {t : TA} {w : WA}
theorem je_str {x : Str} {j : Nat} : JE X E (.Constant (.str x) j pos) (tC (.str x)) (wC (.str x)) :=
  ⟨pe_str, fun ι σ H σD S Q XX Qh r s h l lx => l ι (.str x) S (.str x) H Ext.refl r (rep_str.mpr rfl) h⟩
/-- a module's constant that is an int -/
theorem je_globI {x : Str} {i : Int} {u : Tok} (hm : X.mg x = some (.int i u)) (hg : Gl X x := by rfl) (hd : (x == ("__debug__" : Str)) = false := by decide) : JE X E (.Name x pos) (tC (.int i)) (wC (.int i)) :=
  ⟨pe_glob (v := .int i) hg hm ⟨_, rfl⟩ hd, fun ι σ H σD S Q XX Qh r s h l lx => l ι (.int i) S (.int i) H Ext.refl r (rep_int.mpr rfl) h⟩
theorem op_eqAll (hu : X.A.units + 64 < cLine) : OpR X (compareOp .Eq) (rEqAll X.K) := op_eq.or (op_eqD hu)
theorem op_neAll (hu : X.A.units + 64 < cLine) : OpR X (compareOp .NotEq) (rNeAll X.K) := op_ne.or (op_neD hu)
theorem nob {op : CmpOp} (h : op ≠ .In := by decide) (h2 : op ≠ .NotIn := by decide) : behindInMarks op b = false := nomark b h h2
theorem je_eq {K : PySem.W.Frag} (hu : X.A.units + 64 < cLine) (ha : JE X E a ta wa) (hb : JE X E b tb wb) (hK : X.K = K := by rfl) : JE X E (.Compare a [.Eq] [b] pos) (tOp (rEqAll K) ta tb) (wOp fEq wa wb) := by
  subst hK
  exact je_cmp (op_eqAll hu) abs_eq ha hb nob
theorem je_ne {K : PySem.W.Frag} (hu : X.A.units + 64 < cLine) (ha : JE X E a ta wa) (hb : JE X E b tb wb) (hK : X.K = K := by rfl) : JE X E (.Compare a [.NotEq] [b] pos) (tOp (rNeAll K) ta tb) (wOp fNe wa wb) := by
  subst hK
  exact je_cmp (op_neAll hu) abs_ne ha hb nob
theorem je_lt (ha : JE X E a ta wa) (hb : JE X E b tb wb) : JE X E (.Compare a [.Lt] [b] pos) (tOp (rI0 fun i j => .bl (decide (i < j))) ta tb) (wOp fLt wa wb) := je_cmp op_lt abs_cmpI ha hb nob
theorem je_le (ha : JE X E a ta wa) (hb : JE X E b tb wb) : JE X E (.Compare a [.LtE] [b] pos) (tOp (rI0 fun i j => .bl (decide (i ≤ j))) ta tb) (wOp fLe wa wb) := je_cmp op_le abs_cmpI ha hb nob
theorem je_gt (ha : JE X E a ta wa) (hb : JE X E b tb wb) : JE X E (.Compare a [.Gt] [b] pos) (tOp (rI0 fun i j => .bl (decide (j < i))) ta tb) (wOp fGt wa wb) := je_cmp op_gt abs_cmpI ha hb nob
theorem je_ge (ha : JE X E a ta wa) (hb : JE X E b tb wb) : JE X E (.Compare a [.GtE] [b] pos) (tOp (rI0 fun i j => .bl (decide (j ≤ i))) ta tb) (wOp fGe wa wb) := je_cmp op_ge abs_cmpI ha hb nob
theorem jt_eq {K : PySem.W.Frag} (hu : X.A.units + 64 < cLine) (ha : JE X E a ta wa) (hb : JE X E b tb wb) (hK : X.K = K := by rfl) : JT X E (.Compare a [.Eq] [b] pos) (tTest (tOp (rEqAll K) ta tb)) (wTest (wOp fEq wa wb)) := by
  subst hK
  exact jt_cmp (op_eqAll hu) abs_eq ha hb nob
theorem jt_ne {K : PySem.W.Frag} (hu : X.A.units + 64 < cLine) (ha : JE X E a ta wa) (hb : JE X E b tb wb) (hK : X.K = K := by rfl) : JT X E (.Compare a [.NotEq] [b] pos) (tTest (tOp (rNeAll K) ta tb)) (wTest (wOp fNe wa wb)) := by
  subst hK
  exact jt_cmp (op_neAll hu) abs_ne ha hb nob
theorem jt_lt (ha : JE X E a ta wa) (hb : JE X E b tb wb) : JT X E (.Compare a [.Lt] [b] pos) (tTest (tOp (rI0 fun i j => .bl (decide (i < j))) ta tb)) (wTest (wOp fLt wa wb)) := jt_cmp op_lt abs_cmpI ha hb nob
theorem jt_le (ha : JE X E a ta wa) (hb : JE X E b tb wb) : JT X E (.Compare a [.LtE] [b] pos) (tTest (tOp (rI0 fun i j => .bl (decide (i ≤ j))) ta tb)) (wTest (wOp fLe wa wb)) := jt_cmp op_le abs_cmpI ha hb nob
theorem jt_gt (ha : JE X E a ta wa) (hb : JE X E b tb wb) : JT X E (.Compare a [.Gt] [b] pos) (tTest (tOp (rI0 fun i j => .bl (decide (j < i))) ta tb)) (wTest (wOp fGt wa wb)) := jt_cmp op_gt abs_cmpI ha hb nob
theorem jt_ge (ha : JE X E a ta wa) (hb : JE X E b tb wb) : JT X E (.Compare a [.GtE] [b] pos) (tTest (tOp (rI0 fun i j => .bl (decide (j ≤ i))) ta tb)) (wTest (wOp fGe wa wb)) := jt_cmp op_ge abs_cmpI ha hb nob

/-! ### a < b < c -/
theorem abs_chain {K : PySem.W.Frag} {r r' : R2} {f f' : F2} (hr : AbsR2 K E r f) (hr' : AbsR2 K E r' f') (ha : AbsE K E ta wa) (hb : AbsE K E tb wb) (hc : AbsE K E tc wc) : AbsE K E (tChain r r' ta tb tc) (wChain f f' wa wb wc) := by
  intro ι σ H σD S Q XX Qh rs s h l lx
  refine ha ι σ H σD S _ XX _ rs s h ?_ lx
  intro ι1 d1 S1 v1 H1 e1 r1 p1 h1
  refine hb ι1 σ H1 σD S1 _ XX _ r1 (s.mono e1) h1 ?_ (lx.ext e1)
  intro ι2 d2 S2 v2 H2 e2 r2 p2 h2
  refine hr ι2 H2 S2 d1 d2 v1 v2 _ XX _ r2 (Rep.mono e2 _ _ p1) p2 h2 ?_ (lx.ext (e1.trans e2))
  intro ι3 z S3 vz H3 e3 r3 p3 h3
  cases z <;> try exact h3.elim
  rename_i k
  refine ⟨k, rep_bl.mp p3, ?_⟩
  have ee := (e1.trans e2).trans e3
  cases k with
  | false => exact l ι3 (.bl false) S3 _ H3 ee r3 (rep_bl.mpr rfl) h3
  | true =>
    refine hc ι3 σ H3 σD S3 _ XX _ r3 (s.mono ee) h3 ?_ (lx.ext ee)
    intro ι4 d4 S4 v4 H4 e4 r4 p4 h4
    exact hr' ι4 H4 S4 d2 d4 v2 v4 Q XX Qh r4 (Rep.mono (e3.trans e4) _ _ p2) p4 h4 (l.ext (ee.trans e4)) (lx.ext (ee.trans e4))
theorem je_chain {op op' : CmpOp} {r r' : R2} {f f' : F2} (ho : OpR X (compareOp op) r) (ho' : OpR X (compareOp op') r') (hr : AbsR2 X.K E r f) (hr' : AbsR2 X.K E r' f') (ha : JE X E a ta wa) (hb : JE X E b tb wb) (hc : JE X E c tc wc)
    (hm : lastMarks [op, op'] [b, c] = false := by with_unfolding_all rfl) : JE X E (.Compare a [op, op'] [b, c] pos) (tChain r r' ta tb tc) (wChain f f' wa wb wc) :=
  ⟨pe_chain ho ho' ha.pe hb.pe hc.pe hm, abs_chain hr hr' ha.ab hb.ab hc.ab⟩
theorem jt_chain {op op' : CmpOp} {r r' : R2} {f f' : F2} (ho : OpR X (compareOp op) r) (ho' : OpR X (compareOp op') r') (hr : AbsR2 X.K E r f) (hr' : AbsR2 X.K E r' f') (ha : JE X E a ta wa) (hb : JE X E b tb wb) (hc : JE X E c tc wc)
    (hm : lastMarks [op, op'] [b, c] = false := by with_unfolding_all rfl) : JT X E (.Compare a [op, op'] [b, c] pos) (tTest (tChain r r' ta tb tc)) (wTest (wChain f f' wa wb wc)) :=
  ⟨pt_chain ho ho' ha.pe hb.pe hc.pe hm, abs_test (abs_chain hr hr' ha.ab hb.ab hc.ab)⟩

/-! ### x in xs -/
def flatD : D → Bool
  | .non => true
  | .bl _ => true
  | .int _ => true
  | .str _ => true
  | _ => false
def eqF : D → D → Bool
  | .non, .non => true
  | .bl a, .bl b => a == b
  | .bl a, .int b => (if a then 1 else 0) == b
  | .int a, .bl b => a == (if b then 1 else 0)
  | .int a, .int b => a == b
  | .str a, .str b => a == b
  | _, _ => false
theorem flat_rep {K ι H} {d : D} {v : V} (h : Rep K ι H d v) (f : flatD d = true) : flatV v = true := by
  cases d <;> first
    | (rw [rep_non] at h; subst h; rfl)
    | (rw [rep_bl] at h; subst h; rfl)
    | (rw [rep_int] at h; subst h; rfl)
    | (rw [rep_str] at h; subst h; rfl)
    | cases f
theorem eqF_rep {K ι H} {d e : D} {v u : V} (h : Rep K ι H d v) (h2 : Rep K ι H e u) (f : flatD d = true) (f2 : flatD e = true) : eqF d e = eqV v u := by
  cases d <;> cases e <;> first
    | (simp only [rep_non, rep_bl, rep_int, rep_str] at h h2; subst h h2; rfl)
    | exact Bool.noConfusion f
    | exact Bool.noConfusion f2
theorem flatL_rep {K ι H} : ∀ {ds : List D} {xs : List V}, RepL K ι H ds xs → ds.all flatD = true → xs.all flatV = true
  | [], _, h, _ => by unfold RepL at h; subst h; rfl
  | d :: ds, _, h, f => by
    unfold RepL at h
    obtain ⟨x, r, rfl, h1, h2⟩ := h
    rw [List.all_cons, Bool.and_eq_true] at f
    rw [List.all_cons, flat_rep h1 f.1, flatL_rep h2 f.2]; rfl
theorem inV_rep {K ι H} {e : D} {u : V} (he : Rep K ι H e u) (fe : flatD e = true) : ∀ {ds : List D} {xs : List V}, RepL K ι H ds xs → ds.all flatD = true → (ds.any fun d => eqF d e) = inV u xs
  | [], _, h, _ => by unfold RepL at h; subst h; rfl
  | d :: ds, _, h, f => by
    unfold RepL at h
    obtain ⟨x, r, rfl, h1, h2⟩ := h
    rw [List.all_cons, Bool.and_eq_true] at f
    show (eqF d e || ds.any fun d => eqF d e) = (eqV x u || r.any fun y => eqV y u)
    rw [eqF_rep h1 he f.1 fe, inV_rep he fe h2 f.2]; rfl
def fInB (neg : Bool) : F2 := fun x y S Q _ => match items S y with
  | some ds => (flatD x = true ∧ ds.all flatD = true) ∧ Q (.bl (if neg then !(ds.any fun d => eqF d x) else ds.any fun d => eqF d x)) S
  | none => False
theorem abs_in {K : PySem.W.Frag} {neg : Bool} : AbsR2 K E (rIn K neg) (fInB neg) := by
  intro ι H S x y v u Q XX Qh r hx hy h l lx
  unfold fInB at h
  split at h
  · rename_i ds e
    obtain ⟨p, xs, rfl, hs, hl⟩ := items_rep r hy e
    obtain ⟨⟨f1, f2⟩, q⟩ := h
    refine ⟨p, xs, rfl, hs, flat_rep hx f1, flatL_rep hl f2, ?_⟩
    rw [← inV_rep hx f1 hl f2]
    exact l ι _ S _ H Ext.refl r (rep_bl.mpr rfl) q
  · exact h.elim
theorem je_in {K : PySem.W.Frag} (hm : behindInMarks .In b = false := by rfl) (ha : JE X E a ta wa) (hb : JE X E b tb wb) (hK : X.K = K := by rfl) : JE X E (.Compare a [.In] [b] pos) (tOp (rIn K false) ta tb) (wOp (fInB false) wa wb) := by
  subst hK
  exact je_cmp op_in_seq abs_in ha hb hm
theorem je_notin {K : PySem.W.Frag} (hm : behindInMarks .NotIn b = false := by rfl) (ha : JE X E a ta wa) (hb : JE X E b tb wb) (hK : X.K = K := by rfl) : JE X E (.Compare a [.NotIn] [b] pos) (tOp (rIn K true) ta tb) (wOp (fInB true) wa wb) := by
  subst hK
  exact je_cmp op_notIn_seq abs_in ha hb hm
theorem jt_in {K : PySem.W.Frag} (hm : behindInMarks .In b = false := by rfl) (ha : JE X E a ta wa) (hb : JE X E b tb wb) (hK : X.K = K := by rfl) : JT X E (.Compare a [.In] [b] pos) (tTest (tOp (rIn K false) ta tb)) (wTest (wOp (fInB false) wa wb)) := by
  subst hK
  exact jt_cmp op_in_seq abs_in ha hb hm
theorem jt_notin {K : PySem.W.Frag} (hm : behindInMarks .NotIn b = false := by rfl) (ha : JE X E a ta wa) (hb : JE X E b tb wb) (hK : X.K = K := by rfl) : JT X E (.Compare a [.NotIn] [b] pos) (tTest (tOp (rIn K true) ta tb)) (wTest (wOp (fInB true) wa wb)) := by
  subst hK
  exact jt_cmp op_notIn_seq abs_in ha hb hm
/-! ### methods -/
def wBits (wo : WE) : WE := fun σ S Q X => wo σ S (fun d S1 => match d with
  | .int i => Q (.int ((Builtin.Int.intBits i : Nat) : Int)) S1
  | _ => False) X
theorem je_bits (ho : JE X E o to wo) (hbase : attributeBase o "bit_length" X.env (eval o X.env) = eval o X.env := by rfl) (hline : (apos.endLine == pos.line) = true := by rfl) : JE X E (.Call (.Attribute o "bit_length" apos) [] [] pos) (tBits to) (wBits wo) := by
  refine ⟨pe_bits ho.pe hbase hline, ?_⟩
  intro ι σ H σD S Q XX Qh r s h l lx
  refine ho.ab ι σ H σD S _ XX _ r s h ?_ lx
  intro ι1 d1 S1 v1 H1 e1 r1 p1 h1
  cases d1 <;> try exact h1.elim
  exact ⟨_, rep_int.mp p1, l ι1 _ S1 _ H1 e1 r1 (rep_int.mpr rfl) h1⟩
/-- o.append(e) of a cell -/
def fApp (o : D) (ds : List D) (S : Sto) (Q : VKD) : Prop := match o, ds with
  | .ref n, [d] => match S[n]? with
    | some (.lst es) => es.length < sizeLine ∧ Q .non (S.set n (.lst (es ++ [d])))
    | _ => False
  | _, _ => False
def wApp (wo : WE) (w : WA) : WE := fun σ S Q X => wo σ S (fun o S1 => (match o with
  | .ref n => match S1[n]? with
    | some (.lst _) => True
    | _ => False
  | _ => False) ∧ w σ S1 (fun ds S2 => fApp o ds S2 Q) X) X
theorem je_append {K : PySem.W.Frag} (ho : JE X E o to wo) (ha : JA X E (e :: es) t w) (hbase : attributeBase o "append" X.env (eval o X.env) = eval o X.env := by rfl)
    (hfew : ((backTo pos (starEach (e :: es) X.env)).all (fun x => !x.1) && (backToKw pos (keywordEach [] X.env)).all (fun x => x.1.isSome)
      && decide ((e :: es).length + ([] : List Keyword).length + (if ([] : List Keyword).isEmpty then 0 else 1) < 30)) = true := by rfl)
    (hline : (apos.endLine == pos.line) = true := by rfl) (hs : starEach (e :: es) X.env = (false, eval e X.env) :: starEach es X.env := by rfl) (hplain : (backTo pos (starEach es X.env)).any (·.1) = false := by rfl) (hK : X.K = K := by rfl) :
    JE X E (.Call (.Attribute o "append" apos) (e :: es) [] pos) (tBM K "list" rAppend to t) (wApp wo w) := by
  subst hK
  refine ⟨pe_bm PySem.F.plainAttrs_list PySem.F.slot_list_append PySem.F.type_list_append mt_append ho.pe ha.pe hbase hfew hline hs hplain, ?_⟩
  intro ι σ H σD S Q XX Qh r s h l lx
  refine ho.ab ι σ H σD S _ XX _ r s h ?_ lx
  intro ι1 d1 S1 v1 H1 e1 r1 p1 h1
  obtain ⟨h1, h2⟩ := h1
  split at h1
  · rename_i n
    split at h1
    · rename_i es0 hc
      obtain ⟨a, rfl, ha1⟩ := rep_ref.mp p1
      obtain ⟨xs0, q1, q2⟩ := r1.cel n _ a hc ha1
      refine ⟨.inl ⟨rfl, xs0, SqL.of q1⟩, ?_⟩
      refine ha.ab ι1 σ H1 σD S1 _ XX _ r1 (s.mono e1) h2 ?_ (lx.ext e1)
      intro ι2 ds S2 vs H2 e2 r2 p2 h3
      unfold fApp at h3
      split at h3
      · rename_i n2 d en
        cases en
        split at h3
        · rename_i es2 hc2
          obtain ⟨v, ev, p3⟩ := repL1 p2
          subst ev
          have ha2 := e2.get ha1
          obtain ⟨xs, q3, q4⟩ := r2.cel n _ a hc2 ha2
          have ex := Ext.wr (o' := .lst (xs ++ [v])) r2 (List.mem_of_getElem? ha2) q3 True.intro
          refine ⟨a, xs, v, rfl, rfl, q3, by rw [← RepL.length q4]; exact h3.1, ?_⟩
          exact l ι2 .non _ .non _ ((e1.trans e2).trans ex) (r2.wr (c := .lst (es2 ++ [d])) ha2 q3 True.intro ⟨_, upd_same, RepL.append (RepL.mono ex _ _ q4) (RepL.cons (Rep.mono ex _ _ p3) RepL.nil)⟩) (rep_non.mpr rfl) h3.2
        · exact h3.elim
      · exact h3.elim
    · exact h1.elim
  · exact h1.elim
end
/-- where a def is not called -/
def aspNo : ASp := fun _ _ _ _ => False
theorem cal_no {P : Program} {w : World} {K : PySem.W.Frag} {mg : Str → Option Value} {base : Heap} {x qual : Str} {st : Stmt} {f : Addr} {fd : FuncData} {ps : List Str} (F : Fun K x qual st f fd) (hm : mg x = some (.ref f)) (hb : Binds K fd ps []) : Cal P w K mg base 0 x aspNo :=
  ⟨f, fd, ps, ⟨fun vs H Q E ⟨_, _, _, _, _, _, _, z, _⟩ => z.elim, fun A outer s H args us vs Q E _ _ _ _ ⟨_, _, _, _, _, _, _, z, _⟩ => z.elim⟩, hm, F.kp, hb⟩
end AW
/-! AW11: what readings come to. -/
namespace AW
open PySem PySem.Spec PyProof.Rows L2

theorem z_map_cons {α β : Type} (f : α → β) (a : α) (l : List α) : (a :: l).map f = f a :: l.map f := rfl
theorem z_map_nil {α β : Type} (f : α → β) : ([] : List α).map f = [] := rfl
theorem z_len_cons {α : Type} (a : α) (l : List α) : (a :: l).length = l.length + 1 := rfl
theorem z_len_nil {α : Type} : ([] : List α).length = 0 := rfl
theorem z_cons_append {α : Type} (a : α) (l r : List α) : (a :: l) ++ r = a :: (l ++ r) := rfl
theorem z_nil_append {α : Type} (r : List α) : [] ++ r = r := rfl
theorem z_rep0 {α : Type} (a : α) : List.replicate 0 a = [] := rfl
theorem z_rep {α : Type} (n : Nat) (a : α) : List.replicate (n + 1) a = a :: List.replicate n a := rfl
theorem z_get0 {α : Type} (a : α) (l : List α) : (a :: l)[0]? = some a := rfl
theorem z_get {α : Type} (n : Nat) (a : α) (l : List α) : (a :: l)[n + 1]? = l[n]? := rfl
theorem z_set0 {α : Type} (a b : α) (l : List α) : (a :: l).set 0 b = b :: l := rfl
theorem z_set {α : Type} (n : Nat) (a b : α) (l : List α) : (a :: l).set (n + 1) b = a :: l.set n b := rfl
theorem z_set_set {α : Type} (l : List α) (n : Nat) (a b : α) : (l.set n a).set n b = l.set n b := List.set_set ..
theorem z_len_set {α : Type} (l : List α) (n : Nat) (a : α) : (l.set n a).length = l.length := List.length_set ..
theorem z_true_and (p : Prop) : (True ∧ p) = p := true_and p
theorem z_and_true (p : Prop) : (p ∧ True) = p := and_true p
theorem z_if_f {α : Sort u} (a b : α) : (if false = true then a else b) = b := if_neg Bool.false_ne_true
theorem z_if_t {α : Sort u} (a b : α) : (if true = true then a else b) = a := if_pos rfl
theorem z_not_t : (!true) = false := rfl
theorem z_not_f : (!false) = true := rfl
theorem z_if_dec {α : Sort u} (p : Prop) [h : Decidable p] (a b : α) : (if decide p = true then a else b) = if p then a else b := by
  by_cases q : p
  · rw [if_pos q, if_pos (decide_eq_true q)]
  · rw [if_neg q, if_neg (by rw [decide_eq_false q]; exact Bool.false_ne_true)]
theorem z_if_ndec {α : Sort u} (p : Prop) [h : Decidable p] (a b : α) : (if (!decide p) = true then a else b) = if p then b else a := by
  by_cases q : p
  · rw [if_pos q, if_neg (by rw [decide_eq_true q]; exact Bool.false_ne_true)]
  · rw [if_neg q, if_pos (by rw [decide_eq_false q]; rfl)]
theorem z_if_T {α : Sort u} {h : Decidable True} (a b : α) : @ite α True h a b = a := if_pos True.intro
theorem z_if_F {α : Sort u} {h : Decidable False} (a b : α) : @ite α False h a b = b := if_neg id
theorem z_cast0 : ((0 : Nat) : Int) = 0 := rfl
theorem z_cast1 : ((1 : Nat) : Int) = 1 := rfl
theorem z_some_eq {α : Type} (a b : α) : (some a = some b) = (a = b) := propext ⟨Option.some.inj, congrArg some⟩
theorem at0 (a : D) (r : List D) : atI (a :: r) 0 = some a := atI_nat (j := 0) rfl
theorem at1 (a b : D) (r : List D) : atI (a :: b :: r) 1 = some b := atI_nat (j := 1) rfl
theorem at2 (a b c : D) (r : List D) : atI (a :: b :: c :: r) 2 = some c := atI_nat (j := 2) rfl
theorem at3 (a b c d : D) (r : List D) : atI (a :: b :: c :: d :: r) 3 = some d := atI_nat (j := 3) rfl
theorem at4 (a b c d e : D) (r : List D) : atI (a :: b :: c :: d :: e :: r) 4 = some e := atI_nat (j := 4) rfl
theorem at5 (a b c d e f : D) (r : List D) : atI (a :: b :: c :: d :: e :: f :: r) 5 = some f := atI_nat (j := 5) rfl
theorem at6 (a b c d e f g : D) (r : List D) : atI (a :: b :: c :: d :: e :: f :: g :: r) 6 = some g := atI_nat (j := 6) rfl
theorem at7 (a b c d e f g h : D) (r : List D) : atI (a :: b :: c :: d :: e :: f :: g :: h :: r) 7 = some h := atI_nat (j := 7) rfl
theorem atI_of {α : Type} {ds : List α} {k : Int} {d : α} (h0 : 0 ≤ k) (h : ds[k.toNat]? = some d) : atI ds k = some d := by
  have e : k = ((k.toNat : Nat) : Int) := by omega
  rw [e]; exact atI_nat h
theorem atI_last1 {α : Type} (ds : List α) : atI ds (-1) = ds.getLast? := by
  rcases List.eq_nil_or_concat ds with h | ⟨l, a, h⟩
  · subst h; rfl
  · subst h; rw [List.concat_eq_append, atI_last]; simp
theorem ixN_nat {n k : Nat} (h : k < n) : ixN n (k : Int) = some k := by
  unfold ixN
  rw [if_pos (by omega), if_pos (by omega)]
  rfl
theorem ixN_of {n : Nat} {k : Int} (h0 : 0 ≤ k) (h : k < n) : ixN n k = some k.toNat := by
  unfold ixN
  rw [if_pos h0, if_pos h]
theorem ix41 : ixN 4 1 = some 1 := rfl
theorem ix42 : ixN 4 2 = some 2 := rfl
theorem ix43 : ixN 4 3 = some 3 := rfl
theorem gss {S : Sto} {n : Nat} {c : Cel} (h : n < S.length) : (S.set n c)[n]? = some c := List.getElem?_set_self h
theorem get_set {S : Sto} {n : Nat} {c c0 : Cel} (h : S[n]? = some c0) : (S.set n c)[n]? = some c := by
  rw [List.getElem?_set_self (List.getElem?_eq_some_iff.mp h).1]
theorem get_set_ne {S : Sto} {n m : Nat} {c : Cel} (h : n ≠ m) : (S.set n c)[m]? = S[m]? := List.getElem?_set_ne h
/-- a store with other cells behind it -/
theorem gives_drop {Q : VKD} {S g : Sto} {m : Nat} {d : D} (hm : m ≤ S.length) (hc : Closed S) (hd : d.under S.length = true) (h : Q d S) : Gives Q m d (S ++ g) := .inr ⟨S, d, g, rfl, hm, hc, .same hd, h⟩
theorem gives_now {Q : VKD} {S : Sto} {m : Nat} {d : D} (h : Q d S) : Gives Q m d S := .inl h

/-- a block cut behind its first statement: what holds there is all that the rest may use -/
theorem seq_cut {w u : WS} {D : AE} {σ : ASt} {S : Sto} {X : XKD} (P : ASt → Sto → Prop) (h2 : ∀ σ' S', P σ' S' → u D σ' S' X)
    (h1 : ∀ R : ASt → Sto → Prop, (∀ σ' S', P σ' S' → R σ' S') → w { nx := R, rt := D.rt, bk := D.bk, ct := D.ct } σ S X) : wSeq w u D σ S X := h1 _ h2
/-- a while: P holds ahead of each test; m falls -/
theorem while_cut {c : WT} {b : WS} {D0 : AE} {σ : ASt} {S : Sto} {X : XKD} (P : Nat → ASt → Sto → Prop) (m0 : Nat) (h0 : P m0 σ S)
    (hs : ∀ m σ S (R : ASt → Sto → Prop), P m σ S → (∀ m' σ' S', m' < m → P m' σ' S' → R σ' S') → c σ S (fun k S1 => if k = true then b { nx := R, rt := D0.rt, bk := D0.nx, ct := R } σ S1 X else D0.nx σ S1) X) : wWhile c b D0 σ S X :=
  ⟨P, ⟨m0, h0⟩, fun m σ S h => hs m σ S _ h fun m' σ' S' hl hp => ⟨m', hl, hp⟩⟩
/-- a for over a list that is known: P i holds ahead of the i-th turn -/
theorem for_cut {wg : WG} {b : WS} {D0 : AE} {σ : ASt} {S : Sto} {X : XKD} (ds : List D) (P : Nat → ASt → Sto → Prop) (h0 : P 0 σ S)
    (hs : ∀ i d σ S (R : ASt → Sto → Prop), ds[i]? = some d → P i σ S → (∀ σ' S', P (i + 1) σ' S' → R σ' S') → wg d σ S (fun σ1 S1 => b { nx := R, rt := D0.rt, bk := D0.nx, ct := R } σ1 S1 X) X)
    (hd : ∀ σ S, P ds.length σ S → D0.nx σ S) : forL wg b D0 X ds σ S := by
  have gen : ∀ (k i : Nat) (σ : ASt) (S : Sto), k + i = ds.length → P i σ S → forL wg b D0 X (ds.drop i) σ S := by
    intro k
    induction k with
    | zero =>
      intro i σ S e hp
      have e' : i = ds.length := by omega
      subst e'
      rw [List.drop_length]
      exact hd σ S hp
    | succ k ih =>
      intro i σ S e hp
      have hlt : i < ds.length := by omega
      rw [List.drop_eq_getElem_cons hlt]
      unfold forL
      exact hs i ds[i] σ S _ (List.getElem?_eq_getElem hlt) hp fun σ' S' h => ih (i + 1) σ' S' (by omega) h
  have q := gen ds.length 0 σ S (by omega) h0
  rwa [List.drop_zero] at q
theorem rangeD_len (lo : Int) (n : Nat) : (rangeD lo n).length = n := by unfold rangeD; simp
theorem rangeD_get {lo : Int} {n i : Nat} {d : D} (h : (rangeD lo n)[i]? = some d) : i < n ∧ d = .int (lo + (i : Nat)) := by
  have hi : i < n := by rw [← rangeD_len lo n]; exact (List.getElem?_eq_some_iff.mp h).1
  refine ⟨hi, ?_⟩
  unfold rangeD at h
  rw [List.getElem?_map, List.getElem?_range hi] at h
  exact (Option.some.inj h).symm
theorem range_cut {wg : WG} {b : WS} {D0 : AE} {σ : ASt} {S : Sto} {X : XKD} (lo : Int) (n : Nat) (P : Nat → ASt → Sto → Prop) (h0 : P 0 σ S)
    (hs : ∀ i σ S (R : ASt → Sto → Prop), i < n → P i σ S → (∀ σ' S', P (i + 1) σ' S' → R σ' S') → wg (.int (lo + (i : Nat))) σ S (fun σ1 S1 => b { nx := R, rt := D0.rt, bk := D0.nx, ct := R } σ1 S1 X) X)
    (hd : ∀ σ S, P n σ S → D0.nx σ S) : forL wg b D0 X (rangeD lo n) σ S :=
  for_cut (rangeD lo n) P h0 (fun i d σ S R hd hp hR => by obtain ⟨h1, rfl⟩ := rangeD_get hd; exact hs i σ S R h1 hp hR) (fun σ S hp => hd σ S (by rwa [rangeD_len] at hp))
/-- one of some ints -/
theorem at_ints (ns : List Int) {k : Int} (h0 : 0 ≤ k) (h1 : k < ns.length) : ∃ m, m ∈ ns ∧ L2.atI (ns.map D.int) k = some (.int m) := by
  have hk : k.toNat < ns.length := by omega
  refine ⟨ns[k.toNat], List.getElem_mem hk, atI_of h0 ?_⟩
  rw [List.getElem?_map, List.getElem?_eq_getElem hk]; rfl
theorem log2_lt_of {n k : Nat} (h0 : 0 < k) (h : n < 2 ^ k) : n.log2 < k := by
  by_cases hn : n = 0
  · subst hn; rw [Nat.log2_zero]; exact h0
  · exact (Nat.log2_lt hn).mpr h
theorem mulOk_of {i j : Int} {a b : Nat} (ha : i.natAbs < 2 ^ a) (hb : j.natAbs < 2 ^ b) (h : a + b ≤ 100000000) : MulOk i j := by
  have key : ∀ (x : Int) (n : Nat), x.natAbs < 2 ^ n → Builtin.Int.intBits x ≤ n := fun x n hx => by
    unfold Builtin.Int.intBits
    split
    · exact Nat.zero_le _
    · rename_i h0
      by_cases hn : n = 0
      · subst hn
        simp at hx
        exact absurd (by rw [hx]; rfl) h0
      · have := log2_lt_of (Nat.pos_of_ne_zero hn) hx
        omega
  have h1 := key i a ha
  have h2 := key j b hb
  have e : bitsLine = 134217728 := by decide
  unfold MulOk IntMulOk
  intro z
  rw [Bool.and_eq_true] at z
  have z2 := z.2
  unfold Builtin.Int.intTooBig at z2
  have z3 := of_decide_eq_true z2
  rw [e] at z3
  omega
theorem divOk_of {j : Int} (h0 : j ≠ 0) (h : j.natAbs < 2 ^ 9000) : DivOk j := ⟨h0, log2_lt_of (by omega) h⟩
theorem fdiv_pos {i j : Int} (h : 0 ≤ j) : i.fdiv j = i / j := Int.fdiv_eq_ediv_of_nonneg i h
theorem fmod_pos {i j : Int} (h : 0 ≤ j) : i.fmod j = i % j := Int.fmod_eq_emod_of_nonneg i h
/-- the walk: readings come to what they say -/
local macro_rules | `(tactic| walk_at "aw") => `(tactic| try simp only [X0, wVar, wC, itemsL, items, wOp, wTest, wChain, fAdd, fSub, fMul, fDiv, fMod, fPow, fShl, fCmpI, fLt, fLe, fGt, fGe, wNeg, fEqB, fEq, fNe, fTru, wTruA, wAnd, wOr, wNotA, wAndV, wOrV, wNotV, wIf, isNon, wIsN, wNil, wCons, wTup, wLst, wLstR, fIx, wNoPart, wPart, fSl, wSl, wCB, gAbs, gInt, gLen, gTuple, gList, gListR, gSum, gAny, gAll, gMax, gMin, isTN, wIsi, wNext, wSeq, wBreak, wCont, wDrop, wRet, wRetN, wIfS, wNever, wSet, wPar, wAug, fIAdd, wgName, wgNil, wgCons, wgTup, fPut, wgSub, wAsg, wiItems, wiRange1, wiRange2, wFor, wipeD, wYes, lcTurn, wLcA, finF, finR, endOf, fInB, wBits, fApp, wApp, z_map_cons, z_map_nil, z_len_cons, z_len_nil, z_cons_append, z_nil_append, z_rep0, z_rep, z_get0, z_get, z_set0, z_set, z_set_set, z_len_set, z_true_and, z_and_true, z_if_f, z_if_t, z_not_t, z_not_f, z_if_dec, z_if_ndec, z_some_eq, z_if_T, z_if_F, z_cast0, z_cast1, Int.cast_ofNat_Int, at0, at1, at2, at3, at4, at5, at6, at7, atI_last1, ix41, ix42, ix43, startD, Nat.reduceAdd, Nat.reduceSub, L2.CPow, Int.reduceLE, Int.reduceLT, Int.reduceAbs, Int.reduceToNat, Int.reducePow, Int.reduceSub, Int.reduceAdd, Int.reduceMul, Int.reduceNeg, Int.reduceEq, Nat.reducePow, Nat.reduceLT, Nat.reduceLeDiff, Nat.reduceMul, ne_eq, not_false_eq_true, not_true_eq_false, reduceCtorEq, sizeLine_eq, see_non, see_bl, see_int, see_str, see_tup, see_fl, see_scr])
end AW
namespace AW
open PySem PySem.Spec PyProof.Rows L2
/-! ### equality of data -/
/-- trees without bools and references, of few levels -/
def D.cl : Nat → D → Bool
  | _, .int _ => true
  | _, .non => true
  | _, .str x => PyData.strOk x
  | n + 1, .tup ds => ds.all (D.cl n)
  | n + 1, .fl ds => ds.all (D.cl n)
  | _, _ => false
/-- trees without references, of few levels -/
def D.dt : Nat → D → Bool
  | _, .int _ => true
  | _, .non => true
  | _, .bl _ => true
  | _, .str x => PyData.strOk x
  | n + 1, .tup ds => ds.all (D.dt n)
  | n + 1, .fl ds => ds.all (D.dt n)
  | _, _ => false
theorem D.cl_dt : ∀ (n : Nat) (d : D), d.cl n = true → d.dt n = true := by
  intro n
  induction n with
  | zero => intro d h; cases d <;> first | rfl | exact h | cases h
  | succ n ih =>
    intro d h
    cases d with
    | tup ds => rw [D.cl, List.all_eq_true] at h; rw [D.dt, List.all_eq_true]; exact fun x hx => ih x (h x hx)
    | fl ds => rw [D.cl, List.all_eq_true] at h; rw [D.dt, List.all_eq_true]; exact fun x hx => ih x (h x hx)
    | _ => first | rfl | exact h | cases h
theorem pyL_map : ∀ ds : List D, pyL ds = ds.map D.py
  | [] => by rw [pyL, List.map_nil]
  | d :: ds => by rw [pyL, List.map_cons, pyL_map ds]
theorem pureL_all : ∀ ds : List D, pureL ds = ds.all D.pure
  | [] => by rw [pureL, List.all_nil]
  | d :: ds => by rw [pureL, List.all_cons, pureL_all ds]
theorem depthAll_le {n : Nat} : ∀ {ds : List PyData}, (∀ d ∈ ds, PyData.depth d ≤ n) → PyData.depthAll ds ≤ n
  | [], _ => by simp only [PyData.depthAll]; omega
  | d :: ds, h => by
    have a := h d (.head _)
    have b := depthAll_le (ds := ds) fun x hx => h x (.tail _ hx)
    simp only [PyData.depthAll]
    omega
theorem canLayAll0_of : ∀ {ds : List PyData}, (∀ d ∈ ds, PyData.canLay0 d = true) → PyData.canLayAll0 ds = true
  | [], _ => by simp only [PyData.canLayAll0]
  | d :: ds, h => by
    simp only [PyData.canLayAll0, Bool.and_eq_true]
    exact ⟨h d (.head _), canLayAll0_of fun x hx => h x (.tail _ hx)⟩
theorem D.dt_ok : ∀ (n : Nat) (d : D), d.dt n = true → d.pure = true ∧ PyData.canLay0 d.py = true ∧ PyData.depth d.py ≤ n := by
  intro n
  induction n with
  | zero => intro d h; cases d <;> first | (cases h; done) | exact ⟨by simp [D.pure], by simpa [D.py, PyData.canLay0, D.dt] using h, by simp [D.py, PyData.depth]⟩
  | succ n ih =>
    have all : ∀ ds : List D, ds.all (D.dt n) = true → pureL ds = true ∧ PyData.canLayAll0 (pyL ds) = true ∧ PyData.depthAll (pyL ds) ≤ n := by
      intro ds h
      rw [List.all_eq_true] at h
      refine ⟨by rw [pureL_all, List.all_eq_true]; exact fun x hx => (ih x (h x hx)).1, ?_, ?_⟩
      · rw [pyL_map]
        refine canLayAll0_of fun d hd => ?_
        obtain ⟨x, hx, rfl⟩ := List.mem_map.mp hd
        exact (ih x (h x hx)).2.1
      · rw [pyL_map]
        refine depthAll_le fun d hd => ?_
        obtain ⟨x, hx, rfl⟩ := List.mem_map.mp hd
        exact (ih x (h x hx)).2.2
    intro d h
    cases d with
    | tup ds =>
      rw [D.dt] at h
      obtain ⟨a, b, c⟩ := all ds h
      exact ⟨by simp only [D.pure, a], by simp only [D.py, PyData.canLay0, b], by simp only [D.py, PyData.depth]; omega⟩
    | fl ds =>
      rw [D.dt] at h
      obtain ⟨a, b, c⟩ := all ds h
      exact ⟨by simp only [D.pure, a], by simp only [D.py, PyData.canLay0, b], by simp only [D.py, PyData.depth]; omega⟩
    | scr ds => cases h
    | ref m => cases h
    | exc m => cases h
    | _ => exact ⟨by simp only [D.pure], by simpa [D.py, PyData.canLay0, D.dt] using h, by simp [D.py, PyData.depth]⟩
theorem eqOk_dt {x y : D} {n m : Nat} (hx : x.dt n = true) (hy : y.dt m = true) (h : n ≤ 64 := by decide) (h2 : m ≤ 64 := by decide) : EqOk x y := by
  obtain ⟨a, b, c⟩ := D.dt_ok n x hx
  obtain ⟨a', b', c'⟩ := D.dt_ok m y hy
  exact ⟨a, a', Bool.and_eq_true_iff.mpr ⟨b, decide_eq_true (by omega)⟩, Bool.and_eq_true_iff.mpr ⟨b', decide_eq_true (by omega)⟩⟩
mutual
theorem eqv_self : ∀ d : D, PyData.eqv d.py d.py = true
  | .non => by simp [D.py, PyData.eqv]
  | .bl b => by simp [D.py, PyData.eqv]
  | .int i => by simp [D.py, PyData.eqv]
  | .str x => by simp [D.py, PyData.eqv]
  | .tup ds => by simp only [D.py, PyData.eqv]; exact eqvAll_self ds
  | .fl ds => by simp only [D.py, PyData.eqv]; exact eqvAll_self ds
  | .scr ds => by simp only [D.py, PyData.eqv]; exact eqvAll_self ds
  | .ref n => by simp [D.py, PyData.eqv]
  | .exc _ => by simp [D.py, PyData.eqv]
theorem eqvAll_self : ∀ ds : List D, PyData.eqvAll (pyL ds) (pyL ds) = true
  | [] => by simp [pyL, PyData.eqvAll]
  | d :: ds => by simp only [pyL, PyData.eqvAll, eqv_self d, eqvAll_self ds, Bool.and_self]
end
theorem eqvAll_of {n m : Nat} : ∀ {xs ys : List D}, (∀ x ∈ xs, ∀ y : D, D.cl m y = true → PyData.eqv x.py y.py = true → x = y) → ys.all (D.cl m) = true → PyData.eqvAll (pyL xs) (pyL ys) = true → xs = ys
  | [], [], _, _, _ => rfl
  | [], y :: ys, _, _, h => by simp [pyL, PyData.eqvAll] at h
  | x :: xs, [], _, _, h => by simp [pyL, PyData.eqvAll] at h
  | x :: xs, y :: ys, g, c, h => by
    simp only [pyL, PyData.eqvAll, Bool.and_eq_true] at h
    rw [List.all_cons, Bool.and_eq_true] at c
    rw [g x (.head _) y c.1 h.1, eqvAll_of (n := n) (fun z hz => g z (.tail _ hz)) c.2 h.2]
/-- == of trees without bools is equality -/
theorem eqv_cl : ∀ (n m : Nat) (x y : D), x.cl n = true → y.cl m = true → PyData.eqv x.py y.py = true → x = y := by
  intro n
  induction n with
  | zero =>
    intro m x y hx hy h
    cases x <;> cases y <;> first | (cases hx; done) | (cases m <;> cases hy; done) | rfl | (simp [D.py, PyData.eqv] at h; done) | (simp [D.py, PyData.eqv] at h; subst h; rfl)
  | succ n ih =>
    intro m x y hx hy h
    cases x with
    | tup xs =>
      rw [D.cl, List.all_eq_true] at hx
      cases y with
      | tup ys =>
        cases m with
        | zero => cases hy
        | succ m =>
          rw [D.cl] at hy
          simp only [D.py, PyData.eqv] at h
          rw [eqvAll_of (n := n) (m := m) (fun x hm y hy h => ih m x y (hx x hm) hy h) hy h]
      | _ => simp [D.py, PyData.eqv] at h
    | fl xs =>
      rw [D.cl, List.all_eq_true] at hx
      cases y with
      | fl ys =>
        cases m with
        | zero => cases hy
        | succ m =>
          rw [D.cl] at hy
          simp only [D.py, PyData.eqv] at h
          rw [eqvAll_of (n := n) (m := m) (fun x hm y hy h => ih m x y (hx x hm) hy h) hy h]
      | scr ys => cases m <;> cases hy
      | _ => simp [D.py, PyData.eqv] at h
    | scr xs => cases hx
    | ref xs => cases hx
    | exc xs => cases hx
    | bl b => cases hx
    | _ =>
      cases y <;> first | (cases m <;> cases hy; done) | rfl | (simp [D.py, PyData.eqv] at h; done) | (simp [D.py, PyData.eqv] at h; subst h; rfl)
theorem eqv_dec {n m : Nat} {x y : D} (hx : x.cl n = true) (hy : y.cl m = true) {p : Prop} [Decidable p] (hp : x = y ↔ p) : PyData.eqv x.py y.py = decide p := by
  cases h : PyData.eqv x.py y.py with
  | true => exact (decide_eq_true (hp.mp (eqv_cl n m x y hx hy h))).symm
  | false =>
    refine (decide_eq_false fun q => ?_).symm
    rw [hp.mpr q, eqv_self] at h
    cases h
/-! ### loops over cells and comprehensions -/
theorem cellLen_of {S : Sto} {n : Nat} {ds : List D} (h : S[n]? = some (.lst ds)) : cellLen S n = ds.length := by unfold cellLen; rw [h]
/-- a for over a cell that stays as it is -/
theorem cel_cut {wg : WG} {b : WS} {D0 : AE} {σ : ASt} {S : Sto} {X : XKD} (n : Nat) (ds : List D) (P : Nat → ASt → Sto → Prop) (h0 : P 0 σ S) (hc : ∀ i σ S, P i σ S → S[n]? = some (.lst ds))
    (hs : ∀ i d σ S (R : ASt → Sto → Prop), ds[i]? = some d → P i σ S → (∀ σ' S', P (i + 1) σ' S' → R σ' S') → wg d σ S (fun σ1 S1 => b { nx := R, rt := D0.rt, bk := D0.nx, ct := R } σ1 S1 X) X)
    (hd : ∀ σ S, P ds.length σ S → D0.nx σ S) : forC wg b D0 X (.cel n) (cellLen S n) 0 σ S := by
  have gen : ∀ (k i : Nat) (σ : ASt) (S : Sto), k + i = ds.length → P i σ S → forC wg b D0 X (.cel n) k i σ S := by
    intro k
    induction k with
    | zero =>
      intro i σ S e hp
      have e' : i = ds.length := by omega
      subst e'
      unfold forC
      simp only [Src.at, hc _ _ _ hp]
      exact ⟨by rw [List.getElem?_eq_none (Nat.le_refl _)], hd σ S hp⟩
    | succ k ih =>
      intro i σ S e hp
      have hlt : i < ds.length := by omega
      have g : ds[i]? = some ds[i] := List.getElem?_eq_getElem hlt
      unfold forC
      simp only [Src.at, hc _ _ _ hp, g]
      exact hs i ds[i] σ S _ g hp fun σ' S' h => ih (i + 1) σ' S' (by omega) h
  rw [cellLen_of (hc _ _ _ h0)]
  exact gen ds.length 0 σ S (by omega) h0
/-- a comprehension over a list that is known: P i acc holds ahead of the i-th turn -/
theorem lc_cut {wg : WG} {wt : WT} {we : WE} {σ : ASt} {Q : List D → Sto → Prop} {S : Sto} (ds : List D) (P : Nat → List D → Sto → Prop) (h0 : P 0 [] S)
    (hs : ∀ i d acc S (R : List D → Sto → Prop), ds[i]? = some d → P i acc S → (∀ acc' S', P (i + 1) acc' S' → R acc' S') → lcTurn wg wt we σ d acc S R)
    (hd : ∀ acc S, P ds.length acc S → Q acc S) : lcL wg wt we σ Q ds [] S := by
  have gen : ∀ (k i : Nat) (acc : List D) (S : Sto), k + i = ds.length → P i acc S → lcL wg wt we σ Q (ds.drop i) acc S := by
    intro k
    induction k with
    | zero =>
      intro i acc S e hp
      have e' : i = ds.length := by omega
      subst e'
      rw [List.drop_length]
      unfold lcL
      exact hd acc S hp
    | succ k ih =>
      intro i acc S e hp
      have hlt : i < ds.length := by omega
      rw [List.drop_eq_getElem_cons hlt]
      unfold lcL
      exact hs i ds[i] acc S _ (List.getElem?_eq_getElem hlt) hp fun acc' S' h => ih (i + 1) acc' S' (by omega) h
  have q := gen ds.length 0 [] S (by omega) h0
  rwa [List.drop_zero] at q
theorem lcc_cut {wg : WG} {wt : WT} {we : WE} {σ : ASt} {Q : List D → Sto → Prop} {S : Sto} (n : Nat) (ds : List D) (P : Nat → List D → Sto → Prop) (h0 : P 0 [] S) (hc : ∀ i acc S, P i acc S → S[n]? = some (.lst ds))
    (hs : ∀ i d acc S (R : List D → Sto → Prop), ds[i]? = some d → P i acc S → (∀ acc' S', P (i + 1) acc' S' → R acc' S') → lcTurn wg wt we σ d acc S R)
    (hd : ∀ acc S, P ds.length acc S → Q acc S) : lcC wg wt we σ Q (.cel n) (cellLen S n) 0 [] S := by
  have gen : ∀ (k i : Nat) (acc : List D) (S : Sto), k + i = ds.length → P i acc S → lcC wg wt we σ Q (.cel n) k i acc S := by
    intro k
    induction k with
    | zero =>
      intro i acc S e hp
      have e' : i = ds.length := by omega
      subst e'
      unfold lcC
      simp only [Src.at, hc _ _ _ hp]
      exact ⟨by rw [List.getElem?_eq_none (Nat.le_refl _)], hd acc S hp⟩
    | succ k ih =>
      intro i acc S e hp
      have hlt : i < ds.length := by omega
      have g : ds[i]? = some ds[i] := List.getElem?_eq_getElem hlt
      unfold lcC
      simp only [Src.at, hc _ _ _ hp, g]
      exact hs i ds[i] acc S _ g hp fun acc' S' h => ih (i + 1) acc' S' (by omega) h
  rw [cellLen_of (hc _ _ _ h0)]
  exact gen ds.length 0 [] S (by omega) h0
theorem take_succ_of {α : Type} {xs : List α} {i : Nat} {d : α} (h : xs[i]? = some d) : xs.take (i + 1) = xs.take i ++ [d] := by
  rw [List.take_add_one, h]; rfl
theorem lcL_map {wg : WG} {wt : WT} {we : WE} {σ : ASt} {Q : List D → Sto → Prop} {S : Sto} (ds : List D) (f : D → D) (hs : ∀ (i : Nat) d acc (R : List D → Sto → Prop), ds[i]? = some d → R (acc ++ [f d]) S → lcTurn wg wt we σ d acc S R) (hq : Q (ds.map f) S) : lcL wg wt we σ Q ds [] S := by
  refine lc_cut ds (fun i acc S' => S' = S ∧ acc = (ds.take i).map f) ⟨rfl, rfl⟩ ?_ ?_
  · rintro i d acc S' R hd ⟨rfl, rfl⟩ hR
    exact hs i d _ R hd (hR _ _ ⟨rfl, by rw [take_succ_of hd, List.map_append]; rfl⟩)
  · rintro acc S' ⟨rfl, rfl⟩
    rw [List.take_length]
    exact hq
theorem lcC_map {wg : WG} {wt : WT} {we : WE} {σ : ASt} {Q : List D → Sto → Prop} {S : Sto} {n : Nat} {ds : List D} (hS : S[n]? = some (.lst ds)) (f : D → D) (hs : ∀ (i : Nat) d acc (R : List D → Sto → Prop), ds[i]? = some d → R (acc ++ [f d]) S → lcTurn wg wt we σ d acc S R) (hq : Q (ds.map f) S) : lcC wg wt we σ Q (.cel n) (cellLen S n) 0 [] S := by
  refine lcc_cut n ds (fun i acc S' => S' = S ∧ acc = (ds.take i).map f) ⟨rfl, rfl⟩ ?_ ?_ ?_
  · rintro i acc S' ⟨rfl, _⟩
    exact hS
  · rintro i d acc S' R hd ⟨rfl, rfl⟩ hR
    exact hs i d _ R hd (hR _ _ ⟨rfl, by rw [take_succ_of hd, List.map_append]; rfl⟩)
  · rintro acc S' ⟨rfl, rfl⟩
    rw [List.take_length]
    exact hq
theorem bls_true {α : Type} (xs : List α) {R : Bool → Prop} (h : R true) : match (some (xs.map fun _ => D.bl true)).bind blsOf with
    | some bs => R (bs.all id)
    | none => False := by
  rw [Option.bind_some, show (xs.map fun _ => D.bl true) = (xs.map fun _ => true).map D.bl by rw [List.map_map]; rfl, blsOf_map]
  have e : (xs.map fun _ => true).all id = true := by
    rw [List.all_eq_true]
    intro x hx
    obtain ⟨_, _, rfl⟩ := List.mem_map.mp hx
    rfl
  show R ((xs.map fun _ => true).all id)
  rw [e]
  exact h
/-- an if cut behind its test -/
theorem if_cut {c : WT} {a b : WS} {D0 : AE} {σ : ASt} {S : Sto} {X : XKD} (Pt Pf : Sto → Prop) (ha : ∀ S1, Pt S1 → a D0 σ S1 X) (hb : ∀ S1, Pf S1 → b D0 σ S1 X)
    (h : ∀ K : Bool → Sto → Prop, (∀ S1, Pt S1 → K true S1) → (∀ S1, Pf S1 → K false S1) → c σ S K X) : wIfS c a b D0 σ S X :=
  h _ (fun S1 h => ha S1 h) (fun S1 h => hb S1 h)
/-- a tree is equal to itself -/
theorem D.see_dt {S : Sto} : ∀ (k n : Nat) (d : D), d.dt n = true → D.see S k d = d := by
  intro k n d h
  cases d with
  | ref m => cases n <;> cases h
  | _ => cases k <;> rfl
theorem eq_same {d : D} {n : Nat} (h : d.dt n = true) {S : Sto} {Q : VKD} {X : XKD} (q : Q (.bl true) S) (hn : n ≤ 64 := by decide) : fEq d d S Q X := by
  have gen : EqOk (d.see S 4) (d.see S 4) ∧ Q (.bl (PyData.eqv (d.see S 4).py (d.see S 4).py)) S := by
    rw [D.see_dt 4 n d h, eqv_self]
    exact ⟨eqOk_dt h h hn hn, q⟩
  cases d with
  | int i =>
    show Q (.bl (decide (i = i))) S
    rw [decide_eq_true rfl]
    exact q
  | str i =>
    show Q (.bl (decide (i = i))) S
    rw [decide_eq_true rfl]
    exact q
  | _ => exact gen
theorem ne_same {d : D} {n : Nat} (h : d.dt n = true) {S : Sto} {Q : VKD} {X : XKD} (q : Q (.bl false) S) (hn : n ≤ 64 := by decide) : fNe d d S Q X := by
  have gen : EqOk (d.see S 4) (d.see S 4) ∧ Q (.bl (!PyData.eqv (d.see S 4).py (d.see S 4).py)) S := by
    rw [D.see_dt 4 n d h, eqv_self]
    exact ⟨eqOk_dt h h hn hn, q⟩
  cases d with
  | int i =>
    show Q (.bl (!decide (i = i))) S
    rw [decide_eq_true rfl]
    exact q
  | str i =>
    show Q (.bl (!decide (i = i))) S
    rw [decide_eq_true rfl]
    exact q
  | _ => exact gen
end AW
/-! AW13: the walk from the outside in. Lz holds what lies ahead, so that nothing is done to it before it is reached. -/
namespace AW
open PySem PySem.Spec PyProof.Rows L2
inductive Tg {α : Sort u} (a : α) : Type where
  | mk
def Lz {α : Sort u} (a : α) (_ : Tg a) : α := a
theorem lz_open {P : Prop} {t : Tg P} (h : P) : Lz P t := h
theorem ax_xv0 {d : D} {σ : ASt} {S : Sto} {Q : VKD} {X : XKD} : wVar 0 (some d :: σ) S Q X = (Q d S) := id rfl
theorem ax_xv1 {a0 : Option D} {d : D} {σ : ASt} {S : Sto} {Q : VKD} {X : XKD} : wVar 1 (a0 :: some d :: σ) S Q X = (Q d S) := id rfl
theorem ax_xv2 {a0 a1 : Option D} {d : D} {σ : ASt} {S : Sto} {Q : VKD} {X : XKD} : wVar 2 (a0 :: a1 :: some d :: σ) S Q X = (Q d S) := id rfl
theorem ax_xv3 {a0 a1 a2 : Option D} {d : D} {σ : ASt} {S : Sto} {Q : VKD} {X : XKD} : wVar 3 (a0 :: a1 :: a2 :: some d :: σ) S Q X = (Q d S) := id rfl
theorem ax_xv4 {a0 a1 a2 a3 : Option D} {d : D} {σ : ASt} {S : Sto} {Q : VKD} {X : XKD} : wVar 4 (a0 :: a1 :: a2 :: a3 :: some d :: σ) S Q X = (Q d S) := id rfl
theorem ax_xv5 {a0 a1 a2 a3 a4 : Option D} {d : D} {σ : ASt} {S : Sto} {Q : VKD} {X : XKD} : wVar 5 (a0 :: a1 :: a2 :: a3 :: a4 :: some d :: σ) S Q X = (Q d S) := id rfl
theorem ax_xv6 {a0 a1 a2 a3 a4 a5 : Option D} {d : D} {σ : ASt} {S : Sto} {Q : VKD} {X : XKD} : wVar 6 (a0 :: a1 :: a2 :: a3 :: a4 :: a5 :: some d :: σ) S Q X = (Q d S) := id rfl
theorem ax_xv7 {a0 a1 a2 a3 a4 a5 a6 : Option D} {d : D} {σ : ASt} {S : Sto} {Q : VKD} {X : XKD} : wVar 7 (a0 :: a1 :: a2 :: a3 :: a4 :: a5 :: a6 :: some d :: σ) S Q X = (Q d S) := id rfl
theorem ax_xv8 {a0 a1 a2 a3 a4 a5 a6 a7 : Option D} {d : D} {σ : ASt} {S : Sto} {Q : VKD} {X : XKD} : wVar 8 (a0 :: a1 :: a2 :: a3 :: a4 :: a5 :: a6 :: a7 :: some d :: σ) S Q X = (Q d S) := id rfl
theorem ax_xv9 {a0 a1 a2 a3 a4 a5 a6 a7 a8 : Option D} {d : D} {σ : ASt} {S : Sto} {Q : VKD} {X : XKD} : wVar 9 (a0 :: a1 :: a2 :: a3 :: a4 :: a5 :: a6 :: a7 :: a8 :: some d :: σ) S Q X = (Q d S) := id rfl
theorem ax_xv10 {a0 a1 a2 a3 a4 a5 a6 a7 a8 a9 : Option D} {d : D} {σ : ASt} {S : Sto} {Q : VKD} {X : XKD} : wVar 10 (a0 :: a1 :: a2 :: a3 :: a4 :: a5 :: a6 :: a7 :: a8 :: a9 :: some d :: σ) S Q X = (Q d S) := id rfl
theorem ax_xv11 {a0 a1 a2 a3 a4 a5 a6 a7 a8 a9 a10 : Option D} {d : D} {σ : ASt} {S : Sto} {Q : VKD} {X : XKD} : wVar 11 (a0 :: a1 :: a2 :: a3 :: a4 :: a5 :: a6 :: a7 :: a8 :: a9 :: a10 :: some d :: σ) S Q X = (Q d S) := id rfl
theorem ax_xv12 {a0 a1 a2 a3 a4 a5 a6 a7 a8 a9 a10 a11 : Option D} {d : D} {σ : ASt} {S : Sto} {Q : VKD} {X : XKD} : wVar 12 (a0 :: a1 :: a2 :: a3 :: a4 :: a5 :: a6 :: a7 :: a8 :: a9 :: a10 :: a11 :: some d :: σ) S Q X = (Q d S) := id rfl
theorem ax_xv13 {a0 a1 a2 a3 a4 a5 a6 a7 a8 a9 a10 a11 a12 : Option D} {d : D} {σ : ASt} {S : Sto} {Q : VKD} {X : XKD} : wVar 13 (a0 :: a1 :: a2 :: a3 :: a4 :: a5 :: a6 :: a7 :: a8 :: a9 :: a10 :: a11 :: a12 :: some d :: σ) S Q X = (Q d S) := id rfl
theorem ax_xv14 {a0 a1 a2 a3 a4 a5 a6 a7 a8 a9 a10 a11 a12 a13 : Option D} {d : D} {σ : ASt} {S : Sto} {Q : VKD} {X : XKD} : wVar 14 (a0 :: a1 :: a2 :: a3 :: a4 :: a5 :: a6 :: a7 :: a8 :: a9 :: a10 :: a11 :: a12 :: a13 :: some d :: σ) S Q X = (Q d S) := id rfl
theorem ax_xv15 {a0 a1 a2 a3 a4 a5 a6 a7 a8 a9 a10 a11 a12 a13 a14 : Option D} {d : D} {σ : ASt} {S : Sto} {Q : VKD} {X : XKD} : wVar 15 (a0 :: a1 :: a2 :: a3 :: a4 :: a5 :: a6 :: a7 :: a8 :: a9 :: a10 :: a11 :: a12 :: a13 :: a14 :: some d :: σ) S Q X = (Q d S) := id rfl
theorem ax_xv16 {a0 a1 a2 a3 a4 a5 a6 a7 a8 a9 a10 a11 a12 a13 a14 a15 : Option D} {d : D} {σ : ASt} {S : Sto} {Q : VKD} {X : XKD} : wVar 16 (a0 :: a1 :: a2 :: a3 :: a4 :: a5 :: a6 :: a7 :: a8 :: a9 :: a10 :: a11 :: a12 :: a13 :: a14 :: a15 :: some d :: σ) S Q X = (Q d S) := id rfl
theorem ax_xv17 {a0 a1 a2 a3 a4 a5 a6 a7 a8 a9 a10 a11 a12 a13 a14 a15 a16 : Option D} {d : D} {σ : ASt} {S : Sto} {Q : VKD} {X : XKD} : wVar 17 (a0 :: a1 :: a2 :: a3 :: a4 :: a5 :: a6 :: a7 :: a8 :: a9 :: a10 :: a11 :: a12 :: a13 :: a14 :: a15 :: a16 :: some d :: σ) S Q X = (Q d S) := id rfl
theorem ax_xv18 {a0 a1 a2 a3 a4 a5 a6 a7 a8 a9 a10 a11 a12 a13 a14 a15 a16 a17 : Option D} {d : D} {σ : ASt} {S : Sto} {Q : VKD} {X : XKD} : wVar 18 (a0 :: a1 :: a2 :: a3 :: a4 :: a5 :: a6 :: a7 :: a8 :: a9 :: a10 :: a11 :: a12 :: a13 :: a14 :: a15 :: a16 :: a17 :: some d :: σ) S Q X = (Q d S) := id rfl
theorem ax_xv19 {a0 a1 a2 a3 a4 a5 a6 a7 a8 a9 a10 a11 a12 a13 a14 a15 a16 a17 a18 : Option D} {d : D} {σ : ASt} {S : Sto} {Q : VKD} {X : XKD} : wVar 19 (a0 :: a1 :: a2 :: a3 :: a4 :: a5 :: a6 :: a7 :: a8 :: a9 :: a10 :: a11 :: a12 :: a13 :: a14 :: a15 :: a16 :: a17 :: a18 :: some d :: σ) S Q X = (Q d S) := id rfl
theorem ax_xv20 {a0 a1 a2 a3 a4 a5 a6 a7 a8 a9 a10 a11 a12 a13 a14 a15 a16 a17 a18 a19 : Option D} {d : D} {σ : ASt} {S : Sto} {Q : VKD} {X : XKD} : wVar 20 (a0 :: a1 :: a2 :: a3 :: a4 :: a5 :: a6 :: a7 :: a8 :: a9 :: a10 :: a11 :: a12 :: a13 :: a14 :: a15 :: a16 :: a17 :: a18 :: a19 :: some d :: σ) S Q X = (Q d S) := id rfl
theorem ax_xv21 {a0 a1 a2 a3 a4 a5 a6 a7 a8 a9 a10 a11 a12 a13 a14 a15 a16 a17 a18 a19 a20 : Option D} {d : D} {σ : ASt} {S : Sto} {Q : VKD} {X : XKD} : wVar 21 (a0 :: a1 :: a2 :: a3 :: a4 :: a5 :: a6 :: a7 :: a8 :: a9 :: a10 :: a11 :: a12 :: a13 :: a14 :: a15 :: a16 :: a17 :: a18 :: a19 :: a20 :: some d :: σ) S Q X = (Q d S) := id rfl
theorem ax_xv22 {a0 a1 a2 a3 a4 a5 a6 a7 a8 a9 a10 a11 a12 a13 a14 a15 a16 a17 a18 a19 a20 a21 : Option D} {d : D} {σ : ASt} {S : Sto} {Q : VKD} {X : XKD} : wVar 22 (a0 :: a1 :: a2 :: a3 :: a4 :: a5 :: a6 :: a7 :: a8 :: a9 :: a10 :: a11 :: a12 :: a13 :: a14 :: a15 :: a16 :: a17 :: a18 :: a19 :: a20 :: a21 :: some d :: σ) S Q X = (Q d S) := id rfl
theorem ax_xv23 {a0 a1 a2 a3 a4 a5 a6 a7 a8 a9 a10 a11 a12 a13 a14 a15 a16 a17 a18 a19 a20 a21 a22 : Option D} {d : D} {σ : ASt} {S : Sto} {Q : VKD} {X : XKD} : wVar 23 (a0 :: a1 :: a2 :: a3 :: a4 :: a5 :: a6 :: a7 :: a8 :: a9 :: a10 :: a11 :: a12 :: a13 :: a14 :: a15 :: a16 :: a17 :: a18 :: a19 :: a20 :: a21 :: a22 :: some d :: σ) S Q X = (Q d S) := id rfl
theorem ax_xv24 {a0 a1 a2 a3 a4 a5 a6 a7 a8 a9 a10 a11 a12 a13 a14 a15 a16 a17 a18 a19 a20 a21 a22 a23 : Option D} {d : D} {σ : ASt} {S : Sto} {Q : VKD} {X : XKD} : wVar 24 (a0 :: a1 :: a2 :: a3 :: a4 :: a5 :: a6 :: a7 :: a8 :: a9 :: a10 :: a11 :: a12 :: a13 :: a14 :: a15 :: a16 :: a17 :: a18 :: a19 :: a20 :: a21 :: a22 :: a23 :: some d :: σ) S Q X = (Q d S) := id rfl
theorem ax_xv25 {a0 a1 a2 a3 a4 a5 a6 a7 a8 a9 a10 a11 a12 a13 a14 a15 a16 a17 a18 a19 a20 a21 a22 a23 a24 : Option D} {d : D} {σ : ASt} {S : Sto} {Q : VKD} {X : XKD} : wVar 25 (a0 :: a1 :: a2 :: a3 :: a4 :: a5 :: a6 :: a7 :: a8 :: a9 :: a10 :: a11 :: a12 :: a13 :: a14 :: a15 :: a16 :: a17 :: a18 :: a19 :: a20 :: a21 :: a22 :: a23 :: a24 :: some d :: σ) S Q X = (Q d S) := id rfl
theorem ax_xv26 {a0 a1 a2 a3 a4 a5 a6 a7 a8 a9 a10 a11 a12 a13 a14 a15 a16 a17 a18 a19 a20 a21 a22 a23 a24 a25 : Option D} {d : D} {σ : ASt} {S : Sto} {Q : VKD} {X : XKD} : wVar 26 (a0 :: a1 :: a2 :: a3 :: a4 :: a5 :: a6 :: a7 :: a8 :: a9 :: a10 :: a11 :: a12 :: a13 :: a14 :: a15 :: a16 :: a17 :: a18 :: a19 :: a20 :: a21 :: a22 :: a23 :: a24 :: a25 :: some d :: σ) S Q X = (Q d S) := id rfl
theorem ax_xv27 {a0 a1 a2 a3 a4 a5 a6 a7 a8 a9 a10 a11 a12 a13 a14 a15 a16 a17 a18 a19 a20 a21 a22 a23 a24 a25 a26 : Option D} {d : D} {σ : ASt} {S : Sto} {Q : VKD} {X : XKD} : wVar 27 (a0 :: a1 :: a2 :: a3 :: a4 :: a5 :: a6 :: a7 :: a8 :: a9 :: a10 :: a11 :: a12 :: a13 :: a14 :: a15 :: a16 :: a17 :: a18 :: a19 :: a20 :: a21 :: a22 :: a23 :: a24 :: a25 :: a26 :: some d :: σ) S Q X = (Q d S) := id rfl
theorem ax_xv28 {a0 a1 a2 a3 a4 a5 a6 a7 a8 a9 a10 a11 a12 a13 a14 a15 a16 a17 a18 a19 a20 a21 a22 a23 a24 a25 a26 a27 : Option D} {d : D} {σ : ASt} {S : Sto} {Q : VKD} {X : XKD} : wVar 28 (a0 :: a1 :: a2 :: a3 :: a4 :: a5 :: a6 :: a7 :: a8 :: a9 :: a10 :: a11 :: a12 :: a13 :: a14 :: a15 :: a16 :: a17 :: a18 :: a19 :: a20 :: a21 :: a22 :: a23 :: a24 :: a25 :: a26 :: a27 :: some d :: σ) S Q X = (Q d S) := id rfl
theorem ax_xv29 {a0 a1 a2 a3 a4 a5 a6 a7 a8 a9 a10 a11 a12 a13 a14 a15 a16 a17 a18 a19 a20 a21 a22 a23 a24 a25 a26 a27 a28 : Option D} {d : D} {σ : ASt} {S : Sto} {Q : VKD} {X : XKD} : wVar 29 (a0 :: a1 :: a2 :: a3 :: a4 :: a5 :: a6 :: a7 :: a8 :: a9 :: a10 :: a11 :: a12 :: a13 :: a14 :: a15 :: a16 :: a17 :: a18 :: a19 :: a20 :: a21 :: a22 :: a23 :: a24 :: a25 :: a26 :: a27 :: a28 :: some d :: σ) S Q X = (Q d S) := id rfl
theorem ax_xv30 {a0 a1 a2 a3 a4 a5 a6 a7 a8 a9 a10 a11 a12 a13 a14 a15 a16 a17 a18 a19 a20 a21 a22 a23 a24 a25 a26 a27 a28 a29 : Option D} {d : D} {σ : ASt} {S : Sto} {Q : VKD} {X : XKD} : wVar 30 (a0 :: a1 :: a2 :: a3 :: a4 :: a5 :: a6 :: a7 :: a8 :: a9 :: a10 :: a11 :: a12 :: a13 :: a14 :: a15 :: a16 :: a17 :: a18 :: a19 :: a20 :: a21 :: a22 :: a23 :: a24 :: a25 :: a26 :: a27 :: a28 :: a29 :: some d :: σ) S Q X = (Q d S) := id rfl
theorem ax_xv31 {a0 a1 a2 a3 a4 a5 a6 a7 a8 a9 a10 a11 a12 a13 a14 a15 a16 a17 a18 a19 a20 a21 a22 a23 a24 a25 a26 a27 a28 a29 a30 : Option D} {d : D} {σ : ASt} {S : Sto} {Q : VKD} {X : XKD} : wVar 31 (a0 :: a1 :: a2 :: a3 :: a4 :: a5 :: a6 :: a7 :: a8 :: a9 :: a10 :: a11 :: a12 :: a13 :: a14 :: a15 :: a16 :: a17 :: a18 :: a19 :: a20 :: a21 :: a22 :: a23 :: a24 :: a25 :: a26 :: a27 :: a28 :: a29 :: a30 :: some d :: σ) S Q X = (Q d S) := id rfl
theorem ax_xv32 {a0 a1 a2 a3 a4 a5 a6 a7 a8 a9 a10 a11 a12 a13 a14 a15 a16 a17 a18 a19 a20 a21 a22 a23 a24 a25 a26 a27 a28 a29 a30 a31 : Option D} {d : D} {σ : ASt} {S : Sto} {Q : VKD} {X : XKD} : wVar 32 (a0 :: a1 :: a2 :: a3 :: a4 :: a5 :: a6 :: a7 :: a8 :: a9 :: a10 :: a11 :: a12 :: a13 :: a14 :: a15 :: a16 :: a17 :: a18 :: a19 :: a20 :: a21 :: a22 :: a23 :: a24 :: a25 :: a26 :: a27 :: a28 :: a29 :: a30 :: a31 :: some d :: σ) S Q X = (Q d S) := id rfl
theorem ax_xv33 {a0 a1 a2 a3 a4 a5 a6 a7 a8 a9 a10 a11 a12 a13 a14 a15 a16 a17 a18 a19 a20 a21 a22 a23 a24 a25 a26 a27 a28 a29 a30 a31 a32 : Option D} {d : D} {σ : ASt} {S : Sto} {Q : VKD} {X : XKD} : wVar 33 (a0 :: a1 :: a2 :: a3 :: a4 :: a5 :: a6 :: a7 :: a8 :: a9 :: a10 :: a11 :: a12 :: a13 :: a14 :: a15 :: a16 :: a17 :: a18 :: a19 :: a20 :: a21 :: a22 :: a23 :: a24 :: a25 :: a26 :: a27 :: a28 :: a29 :: a30 :: a31 :: a32 :: some d :: σ) S Q X = (Q d S) := id rfl
theorem ax_xv34 {a0 a1 a2 a3 a4 a5 a6 a7 a8 a9 a10 a11 a12 a13 a14 a15 a16 a17 a18 a19 a20 a21 a22 a23 a24 a25 a26 a27 a28 a29 a30 a31 a32 a33 : Option D} {d : D} {σ : ASt} {S : Sto} {Q : VKD} {X : XKD} : wVar 34 (a0 :: a1 :: a2 :: a3 :: a4 :: a5 :: a6 :: a7 :: a8 :: a9 :: a10 :: a11 :: a12 :: a13 :: a14 :: a15 :: a16 :: a17 :: a18 :: a19 :: a20 :: a21 :: a22 :: a23 :: a24 :: a25 :: a26 :: a27 :: a28 :: a29 :: a30 :: a31 :: a32 :: a33 :: some d :: σ) S Q X = (Q d S) := id rfl
theorem ax_xv35 {a0 a1 a2 a3 a4 a5 a6 a7 a8 a9 a10 a11 a12 a13 a14 a15 a16 a17 a18 a19 a20 a21 a22 a23 a24 a25 a26 a27 a28 a29 a30 a31 a32 a33 a34 : Option D} {d : D} {σ : ASt} {S : Sto} {Q : VKD} {X : XKD} : wVar 35 (a0 :: a1 :: a2 :: a3 :: a4 :: a5 :: a6 :: a7 :: a8 :: a9 :: a10 :: a11 :: a12 :: a13 :: a14 :: a15 :: a16 :: a17 :: a18 :: a19 :: a20 :: a21 :: a22 :: a23 :: a24 :: a25 :: a26 :: a27 :: a28 :: a29 :: a30 :: a31 :: a32 :: a33 :: a34 :: some d :: σ) S Q X = (Q d S) := id rfl
theorem ax_xc {d : D} {σ : ASt} {S : Sto} {Q : VKD} {X : XKD} : wC d σ S Q X = (Q d S) := id rfl
theorem ax_xop {f : F2} {a b : WE} {σ : ASt} {S : Sto} {Q : VKD} {X : XKD} : wOp f a b σ S Q X = (a σ S (fun x S1 => b σ S1 (fun y S2 => f x y S2 (Lz Q .mk) X) X) X) := id rfl
theorem ax_xcb {g : FC} {w : WA} {σ : ASt} {S : Sto} {Q : VKD} {X : XKD} : wCB g w σ S Q X = (w σ S (fun ds S1 => g ds S1 (Lz Q .mk) X) X) := id rfl
theorem ax_xnil {σ : ASt} {S : Sto} {Q : List D → Sto → Prop} {X : XKD} : wNil σ S Q X = (Q [] S) := id rfl
theorem ax_xcons {e : WE} {w : WA} {σ : ASt} {S : Sto} {Q : List D → Sto → Prop} {X : XKD} : wCons e w σ S Q X = (e σ S (fun d S1 => w σ S1 (fun ds S2 => Q (d :: ds) S2) X) X) := id rfl
theorem ax_xtup {w : WA} {σ : ASt} {S : Sto} {Q : VKD} {X : XKD} : wTup w σ S Q X = (w σ S (fun ds S1 => ds.length ≤ sizeLine ∧ Q (.tup ds) S1) X) := id rfl
theorem ax_xlst {w : WA} {σ : ASt} {S : Sto} {Q : VKD} {X : XKD} : wLst w σ S Q X = (w σ S (fun ds S1 => ds.length ≤ sizeLine ∧ Q (.fl ds) S1) X) := id rfl
theorem ax_xlstr {w : WA} {σ : ASt} {S : Sto} {Q : VKD} {X : XKD} : wLstR w σ S Q X = (w σ S (fun ds S1 => ds.length ≤ sizeLine ∧ Q (.ref S1.length) (S1 ++ [.lst ds])) X) := id rfl
def tsQ (d : D) (S : Sto) (Q : Bool → Sto → Prop) : Prop := match d with
  | .bl b => Q b S
  | _ => False
theorem ax_xtest {w : WE} {σ : ASt} {S : Sto} {Q : Bool → Sto → Prop} {X : XKD} : wTest w σ S Q X = (w σ S (fun d S1 => tsQ d S1 (Lz Q .mk)) X) := id rfl
theorem ax_xts {b : Bool} {S : Sto} {Q : Bool → Sto → Prop} : tsQ (.bl b) S Q = (Q b S) := id rfl
theorem ax_xtrua {w : WE} {σ : ASt} {S : Sto} {Q : Bool → Sto → Prop} {X : XKD} : wTruA w σ S Q X = (w σ S (fun d S1 => fTru d S1 (Lz (fun k => Q k S1) .mk)) X) := id rfl
theorem ax_xand {t u : WT} {σ : ASt} {S : Sto} {Q : Bool → Sto → Prop} {X : XKD} : wAnd t u σ S Q X = (t σ S (fun c S1 => if c = true then Lz (u σ S1 Q X) .mk else Lz (Q false S1) .mk) X) := id rfl
theorem ax_xor {t u : WT} {σ : ASt} {S : Sto} {Q : Bool → Sto → Prop} {X : XKD} : wOr t u σ S Q X = (t σ S (fun c S1 => if c = true then Lz (Q true S1) .mk else Lz (u σ S1 Q X) .mk) X) := id rfl
theorem ax_xnota {t : WT} {σ : ASt} {S : Sto} {Q : Bool → Sto → Prop} {X : XKD} : wNotA t σ S Q X = (t σ S (fun c S1 => Q (!c) S1) X) := id rfl
theorem ax_xandv {a b : WE} {σ : ASt} {S : Sto} {Q : VKD} {X : XKD} : wAndV a b σ S Q X = (a σ S (fun x S1 => fTru x S1 (Lz (fun k => if k = true then Lz (b σ S1 Q X) .mk else Lz (Q x S1) .mk) .mk)) X) := id rfl
theorem ax_xorv {a b : WE} {σ : ASt} {S : Sto} {Q : VKD} {X : XKD} : wOrV a b σ S Q X = (a σ S (fun x S1 => fTru x S1 (Lz (fun k => if k = true then Lz (Q x S1) .mk else Lz (b σ S1 Q X) .mk) .mk)) X) := id rfl
theorem ax_xnotv {a : WE} {σ : ASt} {S : Sto} {Q : VKD} {X : XKD} : wNotV a σ S Q X = (a σ S (fun x S1 => fTru x S1 (Lz (fun k => Q (.bl (!k)) S1) .mk)) X) := id rfl
theorem ax_xif {t : WT} {a b : WE} {σ : ASt} {S : Sto} {Q : VKD} {X : XKD} : wIf t a b σ S Q X = (t σ S (fun c S1 => if c = true then Lz (a σ S1 Q X) .mk else Lz (b σ S1 Q X) .mk) X) := id rfl
def inQ (g : Bool → Bool) (x : D) (S : Sto) (Q : VKD) : Prop := Q (.bl (g (isNon x))) S
theorem ax_xisn {g : Bool → Bool} {a : WE} {σ : ASt} {S : Sto} {Q : VKD} {X : XKD} : wIsN g a σ S Q X = (a σ S (fun x S1 => inQ g x S1 (Lz Q .mk)) X) := id rfl
theorem ax_xin_non {g : Bool → Bool} {S : Sto} {Q : VKD} : inQ g (.non) S Q = (Q (.bl (g true)) S) := id rfl
theorem ax_xin_bl {b : Bool} {g : Bool → Bool} {S : Sto} {Q : VKD} : inQ g (.bl b) S Q = (Q (.bl (g false)) S) := id rfl
theorem ax_xin_int {i : Int} {g : Bool → Bool} {S : Sto} {Q : VKD} : inQ g (.int i) S Q = (Q (.bl (g false)) S) := id rfl
theorem ax_xin_str {x : Str} {g : Bool → Bool} {S : Sto} {Q : VKD} : inQ g (.str x) S Q = (Q (.bl (g false)) S) := id rfl
theorem ax_xin_tup {ds : List D} {g : Bool → Bool} {S : Sto} {Q : VKD} : inQ g (.tup ds) S Q = (Q (.bl (g false)) S) := id rfl
theorem ax_xin_fl {ds : List D} {g : Bool → Bool} {S : Sto} {Q : VKD} : inQ g (.fl ds) S Q = (Q (.bl (g false)) S) := id rfl
theorem ax_xin_scr {ds : List D} {g : Bool → Bool} {S : Sto} {Q : VKD} : inQ g (.scr ds) S Q = (Q (.bl (g false)) S) := id rfl
theorem ax_xin_ref {n : Nat} {g : Bool → Bool} {S : Sto} {Q : VKD} : inQ g (.ref n) S Q = (Q (.bl (g false)) S) := id rfl
theorem ax_xtr_non {S : Sto} {Q : Bool → Prop} : fTru .non S Q = (Q false) := id rfl
theorem ax_xtr_bl {b : Bool} {S : Sto} {Q : Bool → Prop} : fTru (.bl b) S Q = (Q b) := id rfl
theorem ax_xtr_int {i : Int} {S : Sto} {Q : Bool → Prop} : fTru (.int i) S Q = (Q (i != 0)) := id rfl
theorem ax_xtr_str {y : Str} {S : Sto} {Q : Bool → Prop} : fTru (.str y) S Q = (y.length ≤ sizeLine ∧ Q ((y.length : Int) != 0)) := id rfl
theorem ax_xtr_tup {ds : List D} {S : Sto} {Q : Bool → Prop} : fTru (.tup ds) S Q = (Q (!ds.isEmpty)) := id rfl
theorem ax_xtr_fl {ds : List D} {S : Sto} {Q : Bool → Prop} : fTru (.fl ds) S Q = (Q (!ds.isEmpty)) := id rfl
theorem ax_xtr_scr {ds : List D} {S : Sto} {Q : Bool → Prop} : fTru (.scr ds) S Q = (Q (!ds.isEmpty)) := id rfl
theorem ax_xadd_i {i j : Int} {S : Sto} {Q : VKD} {X : XKD} : fAdd (.int i) (.int j) S Q X = (Q (.int (i + j)) S) := id rfl
theorem ax_xadd_s {i j : Str} {S : Sto} {Q : VKD} {X : XKD} : fAdd (.str i) (.str j) S Q X = (i.length + j.length ≤ sizeLine ∧ Q (.str (i ++ j)) S) := id rfl
theorem ax_xadd_t {xs ys : List D} {S : Sto} {Q : VKD} {X : XKD} : fAdd (.tup xs) (.tup ys) S Q X = (xs.length + ys.length ≤ sizeLine ∧ Q (.tup (xs ++ ys)) S) := id rfl
theorem ax_xadd_f {xs ys : List D} {S : Sto} {Q : VKD} {X : XKD} : fAdd (.fl xs) (.fl ys) S Q X = (xs.length + ys.length ≤ sizeLine ∧ Q (.fl (xs ++ ys)) S) := id rfl
theorem ax_xsub {i j : Int} {S : Sto} {Q : VKD} {X : XKD} : fSub (.int i) (.int j) S Q X = (Q (.int (i - j)) S) := id rfl
theorem ax_xmul {i j : Int} {S : Sto} {Q : VKD} {X : XKD} : fMul (.int i) (.int j) S Q X = (MulOk i j ∧ Q (.int (i * j)) S) := id rfl
theorem ax_xmul_f {xs : List D} {k : Int} {S : Sto} {Q : VKD} {X : XKD} : fMul (.fl xs) (.int k) S Q X = ((k < 2 ^ 62 ∧ -(2 ^ 62) ≤ k ∧ xs.length * k.toNat ≤ sizeLine) ∧ Q (.fl (List.replicate k.toNat xs).flatten) S) := id rfl
theorem ax_xdiv {i j : Int} {S : Sto} {Q : VKD} {X : XKD} : fDiv (.int i) (.int j) S Q X = (DivOk j ∧ Q (.int (i.fdiv j)) S) := id rfl
theorem ax_xmod {i j : Int} {S : Sto} {Q : VKD} {X : XKD} : fMod (.int i) (.int j) S Q X = (j ≠ 0 ∧ Q (.int (i.fmod j)) S) := id rfl
theorem ax_xpow {i j : Int} {S : Sto} {Q : VKD} {X : XKD} : fPow (.int i) (.int j) S Q X = (L2.CPow i j ∧ Q (.int (i ^ j.toNat)) S) := id rfl
theorem ax_xshl {i j : Int} {S : Sto} {Q : VKD} {X : XKD} : fShl (.int i) (.int j) S Q X = (L2.CPow i j ∧ Q (.int (i * 2 ^ j.toNat)) S) := id rfl
theorem ax_xlt {i j : Int} {S : Sto} {Q : VKD} {X : XKD} : fLt (.int i) (.int j) S Q X = (Q (.bl (decide (i < j))) S) := id rfl
theorem ax_xle {i j : Int} {S : Sto} {Q : VKD} {X : XKD} : fLe (.int i) (.int j) S Q X = (Q (.bl (decide (i ≤ j))) S) := id rfl
theorem ax_xgt {i j : Int} {S : Sto} {Q : VKD} {X : XKD} : fGt (.int i) (.int j) S Q X = (Q (.bl (decide (j < i))) S) := id rfl
theorem ax_xge {i j : Int} {S : Sto} {Q : VKD} {X : XKD} : fGe (.int i) (.int j) S Q X = (Q (.bl (decide (j ≤ i))) S) := id rfl
theorem ax_xiadd_i {i j : Int} {S : Sto} {Q : VKD} {X : XKD} : fIAdd (.int i) (.int j) S Q X = (Q (.int (i + j)) S) := id rfl
theorem ax_xiadd_s {i j : Str} {S : Sto} {Q : VKD} {X : XKD} : fIAdd (.str i) (.str j) S Q X = (i.length + j.length ≤ sizeLine ∧ Q (.str (i ++ j)) S) := id rfl
def ngQ (x : D) (S : Sto) (Q : VKD) : Prop := match x with
  | .int i => Q (.int (-i)) S
  | _ => False
theorem ax_xneg {a : WE} {σ : ASt} {S : Sto} {Q : VKD} {X : XKD} : wNeg a σ S Q X = (a σ S (fun x S1 => ngQ x S1 (Lz Q .mk)) X) := id rfl
theorem ax_xng {i : Int} {S : Sto} {Q : VKD} : ngQ (.int i) S Q = (Q (.int (-i)) S) := id rfl
/-- == of trees as Python has it -/
def D.eqb (x y : D) : Bool := PyData.eqv x.py y.py
theorem ax_xeq_ii {i j : Int} {S : Sto} {Q : VKD} {X : XKD} : fEq (.int i) (.int j) S Q X = (Q (.bl ((decide (i = j)))) S) := id rfl
theorem ax_xeq_ss {i j : Str} {S : Sto} {Q : VKD} {X : XKD} : fEq (.str i) (.str j) S Q X = (Q (.bl ((decide (i = j)))) S) := id rfl
theorem ax_xeq_non_non {S : Sto} {Q : VKD} {X : XKD} : fEq (.non) (.non) S Q X = (EqOk (.non) (.non) ∧ Q (.bl ((D.eqb (.non) (.non)))) S) := id rfl
theorem ax_xeq_non_bl {b2 : Bool} {S : Sto} {Q : VKD} {X : XKD} : fEq (.non) (.bl b2) S Q X = (EqOk (.non) (.bl b2) ∧ Q (.bl ((D.eqb (.non) (.bl b2)))) S) := id rfl
theorem ax_xeq_non_int {j : Int} {S : Sto} {Q : VKD} {X : XKD} : fEq (.non) (.int j) S Q X = (EqOk (.non) (.int j) ∧ Q (.bl ((D.eqb (.non) (.int j)))) S) := id rfl
theorem ax_xeq_non_str {y : Str} {S : Sto} {Q : VKD} {X : XKD} : fEq (.non) (.str y) S Q X = (EqOk (.non) (.str y) ∧ Q (.bl ((D.eqb (.non) (.str y)))) S) := id rfl
theorem ax_xeq_non_tup {es : List D} {S : Sto} {Q : VKD} {X : XKD} : fEq (.non) (.tup es) S Q X = (EqOk (.non) (.tup es) ∧ Q (.bl ((D.eqb (.non) (.tup es)))) S) := id rfl
theorem ax_xeq_non_fl {es : List D} {S : Sto} {Q : VKD} {X : XKD} : fEq (.non) (.fl es) S Q X = (EqOk (.non) (.fl es) ∧ Q (.bl ((D.eqb (.non) (.fl es)))) S) := id rfl
theorem ax_xeq_non_scr {es : List D} {S : Sto} {Q : VKD} {X : XKD} : fEq (.non) (.scr es) S Q X = (EqOk (.non) (.scr es) ∧ Q (.bl ((D.eqb (.non) (.scr es)))) S) := id rfl
theorem ax_xeq_bl_non {b : Bool} {S : Sto} {Q : VKD} {X : XKD} : fEq (.bl b) (.non) S Q X = (EqOk (.bl b) (.non) ∧ Q (.bl ((D.eqb (.bl b) (.non)))) S) := id rfl
theorem ax_xeq_bl_bl {b : Bool} {b2 : Bool} {S : Sto} {Q : VKD} {X : XKD} : fEq (.bl b) (.bl b2) S Q X = (EqOk (.bl b) (.bl b2) ∧ Q (.bl ((D.eqb (.bl b) (.bl b2)))) S) := id rfl
theorem ax_xeq_bl_int {b : Bool} {j : Int} {S : Sto} {Q : VKD} {X : XKD} : fEq (.bl b) (.int j) S Q X = (EqOk (.bl b) (.int j) ∧ Q (.bl ((D.eqb (.bl b) (.int j)))) S) := id rfl
theorem ax_xeq_bl_str {b : Bool} {y : Str} {S : Sto} {Q : VKD} {X : XKD} : fEq (.bl b) (.str y) S Q X = (EqOk (.bl b) (.str y) ∧ Q (.bl ((D.eqb (.bl b) (.str y)))) S) := id rfl
theorem ax_xeq_bl_tup {b : Bool} {es : List D} {S : Sto} {Q : VKD} {X : XKD} : fEq (.bl b) (.tup es) S Q X = (EqOk (.bl b) (.tup es) ∧ Q (.bl ((D.eqb (.bl b) (.tup es)))) S) := id rfl
theorem ax_xeq_bl_fl {b : Bool} {es : List D} {S : Sto} {Q : VKD} {X : XKD} : fEq (.bl b) (.fl es) S Q X = (EqOk (.bl b) (.fl es) ∧ Q (.bl ((D.eqb (.bl b) (.fl es)))) S) := id rfl
theorem ax_xeq_bl_scr {b : Bool} {es : List D} {S : Sto} {Q : VKD} {X : XKD} : fEq (.bl b) (.scr es) S Q X = (EqOk (.bl b) (.scr es) ∧ Q (.bl ((D.eqb (.bl b) (.scr es)))) S) := id rfl
theorem ax_xeq_int_non {i : Int} {S : Sto} {Q : VKD} {X : XKD} : fEq (.int i) (.non) S Q X = (EqOk (.int i) (.non) ∧ Q (.bl ((D.eqb (.int i) (.non)))) S) := id rfl
theorem ax_xeq_int_bl {i : Int} {b2 : Bool} {S : Sto} {Q : VKD} {X : XKD} : fEq (.int i) (.bl b2) S Q X = (EqOk (.int i) (.bl b2) ∧ Q (.bl ((D.eqb (.int i) (.bl b2)))) S) := id rfl
theorem ax_xeq_int_str {i : Int} {y : Str} {S : Sto} {Q : VKD} {X : XKD} : fEq (.int i) (.str y) S Q X = (EqOk (.int i) (.str y) ∧ Q (.bl ((D.eqb (.int i) (.str y)))) S) := id rfl
theorem ax_xeq_int_tup {i : Int} {es : List D} {S : Sto} {Q : VKD} {X : XKD} : fEq (.int i) (.tup es) S Q X = (EqOk (.int i) (.tup es) ∧ Q (.bl ((D.eqb (.int i) (.tup es)))) S) := id rfl
theorem ax_xeq_int_fl {i : Int} {es : List D} {S : Sto} {Q : VKD} {X : XKD} : fEq (.int i) (.fl es) S Q X = (EqOk (.int i) (.fl es) ∧ Q (.bl ((D.eqb (.int i) (.fl es)))) S) := id rfl
theorem ax_xeq_int_scr {i : Int} {es : List D} {S : Sto} {Q : VKD} {X : XKD} : fEq (.int i) (.scr es) S Q X = (EqOk (.int i) (.scr es) ∧ Q (.bl ((D.eqb (.int i) (.scr es)))) S) := id rfl
theorem ax_xeq_str_non {x : Str} {S : Sto} {Q : VKD} {X : XKD} : fEq (.str x) (.non) S Q X = (EqOk (.str x) (.non) ∧ Q (.bl ((D.eqb (.str x) (.non)))) S) := id rfl
theorem ax_xeq_str_bl {x : Str} {b2 : Bool} {S : Sto} {Q : VKD} {X : XKD} : fEq (.str x) (.bl b2) S Q X = (EqOk (.str x) (.bl b2) ∧ Q (.bl ((D.eqb (.str x) (.bl b2)))) S) := id rfl
theorem ax_xeq_str_int {x : Str} {j : Int} {S : Sto} {Q : VKD} {X : XKD} : fEq (.str x) (.int j) S Q X = (EqOk (.str x) (.int j) ∧ Q (.bl ((D.eqb (.str x) (.int j)))) S) := id rfl
theorem ax_xeq_str_tup {x : Str} {es : List D} {S : Sto} {Q : VKD} {X : XKD} : fEq (.str x) (.tup es) S Q X = (EqOk (.str x) (.tup es) ∧ Q (.bl ((D.eqb (.str x) (.tup es)))) S) := id rfl
theorem ax_xeq_str_fl {x : Str} {es : List D} {S : Sto} {Q : VKD} {X : XKD} : fEq (.str x) (.fl es) S Q X = (EqOk (.str x) (.fl es) ∧ Q (.bl ((D.eqb (.str x) (.fl es)))) S) := id rfl
theorem ax_xeq_str_scr {x : Str} {es : List D} {S : Sto} {Q : VKD} {X : XKD} : fEq (.str x) (.scr es) S Q X = (EqOk (.str x) (.scr es) ∧ Q (.bl ((D.eqb (.str x) (.scr es)))) S) := id rfl
theorem ax_xeq_tup_non {ds : List D} {S : Sto} {Q : VKD} {X : XKD} : fEq (.tup ds) (.non) S Q X = (EqOk (.tup ds) (.non) ∧ Q (.bl ((D.eqb (.tup ds) (.non)))) S) := id rfl
theorem ax_xeq_tup_bl {ds : List D} {b2 : Bool} {S : Sto} {Q : VKD} {X : XKD} : fEq (.tup ds) (.bl b2) S Q X = (EqOk (.tup ds) (.bl b2) ∧ Q (.bl ((D.eqb (.tup ds) (.bl b2)))) S) := id rfl
theorem ax_xeq_tup_int {ds : List D} {j : Int} {S : Sto} {Q : VKD} {X : XKD} : fEq (.tup ds) (.int j) S Q X = (EqOk (.tup ds) (.int j) ∧ Q (.bl ((D.eqb (.tup ds) (.int j)))) S) := id rfl
theorem ax_xeq_tup_str {ds : List D} {y : Str} {S : Sto} {Q : VKD} {X : XKD} : fEq (.tup ds) (.str y) S Q X = (EqOk (.tup ds) (.str y) ∧ Q (.bl ((D.eqb (.tup ds) (.str y)))) S) := id rfl
theorem ax_xeq_tup_tup {ds : List D} {es : List D} {S : Sto} {Q : VKD} {X : XKD} : fEq (.tup ds) (.tup es) S Q X = (EqOk (.tup ds) (.tup es) ∧ Q (.bl ((D.eqb (.tup ds) (.tup es)))) S) := id rfl
theorem ax_xeq_tup_fl {ds : List D} {es : List D} {S : Sto} {Q : VKD} {X : XKD} : fEq (.tup ds) (.fl es) S Q X = (EqOk (.tup ds) (.fl es) ∧ Q (.bl ((D.eqb (.tup ds) (.fl es)))) S) := id rfl
theorem ax_xeq_tup_scr {ds : List D} {es : List D} {S : Sto} {Q : VKD} {X : XKD} : fEq (.tup ds) (.scr es) S Q X = (EqOk (.tup ds) (.scr es) ∧ Q (.bl ((D.eqb (.tup ds) (.scr es)))) S) := id rfl
theorem ax_xeq_fl_non {ds : List D} {S : Sto} {Q : VKD} {X : XKD} : fEq (.fl ds) (.non) S Q X = (EqOk (.fl ds) (.non) ∧ Q (.bl ((D.eqb (.fl ds) (.non)))) S) := id rfl
theorem ax_xeq_fl_bl {ds : List D} {b2 : Bool} {S : Sto} {Q : VKD} {X : XKD} : fEq (.fl ds) (.bl b2) S Q X = (EqOk (.fl ds) (.bl b2) ∧ Q (.bl ((D.eqb (.fl ds) (.bl b2)))) S) := id rfl
theorem ax_xeq_fl_int {ds : List D} {j : Int} {S : Sto} {Q : VKD} {X : XKD} : fEq (.fl ds) (.int j) S Q X = (EqOk (.fl ds) (.int j) ∧ Q (.bl ((D.eqb (.fl ds) (.int j)))) S) := id rfl
theorem ax_xeq_fl_str {ds : List D} {y : Str} {S : Sto} {Q : VKD} {X : XKD} : fEq (.fl ds) (.str y) S Q X = (EqOk (.fl ds) (.str y) ∧ Q (.bl ((D.eqb (.fl ds) (.str y)))) S) := id rfl
theorem ax_xeq_fl_tup {ds : List D} {es : List D} {S : Sto} {Q : VKD} {X : XKD} : fEq (.fl ds) (.tup es) S Q X = (EqOk (.fl ds) (.tup es) ∧ Q (.bl ((D.eqb (.fl ds) (.tup es)))) S) := id rfl
theorem ax_xeq_fl_fl {ds : List D} {es : List D} {S : Sto} {Q : VKD} {X : XKD} : fEq (.fl ds) (.fl es) S Q X = (EqOk (.fl ds) (.fl es) ∧ Q (.bl ((D.eqb (.fl ds) (.fl es)))) S) := id rfl
theorem ax_xeq_fl_scr {ds : List D} {es : List D} {S : Sto} {Q : VKD} {X : XKD} : fEq (.fl ds) (.scr es) S Q X = (EqOk (.fl ds) (.scr es) ∧ Q (.bl ((D.eqb (.fl ds) (.scr es)))) S) := id rfl
theorem ax_xeq_scr_non {ds : List D} {S : Sto} {Q : VKD} {X : XKD} : fEq (.scr ds) (.non) S Q X = (EqOk (.scr ds) (.non) ∧ Q (.bl ((D.eqb (.scr ds) (.non)))) S) := id rfl
theorem ax_xeq_scr_bl {ds : List D} {b2 : Bool} {S : Sto} {Q : VKD} {X : XKD} : fEq (.scr ds) (.bl b2) S Q X = (EqOk (.scr ds) (.bl b2) ∧ Q (.bl ((D.eqb (.scr ds) (.bl b2)))) S) := id rfl
theorem ax_xeq_scr_int {ds : List D} {j : Int} {S : Sto} {Q : VKD} {X : XKD} : fEq (.scr ds) (.int j) S Q X = (EqOk (.scr ds) (.int j) ∧ Q (.bl ((D.eqb (.scr ds) (.int j)))) S) := id rfl
theorem ax_xeq_scr_str {ds : List D} {y : Str} {S : Sto} {Q : VKD} {X : XKD} : fEq (.scr ds) (.str y) S Q X = (EqOk (.scr ds) (.str y) ∧ Q (.bl ((D.eqb (.scr ds) (.str y)))) S) := id rfl
theorem ax_xeq_scr_tup {ds : List D} {es : List D} {S : Sto} {Q : VKD} {X : XKD} : fEq (.scr ds) (.tup es) S Q X = (EqOk (.scr ds) (.tup es) ∧ Q (.bl ((D.eqb (.scr ds) (.tup es)))) S) := id rfl
theorem ax_xeq_scr_fl {ds : List D} {es : List D} {S : Sto} {Q : VKD} {X : XKD} : fEq (.scr ds) (.fl es) S Q X = (EqOk (.scr ds) (.fl es) ∧ Q (.bl ((D.eqb (.scr ds) (.fl es)))) S) := id rfl
theorem ax_xeq_scr_scr {ds : List D} {es : List D} {S : Sto} {Q : VKD} {X : XKD} : fEq (.scr ds) (.scr es) S Q X = (EqOk (.scr ds) (.scr es) ∧ Q (.bl ((D.eqb (.scr ds) (.scr es)))) S) := id rfl
theorem ax_xne_ii {i j : Int} {S : Sto} {Q : VKD} {X : XKD} : fNe (.int i) (.int j) S Q X = (Q (.bl (!(decide (i = j)))) S) := id rfl
theorem ax_xne_ss {i j : Str} {S : Sto} {Q : VKD} {X : XKD} : fNe (.str i) (.str j) S Q X = (Q (.bl (!(decide (i = j)))) S) := id rfl
theorem ax_xne_non_non {S : Sto} {Q : VKD} {X : XKD} : fNe (.non) (.non) S Q X = (EqOk (.non) (.non) ∧ Q (.bl (!(D.eqb (.non) (.non)))) S) := id rfl
theorem ax_xne_non_bl {b2 : Bool} {S : Sto} {Q : VKD} {X : XKD} : fNe (.non) (.bl b2) S Q X = (EqOk (.non) (.bl b2) ∧ Q (.bl (!(D.eqb (.non) (.bl b2)))) S) := id rfl
theorem ax_xne_non_int {j : Int} {S : Sto} {Q : VKD} {X : XKD} : fNe (.non) (.int j) S Q X = (EqOk (.non) (.int j) ∧ Q (.bl (!(D.eqb (.non) (.int j)))) S) := id rfl
theorem ax_xne_non_str {y : Str} {S : Sto} {Q : VKD} {X : XKD} : fNe (.non) (.str y) S Q X = (EqOk (.non) (.str y) ∧ Q (.bl (!(D.eqb (.non) (.str y)))) S) := id rfl
theorem ax_xne_non_tup {es : List D} {S : Sto} {Q : VKD} {X : XKD} : fNe (.non) (.tup es) S Q X = (EqOk (.non) (.tup es) ∧ Q (.bl (!(D.eqb (.non) (.tup es)))) S) := id rfl
theorem ax_xne_non_fl {es : List D} {S : Sto} {Q : VKD} {X : XKD} : fNe (.non) (.fl es) S Q X = (EqOk (.non) (.fl es) ∧ Q (.bl (!(D.eqb (.non) (.fl es)))) S) := id rfl
theorem ax_xne_non_scr {es : List D} {S : Sto} {Q : VKD} {X : XKD} : fNe (.non) (.scr es) S Q X = (EqOk (.non) (.scr es) ∧ Q (.bl (!(D.eqb (.non) (.scr es)))) S) := id rfl
theorem ax_xne_bl_non {b : Bool} {S : Sto} {Q : VKD} {X : XKD} : fNe (.bl b) (.non) S Q X = (EqOk (.bl b) (.non) ∧ Q (.bl (!(D.eqb (.bl b) (.non)))) S) := id rfl
theorem ax_xne_bl_bl {b : Bool} {b2 : Bool} {S : Sto} {Q : VKD} {X : XKD} : fNe (.bl b) (.bl b2) S Q X = (EqOk (.bl b) (.bl b2) ∧ Q (.bl (!(D.eqb (.bl b) (.bl b2)))) S) := id rfl
theorem ax_xne_bl_int {b : Bool} {j : Int} {S : Sto} {Q : VKD} {X : XKD} : fNe (.bl b) (.int j) S Q X = (EqOk (.bl b) (.int j) ∧ Q (.bl (!(D.eqb (.bl b) (.int j)))) S) := id rfl
theorem ax_xne_bl_str {b : Bool} {y : Str} {S : Sto} {Q : VKD} {X : XKD} : fNe (.bl b) (.str y) S Q X = (EqOk (.bl b) (.str y) ∧ Q (.bl (!(D.eqb (.bl b) (.str y)))) S) := id rfl
theorem ax_xne_bl_tup {b : Bool} {es : List D} {S : Sto} {Q : VKD} {X : XKD} : fNe (.bl b) (.tup es) S Q X = (EqOk (.bl b) (.tup es) ∧ Q (.bl (!(D.eqb (.bl b) (.tup es)))) S) := id rfl
theorem ax_xne_bl_fl {b : Bool} {es : List D} {S : Sto} {Q : VKD} {X : XKD} : fNe (.bl b) (.fl es) S Q X = (EqOk (.bl b) (.fl es) ∧ Q (.bl (!(D.eqb (.bl b) (.fl es)))) S) := id rfl
theorem ax_xne_bl_scr {b : Bool} {es : List D} {S : Sto} {Q : VKD} {X : XKD} : fNe (.bl b) (.scr es) S Q X = (EqOk (.bl b) (.scr es) ∧ Q (.bl (!(D.eqb (.bl b) (.scr es)))) S) := id rfl
theorem ax_xne_int_non {i : Int} {S : Sto} {Q : VKD} {X : XKD} : fNe (.int i) (.non) S Q X = (EqOk (.int i) (.non) ∧ Q (.bl (!(D.eqb (.int i) (.non)))) S) := id rfl
theorem ax_xne_int_bl {i : Int} {b2 : Bool} {S : Sto} {Q : VKD} {X : XKD} : fNe (.int i) (.bl b2) S Q X = (EqOk (.int i) (.bl b2) ∧ Q (.bl (!(D.eqb (.int i) (.bl b2)))) S) := id rfl
theorem ax_xne_int_str {i : Int} {y : Str} {S : Sto} {Q : VKD} {X : XKD} : fNe (.int i) (.str y) S Q X = (EqOk (.int i) (.str y) ∧ Q (.bl (!(D.eqb (.int i) (.str y)))) S) := id rfl
theorem ax_xne_int_tup {i : Int} {es : List D} {S : Sto} {Q : VKD} {X : XKD} : fNe (.int i) (.tup es) S Q X = (EqOk (.int i) (.tup es) ∧ Q (.bl (!(D.eqb (.int i) (.tup es)))) S) := id rfl
theorem ax_xne_int_fl {i : Int} {es : List D} {S : Sto} {Q : VKD} {X : XKD} : fNe (.int i) (.fl es) S Q X = (EqOk (.int i) (.fl es) ∧ Q (.bl (!(D.eqb (.int i) (.fl es)))) S) := id rfl
theorem ax_xne_int_scr {i : Int} {es : List D} {S : Sto} {Q : VKD} {X : XKD} : fNe (.int i) (.scr es) S Q X = (EqOk (.int i) (.scr es) ∧ Q (.bl (!(D.eqb (.int i) (.scr es)))) S) := id rfl
theorem ax_xne_str_non {x : Str} {S : Sto} {Q : VKD} {X : XKD} : fNe (.str x) (.non) S Q X = (EqOk (.str x) (.non) ∧ Q (.bl (!(D.eqb (.str x) (.non)))) S) := id rfl
theorem ax_xne_str_bl {x : Str} {b2 : Bool} {S : Sto} {Q : VKD} {X : XKD} : fNe (.str x) (.bl b2) S Q X = (EqOk (.str x) (.bl b2) ∧ Q (.bl (!(D.eqb (.str x) (.bl b2)))) S) := id rfl
theorem ax_xne_str_int {x : Str} {j : Int} {S : Sto} {Q : VKD} {X : XKD} : fNe (.str x) (.int j) S Q X = (EqOk (.str x) (.int j) ∧ Q (.bl (!(D.eqb (.str x) (.int j)))) S) := id rfl
theorem ax_xne_str_tup {x : Str} {es : List D} {S : Sto} {Q : VKD} {X : XKD} : fNe (.str x) (.tup es) S Q X = (EqOk (.str x) (.tup es) ∧ Q (.bl (!(D.eqb (.str x) (.tup es)))) S) := id rfl
theorem ax_xne_str_fl {x : Str} {es : List D} {S : Sto} {Q : VKD} {X : XKD} : fNe (.str x) (.fl es) S Q X = (EqOk (.str x) (.fl es) ∧ Q (.bl (!(D.eqb (.str x) (.fl es)))) S) := id rfl
theorem ax_xne_str_scr {x : Str} {es : List D} {S : Sto} {Q : VKD} {X : XKD} : fNe (.str x) (.scr es) S Q X = (EqOk (.str x) (.scr es) ∧ Q (.bl (!(D.eqb (.str x) (.scr es)))) S) := id rfl
theorem ax_xne_tup_non {ds : List D} {S : Sto} {Q : VKD} {X : XKD} : fNe (.tup ds) (.non) S Q X = (EqOk (.tup ds) (.non) ∧ Q (.bl (!(D.eqb (.tup ds) (.non)))) S) := id rfl
theorem ax_xne_tup_bl {ds : List D} {b2 : Bool} {S : Sto} {Q : VKD} {X : XKD} : fNe (.tup ds) (.bl b2) S Q X = (EqOk (.tup ds) (.bl b2) ∧ Q (.bl (!(D.eqb (.tup ds) (.bl b2)))) S) := id rfl
theorem ax_xne_tup_int {ds : List D} {j : Int} {S : Sto} {Q : VKD} {X : XKD} : fNe (.tup ds) (.int j) S Q X = (EqOk (.tup ds) (.int j) ∧ Q (.bl (!(D.eqb (.tup ds) (.int j)))) S) := id rfl
theorem ax_xne_tup_str {ds : List D} {y : Str} {S : Sto} {Q : VKD} {X : XKD} : fNe (.tup ds) (.str y) S Q X = (EqOk (.tup ds) (.str y) ∧ Q (.bl (!(D.eqb (.tup ds) (.str y)))) S) := id rfl
theorem ax_xne_tup_tup {ds : List D} {es : List D} {S : Sto} {Q : VKD} {X : XKD} : fNe (.tup ds) (.tup es) S Q X = (EqOk (.tup ds) (.tup es) ∧ Q (.bl (!(D.eqb (.tup ds) (.tup es)))) S) := id rfl
theorem ax_xne_tup_fl {ds : List D} {es : List D} {S : Sto} {Q : VKD} {X : XKD} : fNe (.tup ds) (.fl es) S Q X = (EqOk (.tup ds) (.fl es) ∧ Q (.bl (!(D.eqb (.tup ds) (.fl es)))) S) := id rfl
theorem ax_xne_tup_scr {ds : List D} {es : List D} {S : Sto} {Q : VKD} {X : XKD} : fNe (.tup ds) (.scr es) S Q X = (EqOk (.tup ds) (.scr es) ∧ Q (.bl (!(D.eqb (.tup ds) (.scr es)))) S) := id rfl
theorem ax_xne_fl_non {ds : List D} {S : Sto} {Q : VKD} {X : XKD} : fNe (.fl ds) (.non) S Q X = (EqOk (.fl ds) (.non) ∧ Q (.bl (!(D.eqb (.fl ds) (.non)))) S) := id rfl
theorem ax_xne_fl_bl {ds : List D} {b2 : Bool} {S : Sto} {Q : VKD} {X : XKD} : fNe (.fl ds) (.bl b2) S Q X = (EqOk (.fl ds) (.bl b2) ∧ Q (.bl (!(D.eqb (.fl ds) (.bl b2)))) S) := id rfl
theorem ax_xne_fl_int {ds : List D} {j : Int} {S : Sto} {Q : VKD} {X : XKD} : fNe (.fl ds) (.int j) S Q X = (EqOk (.fl ds) (.int j) ∧ Q (.bl (!(D.eqb (.fl ds) (.int j)))) S) := id rfl
theorem ax_xne_fl_str {ds : List D} {y : Str} {S : Sto} {Q : VKD} {X : XKD} : fNe (.fl ds) (.str y) S Q X = (EqOk (.fl ds) (.str y) ∧ Q (.bl (!(D.eqb (.fl ds) (.str y)))) S) := id rfl
theorem ax_xne_fl_tup {ds : List D} {es : List D} {S : Sto} {Q : VKD} {X : XKD} : fNe (.fl ds) (.tup es) S Q X = (EqOk (.fl ds) (.tup es) ∧ Q (.bl (!(D.eqb (.fl ds) (.tup es)))) S) := id rfl
theorem ax_xne_fl_fl {ds : List D} {es : List D} {S : Sto} {Q : VKD} {X : XKD} : fNe (.fl ds) (.fl es) S Q X = (EqOk (.fl ds) (.fl es) ∧ Q (.bl (!(D.eqb (.fl ds) (.fl es)))) S) := id rfl
theorem ax_xne_fl_scr {ds : List D} {es : List D} {S : Sto} {Q : VKD} {X : XKD} : fNe (.fl ds) (.scr es) S Q X = (EqOk (.fl ds) (.scr es) ∧ Q (.bl (!(D.eqb (.fl ds) (.scr es)))) S) := id rfl
theorem ax_xne_scr_non {ds : List D} {S : Sto} {Q : VKD} {X : XKD} : fNe (.scr ds) (.non) S Q X = (EqOk (.scr ds) (.non) ∧ Q (.bl (!(D.eqb (.scr ds) (.non)))) S) := id rfl
theorem ax_xne_scr_bl {ds : List D} {b2 : Bool} {S : Sto} {Q : VKD} {X : XKD} : fNe (.scr ds) (.bl b2) S Q X = (EqOk (.scr ds) (.bl b2) ∧ Q (.bl (!(D.eqb (.scr ds) (.bl b2)))) S) := id rfl
theorem ax_xne_scr_int {ds : List D} {j : Int} {S : Sto} {Q : VKD} {X : XKD} : fNe (.scr ds) (.int j) S Q X = (EqOk (.scr ds) (.int j) ∧ Q (.bl (!(D.eqb (.scr ds) (.int j)))) S) := id rfl
theorem ax_xne_scr_str {ds : List D} {y : Str} {S : Sto} {Q : VKD} {X : XKD} : fNe (.scr ds) (.str y) S Q X = (EqOk (.scr ds) (.str y) ∧ Q (.bl (!(D.eqb (.scr ds) (.str y)))) S) := id rfl
theorem ax_xne_scr_tup {ds : List D} {es : List D} {S : Sto} {Q : VKD} {X : XKD} : fNe (.scr ds) (.tup es) S Q X = (EqOk (.scr ds) (.tup es) ∧ Q (.bl (!(D.eqb (.scr ds) (.tup es)))) S) := id rfl
theorem ax_xne_scr_fl {ds : List D} {es : List D} {S : Sto} {Q : VKD} {X : XKD} : fNe (.scr ds) (.fl es) S Q X = (EqOk (.scr ds) (.fl es) ∧ Q (.bl (!(D.eqb (.scr ds) (.fl es)))) S) := id rfl
theorem ax_xne_scr_scr {ds : List D} {es : List D} {S : Sto} {Q : VKD} {X : XKD} : fNe (.scr ds) (.scr es) S Q X = (EqOk (.scr ds) (.scr es) ∧ Q (.bl (!(D.eqb (.scr ds) (.scr es)))) S) := id rfl
def atQ (ds : List D) (k : Int) (Q : D → Prop) : Prop := match L2.atI ds k with
  | some d => Q d
  | none => False
theorem atQ_of {ds : List D} {k : Int} {d : D} {Q : D → Prop} (h : L2.atI ds k = some d) : atQ ds k Q = Q d := by unfold atQ; rw [h]
theorem ax_xix_tup {ds : List D} {k : Int} {S : Sto} {Q : VKD} {X : XKD} : fIx (.tup ds) (.int k) S Q X = (atQ ds k (Lz (fun d => Q d S) .mk)) := id rfl
theorem ax_xix_fl {ds : List D} {k : Int} {S : Sto} {Q : VKD} {X : XKD} : fIx (.fl ds) (.int k) S Q X = (atQ ds k (Lz (fun d => Q d S) .mk)) := id rfl
theorem ax_xix_scr {ds : List D} {k : Int} {S : Sto} {Q : VKD} {X : XKD} : fIx (.scr ds) (.int k) S Q X = (atQ ds k (Lz (fun d => Q d S) .mk)) := id rfl
theorem ax_xat0 {a0 : D} {r : List D} {Q : D → Prop} : atQ (a0 :: r) 0 Q = (Q a0) := atQ_of (L2.atI_nat (j := 0) rfl)
theorem ax_xat1 {a0 a1 : D} {r : List D} {Q : D → Prop} : atQ (a0 :: a1 :: r) 1 Q = (Q a1) := atQ_of (L2.atI_nat (j := 1) rfl)
theorem ax_xat2 {a0 a1 a2 : D} {r : List D} {Q : D → Prop} : atQ (a0 :: a1 :: a2 :: r) 2 Q = (Q a2) := atQ_of (L2.atI_nat (j := 2) rfl)
theorem ax_xat3 {a0 a1 a2 a3 : D} {r : List D} {Q : D → Prop} : atQ (a0 :: a1 :: a2 :: a3 :: r) 3 Q = (Q a3) := atQ_of (L2.atI_nat (j := 3) rfl)
theorem ax_xat4 {a0 a1 a2 a3 a4 : D} {r : List D} {Q : D → Prop} : atQ (a0 :: a1 :: a2 :: a3 :: a4 :: r) 4 Q = (Q a4) := atQ_of (L2.atI_nat (j := 4) rfl)
theorem ax_xat5 {a0 a1 a2 a3 a4 a5 : D} {r : List D} {Q : D → Prop} : atQ (a0 :: a1 :: a2 :: a3 :: a4 :: a5 :: r) 5 Q = (Q a5) := atQ_of (L2.atI_nat (j := 5) rfl)
theorem ax_xat6 {a0 a1 a2 a3 a4 a5 a6 : D} {r : List D} {Q : D → Prop} : atQ (a0 :: a1 :: a2 :: a3 :: a4 :: a5 :: a6 :: r) 6 Q = (Q a6) := atQ_of (L2.atI_nat (j := 6) rfl)
theorem ax_xat7 {a0 a1 a2 a3 a4 a5 a6 a7 : D} {r : List D} {Q : D → Prop} : atQ (a0 :: a1 :: a2 :: a3 :: a4 :: a5 :: a6 :: a7 :: r) 7 Q = (Q a7) := atQ_of (L2.atI_nat (j := 7) rfl)
theorem ax_xat8 {a0 a1 a2 a3 a4 a5 a6 a7 a8 : D} {r : List D} {Q : D → Prop} : atQ (a0 :: a1 :: a2 :: a3 :: a4 :: a5 :: a6 :: a7 :: a8 :: r) 8 Q = (Q a8) := atQ_of (L2.atI_nat (j := 8) rfl)
theorem ax_xat9 {a0 a1 a2 a3 a4 a5 a6 a7 a8 a9 : D} {r : List D} {Q : D → Prop} : atQ (a0 :: a1 :: a2 :: a3 :: a4 :: a5 :: a6 :: a7 :: a8 :: a9 :: r) 9 Q = (Q a9) := atQ_of (L2.atI_nat (j := 9) rfl)
theorem ax_xat10 {a0 a1 a2 a3 a4 a5 a6 a7 a8 a9 a10 : D} {r : List D} {Q : D → Prop} : atQ (a0 :: a1 :: a2 :: a3 :: a4 :: a5 :: a6 :: a7 :: a8 :: a9 :: a10 :: r) 10 Q = (Q a10) := atQ_of (L2.atI_nat (j := 10) rfl)
theorem ax_xat11 {a0 a1 a2 a3 a4 a5 a6 a7 a8 a9 a10 a11 : D} {r : List D} {Q : D → Prop} : atQ (a0 :: a1 :: a2 :: a3 :: a4 :: a5 :: a6 :: a7 :: a8 :: a9 :: a10 :: a11 :: r) 11 Q = (Q a11) := atQ_of (L2.atI_nat (j := 11) rfl)
theorem ax_xlast1 {a0 : D} {Q : D → Prop} : atQ [a0] (-1) Q = (Q a0) := atQ_of (by rw [atI_last1]; rfl)
theorem ax_xlast2 {a0 a1 : D} {Q : D → Prop} : atQ [a0, a1] (-1) Q = (Q a1) := atQ_of (by rw [atI_last1]; rfl)
theorem ax_xlast3 {a0 a1 a2 : D} {Q : D → Prop} : atQ [a0, a1, a2] (-1) Q = (Q a2) := atQ_of (by rw [atI_last1]; rfl)
theorem ax_xlast4 {a0 a1 a2 a3 : D} {Q : D → Prop} : atQ [a0, a1, a2, a3] (-1) Q = (Q a3) := atQ_of (by rw [atI_last1]; rfl)
theorem ax_xlast5 {a0 a1 a2 a3 a4 : D} {Q : D → Prop} : atQ [a0, a1, a2, a3, a4] (-1) Q = (Q a4) := atQ_of (by rw [atI_last1]; rfl)
theorem ax_gabs {i : Int} {S : Sto} {Q : VKD} {X : XKD} : gAbs [.int i] S Q X = (Q (.int (i.natAbs : Int)) S) := id rfl
theorem ax_gint_i {i : Int} {S : Sto} {Q : VKD} {X : XKD} : gInt [.int i] S Q X = (Q (.int i) S) := id rfl
theorem ax_gint_b {b : Bool} {S : Sto} {Q : VKD} {X : XKD} : gInt [.bl b] S Q X = (Q (.int (if b then 1 else 0)) S) := id rfl
theorem ax_glen_s {z : Str} {S : Sto} {Q : VKD} {X : XKD} : gLen [.str z] S Q X = (z.length ≤ sizeLine ∧ Q (.int (z.length : Int)) S) := id rfl
theorem ax_glen_tup {ds : List D} {S : Sto} {Q : VKD} {X : XKD} : gLen [.tup ds] S Q X = (Q (.int (ds.length : Int)) S) := id rfl
theorem ax_gtuple_tup {ds : List D} {S : Sto} {Q : VKD} {X : XKD} : gTuple [.tup ds] S Q X = (Q (.tup ds) S) := id rfl
theorem ax_glst_tup {ds : List D} {S : Sto} {Q : VKD} {X : XKD} : gList [.tup ds] S Q X = (Q (.fl ds) S) := id rfl
theorem ax_glstr_tup {ds : List D} {S : Sto} {Q : VKD} {X : XKD} : gListR [.tup ds] S Q X = (Q (.ref S.length) (S ++ [.lst ds])) := id rfl
theorem ax_glen_fl {ds : List D} {S : Sto} {Q : VKD} {X : XKD} : gLen [.fl ds] S Q X = (Q (.int (ds.length : Int)) S) := id rfl
theorem ax_gtuple_fl {ds : List D} {S : Sto} {Q : VKD} {X : XKD} : gTuple [.fl ds] S Q X = (Q (.tup ds) S) := id rfl
theorem ax_glst_fl {ds : List D} {S : Sto} {Q : VKD} {X : XKD} : gList [.fl ds] S Q X = (Q (.fl ds) S) := id rfl
theorem ax_glstr_fl {ds : List D} {S : Sto} {Q : VKD} {X : XKD} : gListR [.fl ds] S Q X = (Q (.ref S.length) (S ++ [.lst ds])) := id rfl
theorem ax_glen_scr {ds : List D} {S : Sto} {Q : VKD} {X : XKD} : gLen [.scr ds] S Q X = (Q (.int (ds.length : Int)) S) := id rfl
theorem ax_gtuple_scr {ds : List D} {S : Sto} {Q : VKD} {X : XKD} : gTuple [.scr ds] S Q X = (Q (.tup ds) S) := id rfl
theorem ax_glst_scr {ds : List D} {S : Sto} {Q : VKD} {X : XKD} : gList [.scr ds] S Q X = (Q (.fl ds) S) := id rfl
theorem ax_glstr_scr {ds : List D} {S : Sto} {Q : VKD} {X : XKD} : gListR [.scr ds] S Q X = (Q (.ref S.length) (S ++ [.lst ds])) := id rfl
def blQ (r : Option (List Bool)) (g : List Bool → Bool) (Q : Bool → Prop) : Prop := match r with
  | some bs => Q (g bs)
  | none => False
theorem blQ_map (bs : List Bool) {g : List Bool → Bool} {Q : Bool → Prop} : blQ (blsOf (bs.map D.bl)) g Q = Q (g bs) := by rw [blsOf_map]; rfl
theorem blQ_of {α : Type} {xs : List α} {f : α → Bool} {g : List Bool → Bool} {Q : Bool → Prop} : blQ (blsOf (xs.map fun x => .bl (f x))) g Q = Q (g (xs.map f)) := by
  rw [show (xs.map fun x => D.bl (f x)) = (xs.map f).map D.bl by rw [List.map_map]; rfl, blQ_map]
def inQs (r : Option (List Int)) (Q : Int → Prop) : Prop := match r with
  | some ns => Q ns.sum
  | none => False
theorem inQs_map (ns : List Int) {Q : Int → Prop} : inQs (intsOf (ns.map D.int)) Q = Q ns.sum := by rw [intsOf_map]; rfl
theorem ax_gall {ds : List D} {S : Sto} {Q : VKD} {X : XKD} : gAll [.fl ds] S Q X = (blQ (blsOf ds) (fun bs => bs.all id) (Lz (fun b => Q (.bl b) S) .mk)) := (by unfold gAll blQ; rfl)
theorem ax_gany {ds : List D} {S : Sto} {Q : VKD} {X : XKD} : gAny [.fl ds] S Q X = (blQ (blsOf ds) (fun bs => bs.any id) (Lz (fun b => Q (.bl b) S) .mk)) := (by unfold gAny blQ; rfl)
theorem ax_gsum {ds : List D} {S : Sto} {Q : VKD} {X : XKD} : gSum [.fl ds] S Q X = (inQs (intsOf ds) (Lz (fun n => Q (.int n) S) .mk)) := (by unfold gSum inQs; rfl)
theorem ax_gmax {i j : Int} {S : Sto} {Q : VKD} {X : XKD} : gMax [.int i, .int j] S Q X = (Q (.int (max i j)) S) := id rfl
theorem ax_gmin {i j : Int} {S : Sto} {Q : VKD} {X : XKD} : gMin [.int i, .int j] S Q X = (Q (.int (min i j)) S) := id rfl
def isQ (T : TN) (d : D) (S : Sto) (Q : VKD) : Prop := match isTN T S d with
  | some b => Q (.bl b) S
  | none => False
theorem ax_xisi {T : TN} {e : WE} {σ : ASt} {S : Sto} {Q : VKD} {X : XKD} : wIsi T e σ S Q X = (e σ S (fun d S1 => isQ T d S1 (Lz Q .mk)) X) := id rfl
theorem ax_xis_int_non {S : Sto} {Q : VKD} : isQ .int (.non) S Q = (Q (.bl false) S) := id rfl
theorem ax_xis_int_bl {b : Bool} {S : Sto} {Q : VKD} : isQ .int (.bl b) S Q = (Q (.bl true) S) := id rfl
theorem ax_xis_int_int {i : Int} {S : Sto} {Q : VKD} : isQ .int (.int i) S Q = (Q (.bl true) S) := id rfl
theorem ax_xis_int_str {x : Str} {S : Sto} {Q : VKD} : isQ .int (.str x) S Q = (Q (.bl false) S) := id rfl
theorem ax_xis_int_tup {ds : List D} {S : Sto} {Q : VKD} : isQ .int (.tup ds) S Q = (Q (.bl false) S) := id rfl
theorem ax_xis_int_fl {ds : List D} {S : Sto} {Q : VKD} : isQ .int (.fl ds) S Q = (Q (.bl false) S) := id rfl
theorem ax_xis_int_scr {ds : List D} {S : Sto} {Q : VKD} : isQ .int (.scr ds) S Q = (Q (.bl false) S) := id rfl
theorem ax_xis_bool_non {S : Sto} {Q : VKD} : isQ .bool (.non) S Q = (Q (.bl false) S) := id rfl
theorem ax_xis_bool_bl {b : Bool} {S : Sto} {Q : VKD} : isQ .bool (.bl b) S Q = (Q (.bl true) S) := id rfl
theorem ax_xis_bool_int {i : Int} {S : Sto} {Q : VKD} : isQ .bool (.int i) S Q = (Q (.bl false) S) := id rfl
theorem ax_xis_bool_str {x : Str} {S : Sto} {Q : VKD} : isQ .bool (.str x) S Q = (Q (.bl false) S) := id rfl
theorem ax_xis_bool_tup {ds : List D} {S : Sto} {Q : VKD} : isQ .bool (.tup ds) S Q = (Q (.bl false) S) := id rfl
theorem ax_xis_bool_fl {ds : List D} {S : Sto} {Q : VKD} : isQ .bool (.fl ds) S Q = (Q (.bl false) S) := id rfl
theorem ax_xis_bool_scr {ds : List D} {S : Sto} {Q : VKD} : isQ .bool (.scr ds) S Q = (Q (.bl false) S) := id rfl
theorem ax_xis_str_non {S : Sto} {Q : VKD} : isQ .str (.non) S Q = (Q (.bl false) S) := id rfl
theorem ax_xis_str_bl {b : Bool} {S : Sto} {Q : VKD} : isQ .str (.bl b) S Q = (Q (.bl false) S) := id rfl
theorem ax_xis_str_int {i : Int} {S : Sto} {Q : VKD} : isQ .str (.int i) S Q = (Q (.bl false) S) := id rfl
theorem ax_xis_str_str {x : Str} {S : Sto} {Q : VKD} : isQ .str (.str x) S Q = (Q (.bl true) S) := id rfl
theorem ax_xis_str_tup {ds : List D} {S : Sto} {Q : VKD} : isQ .str (.tup ds) S Q = (Q (.bl false) S) := id rfl
theorem ax_xis_str_fl {ds : List D} {S : Sto} {Q : VKD} : isQ .str (.fl ds) S Q = (Q (.bl false) S) := id rfl
theorem ax_xis_str_scr {ds : List D} {S : Sto} {Q : VKD} : isQ .str (.scr ds) S Q = (Q (.bl false) S) := id rfl
theorem ax_xis_tuple_non {S : Sto} {Q : VKD} : isQ .tuple (.non) S Q = (Q (.bl false) S) := id rfl
theorem ax_xis_tuple_bl {b : Bool} {S : Sto} {Q : VKD} : isQ .tuple (.bl b) S Q = (Q (.bl false) S) := id rfl
theorem ax_xis_tuple_int {i : Int} {S : Sto} {Q : VKD} : isQ .tuple (.int i) S Q = (Q (.bl false) S) := id rfl
theorem ax_xis_tuple_str {x : Str} {S : Sto} {Q : VKD} : isQ .tuple (.str x) S Q = (Q (.bl false) S) := id rfl
theorem ax_xis_tuple_tup {ds : List D} {S : Sto} {Q : VKD} : isQ .tuple (.tup ds) S Q = (Q (.bl true) S) := id rfl
theorem ax_xis_tuple_fl {ds : List D} {S : Sto} {Q : VKD} : isQ .tuple (.fl ds) S Q = (Q (.bl false) S) := id rfl
theorem ax_xis_tuple_scr {ds : List D} {S : Sto} {Q : VKD} : isQ .tuple (.scr ds) S Q = (Q (.bl false) S) := id rfl
theorem ax_xis_list_non {S : Sto} {Q : VKD} : isQ .list (.non) S Q = (Q (.bl false) S) := id rfl
theorem ax_xis_list_bl {b : Bool} {S : Sto} {Q : VKD} : isQ .list (.bl b) S Q = (Q (.bl false) S) := id rfl
theorem ax_xis_list_int {i : Int} {S : Sto} {Q : VKD} : isQ .list (.int i) S Q = (Q (.bl false) S) := id rfl
theorem ax_xis_list_str {x : Str} {S : Sto} {Q : VKD} : isQ .list (.str x) S Q = (Q (.bl false) S) := id rfl
theorem ax_xis_list_tup {ds : List D} {S : Sto} {Q : VKD} : isQ .list (.tup ds) S Q = (Q (.bl false) S) := id rfl
theorem ax_xis_list_fl {ds : List D} {S : Sto} {Q : VKD} : isQ .list (.fl ds) S Q = (Q (.bl true) S) := id rfl
theorem ax_xis_list_scr {ds : List D} {S : Sto} {Q : VKD} : isQ .list (.scr ds) S Q = (Q (.bl true) S) := id rfl
theorem ax_xinb_tup {neg : Bool} {x : D} {ds : List D} {S : Sto} {Q : VKD} {X : XKD} : fInB neg x (.tup ds) S Q X = ((flatD x = true ∧ ds.all flatD = true) ∧ Q (.bl (if neg then !(ds.any fun d => eqF d x) else ds.any fun d => eqF d x)) S) := id rfl
theorem ax_xinb_fl {neg : Bool} {x : D} {ds : List D} {S : Sto} {Q : VKD} {X : XKD} : fInB neg x (.fl ds) S Q X = ((flatD x = true ∧ ds.all flatD = true) ∧ Q (.bl (if neg then !(ds.any fun d => eqF d x) else ds.any fun d => eqF d x)) S) := id rfl
theorem ax_xinb_scr {neg : Bool} {x : D} {ds : List D} {S : Sto} {Q : VKD} {X : XKD} : fInB neg x (.scr ds) S Q X = ((flatD x = true ∧ ds.all flatD = true) ∧ Q (.bl (if neg then !(ds.any fun d => eqF d x) else ds.any fun d => eqF d x)) S) := id rfl
def opQ (d : D) (S : Sto) (Q : Option Int → Sto → Prop) : Prop := match d with
  | .int i => Q (some i) S
  | _ => False
theorem ax_xnop {σ : ASt} {S : Sto} {Q : Option Int → Sto → Prop} {X : XKD} : wNoPart σ S Q X = (Q none S) := id rfl
theorem ax_xpart {w : WE} {σ : ASt} {S : Sto} {Q : Option Int → Sto → Prop} {X : XKD} : wPart w σ S Q X = (w σ S (fun d S1 => opQ d S1 (Lz Q .mk)) X) := id rfl
theorem ax_xopq {i : Int} {S : Sto} {Q : Option Int → Sto → Prop} : opQ (.int i) S Q = (Q (some i) S) := id rfl
theorem ax_xsl {e : WE} {l h : WO} {σ : ASt} {S : Sto} {Q : VKD} {X : XKD} : wSl e l h σ S Q X = (e σ S (fun x S1 => l σ S1 (fun lo S2 => h σ S2 (fun hi S3 => fSl x lo hi S3 (Lz Q .mk)) X) X) X) := id rfl
theorem ax_xsl_t {ds : List D} {lo hi : Option Int} {S : Sto} {Q : VKD} : fSl (.tup ds) lo hi S Q = (Q (.tup (cutL ds lo hi)) S) := id rfl
theorem ax_xsl_f {ds : List D} {lo hi : Option Int} {S : Sto} {Q : VKD} : fSl (.fl ds) lo hi S Q = (Q (.fl (cutL ds lo hi)) S) := id rfl
theorem ax_xsl_s {ds : List D} {lo hi : Option Int} {S : Sto} {Q : VKD} : fSl (.scr ds) lo hi S Q = (Q (.fl (cutL ds lo hi)) S) := id rfl
def chQ (z : D) (S : Sto) (A B : Sto → Prop) : Prop := match z with
  | .bl k => if k = true then A S else B S
  | _ => False
theorem ax_xchain {f g : F2} {a b c : WE} {σ : ASt} {S : Sto} {Q : VKD} {X : XKD} : wChain f g a b c σ S Q X = (a σ S (fun x S1 => b σ S1 (fun y S2 => f x y S2 (Lz (fun z S3 => chQ z S3 (Lz (fun S3 => c σ S3 (fun u S4 => g y u S4 (Lz Q .mk) X) X) .mk) (Lz (fun S3 => Q (.bl false) S3) .mk)) .mk) X) X) X) := id rfl
theorem ax_xch {k : Bool} {S : Sto} {A B : Sto → Prop} : chQ (.bl k) S A B = (if k = true then Lz (A S) .mk else Lz (B S) .mk) := id rfl
def biQ (d : D) (S : Sto) (Q : VKD) : Prop := match d with
  | .int i => Q (.int ((Builtin.Int.intBits i : Nat) : Int)) S
  | _ => False
theorem ax_xbits {e : WE} {σ : ASt} {S : Sto} {Q : VKD} {X : XKD} : wBits e σ S Q X = (e σ S (fun d S1 => biQ d S1 (Lz Q .mk)) X) := id rfl
theorem ax_xbi {i : Int} {S : Sto} {Q : VKD} : biQ (.int i) S Q = (Q (.int ((Builtin.Int.intBits i : Nat) : Int)) S) := id rfl
def apP (o : D) (S : Sto) : Prop := match o with
  | .ref n => match S[n]? with
    | some (.lst _) => True
    | _ => False
  | _ => False
theorem ax_xapp {e : WE} {w : WA} {σ : ASt} {S : Sto} {Q : VKD} {X : XKD} : wApp e w σ S Q X = (e σ S (fun o S1 => apP o S1 ∧ w σ S1 (fun ds S2 => fApp o ds S2 (Lz Q .mk)) X) X) := id rfl
theorem ax_xnext {D0 : AE} {σ : ASt} {S : Sto} {X : XKD} : wNext D0 σ S X = (D0.nx σ S) := id rfl
theorem ax_xseq {w u : WS} {D0 : AE} {σ : ASt} {S : Sto} {X : XKD} : wSeq w u D0 σ S X = (w { nx := Lz (fun σ' S' => u D0 σ' S' X) .mk, rt := D0.rt, bk := D0.bk, ct := D0.ct } σ S X) := id rfl
theorem ax_xbreak {D0 : AE} {σ : ASt} {S : Sto} {X : XKD} : wBreak D0 σ S X = (D0.bk σ S) := id rfl
theorem ax_xcont {D0 : AE} {σ : ASt} {S : Sto} {X : XKD} : wCont D0 σ S X = (D0.ct σ S) := id rfl
theorem ax_xdrop {e : WE} {D0 : AE} {σ : ASt} {S : Sto} {X : XKD} : wDrop e D0 σ S X = (e σ S (Lz (fun _ S1 => D0.nx σ S1) .mk) X) := id rfl
theorem ax_xret {e : WE} {D0 : AE} {σ : ASt} {S : Sto} {X : XKD} : wRet e D0 σ S X = (e σ S D0.rt X) := id rfl
theorem ax_xretn {D0 : AE} {σ : ASt} {S : Sto} {X : XKD} : wRetN D0 σ S X = (D0.rt .non S) := id rfl
theorem ax_xifs {c : WT} {w u : WS} {D0 : AE} {σ : ASt} {S : Sto} {X : XKD} : wIfS c w u D0 σ S X = (c σ S (fun b S1 => if b = true then Lz (w D0 σ S1 X) .mk else Lz (u D0 σ S1 X) .mk) X) := id rfl
theorem ax_xset {i : Nat} {e : WE} {D0 : AE} {σ : ASt} {S : Sto} {X : XKD} : wSet i e D0 σ S X = (e σ S (fun d S1 => D0.nx (σ.set i (some d)) S1) X) := id rfl
def paQ (i j : Nat) (D0 : AE) (σ : ASt) (ds : List D) (S : Sto) : Prop := match ds with
  | [d, e] => D0.nx ((σ.set i (some d)).set j (some e)) S
  | _ => False
theorem ax_xpar {i j : Nat} {w : WA} {D0 : AE} {σ : ASt} {S : Sto} {X : XKD} : wPar i j w D0 σ S X = (w σ S (fun ds S1 => paQ i j D0 σ ds S1) X) := id rfl
theorem ax_xpa {i j : Nat} {D0 : AE} {σ : ASt} {d e : D} {S : Sto} : paQ i j D0 σ [d, e] S = (D0.nx ((σ.set i (some d)).set j (some e)) S) := id rfl
theorem ax_xaug {i : Nat} {f : F2} {e : WE} {D0 : AE} {σ : ASt} {S : Sto} {X : XKD} : wAug i f e D0 σ S X = (wVar i σ S (fun d _ => e σ S (fun y S1 => f d y S1 (Lz (fun z S2 => D0.nx (σ.set i (some z)) S2) .mk) X) X) X) := (by unfold wAug wVar; rfl)
theorem ax_xasg {e : WE} {wg : WG} {D0 : AE} {σ : ASt} {S : Sto} {X : XKD} : wAsg e wg D0 σ S X = (e σ S (fun d S1 => wg d σ S1 D0.nx X) X) := id rfl
theorem ax_xgname {i : Nat} {d : D} {σ : ASt} {S : Sto} {Q : ASt → Sto → Prop} {X : XKD} : wgName i d σ S Q X = (Q (σ.set i (some d)) S) := id rfl
theorem ax_xgnil {σ : ASt} {S : Sto} {Q : ASt → Sto → Prop} {X : XKD} : wgNil [] σ S Q X = (Q σ S) := id rfl
theorem ax_xgcons {wg : WG} {wgs : WGs} {d : D} {r : List D} {σ : ASt} {S : Sto} {Q : ASt → Sto → Prop} {X : XKD} : wgCons wg wgs (d :: r) σ S Q X = (wg d σ S (Lz (fun σ' S' => wgs r σ' S' Q X) .mk) X) := id rfl
theorem ax_xgtup {n : Nat} {wgs : WGs} {ds : List D} {σ : ASt} {S : Sto} {Q : ASt → Sto → Prop} {X : XKD} : wgTup n wgs (.tup ds) σ S Q X = (ds.length = n ∧ wgs ds σ S Q X) := id rfl
theorem ax_xgsub {wo wi : WE} {d : D} {σ : ASt} {S : Sto} {Q : ASt → Sto → Prop} {X : XKD} : wgSub wo wi d σ S Q X = (wo σ S (fun o S1 => wi σ S1 (fun i S2 => fPut o i d S2 (Lz (Q σ) .mk)) X) X) := id rfl
theorem ax_xnx {n : ASt → Sto → Prop} {r : VKD} {b c : ASt → Sto → Prop} : (AE.mk n r b c).nx = (n) := id rfl
theorem ax_xrt {n : ASt → Sto → Prop} {r : VKD} {b c : ASt → Sto → Prop} : (AE.mk n r b c).rt = (r) := id rfl
theorem ax_xbk {n : ASt → Sto → Prop} {r : VKD} {b c : ASt → Sto → Prop} : (AE.mk n r b c).bk = (b) := id rfl
theorem ax_xct {n : ASt → Sto → Prop} {r : VKD} {b c : ASt → Sto → Prop} : (AE.mk n r b c).ct = (c) := id rfl
theorem ax_xend_rt {Q : VKD} {m : Nat} : (endOf Q m).rt = (Gives Q m) := id rfl
theorem ax_xend_nx {Q : VKD} {m : Nat} {σ : ASt} {S : Sto} : (endOf Q m).nx σ S = (Gives Q m .non S) := id rfl
def itQ (d : D) (S : Sto) (Q : Src → Sto → Prop) : Prop := match d with
  | .tup ds => Q (.seq ds) S
  | .fl ds => Q (.seq ds) S
  | .ref n => match S[n]? with
    | some (.lst _) => Q (.cel n) S
    | _ => False
  | _ => False
theorem ax_xit {e : WE} {σ : ASt} {S : Sto} {Q : Src → Sto → Prop} {X : XKD} : wiItems e σ S Q X = (e σ S (fun d S1 => itQ d S1 (Lz Q .mk)) X) := id rfl
theorem ax_xit_t {ds : List D} {S : Sto} {Q : Src → Sto → Prop} : itQ (.tup ds) S Q = (Q (.seq ds) S) := id rfl
theorem ax_xit_f {ds : List D} {S : Sto} {Q : Src → Sto → Prop} : itQ (.fl ds) S Q = (Q (.seq ds) S) := id rfl
def r1Q (ds : List D) (S : Sto) (Q : Src → Sto → Prop) : Prop := match ds with
  | [.int j] => (-(2 ^ 62) ≤ j ∧ j < 2 ^ 62) ∧ Q (.seq (rangeD 0 j.toNat)) S
  | _ => False
def r2Q (ds : List D) (S : Sto) (Q : Src → Sto → Prop) : Prop := match ds with
  | [.int i, .int j] => (-(2 ^ 62) ≤ i ∧ i < 2 ^ 62 ∧ -(2 ^ 62) ≤ j ∧ j < 2 ^ 62) ∧ Q (.seq (rangeD i (j - i).toNat)) S
  | _ => False
theorem ax_xr1 {w : WA} {σ : ASt} {S : Sto} {Q : Src → Sto → Prop} {X : XKD} : wiRange1 w σ S Q X = (w σ S (fun ds S1 => r1Q ds S1 (Lz Q .mk)) X) := id rfl
theorem ax_xr2 {w : WA} {σ : ASt} {S : Sto} {Q : Src → Sto → Prop} {X : XKD} : wiRange2 w σ S Q X = (w σ S (fun ds S1 => r2Q ds S1 (Lz Q .mk)) X) := id rfl
theorem ax_xr1q {j : Int} {S : Sto} {Q : Src → Sto → Prop} : r1Q [.int j] S Q = ((-(2 ^ 62) ≤ j ∧ j < 2 ^ 62) ∧ Q (.seq (rangeD 0 j.toNat)) S) := id rfl
theorem ax_xr2q {i j : Int} {S : Sto} {Q : Src → Sto → Prop} : r2Q [.int i, .int j] S Q = ((-(2 ^ 62) ≤ i ∧ i < 2 ^ 62 ∧ -(2 ^ 62) ≤ j ∧ j < 2 ^ 62) ∧ Q (.seq (rangeD i (j - i).toNat)) S) := id rfl
def foQ (src : Src) (wg : WG) (b : WS) (D0 : AE) (σ : ASt) (S : Sto) (X : XKD) : Prop := match src with
  | .seq ds => forL wg b D0 X ds σ S
  | .cel n => forC wg b D0 X (.cel n) (cellLen S n) 0 σ S
  | .enc n => forC wg b D0 X (.enc n) (cellLen S n) 0 σ S
theorem ax_xfor {wi : WI} {wg : WG} {b : WS} {D0 : AE} {σ : ASt} {S : Sto} {X : XKD} : wFor wi wg b D0 σ S X = (wi σ S (fun src S1 => foQ src wg b D0 σ S1 X) X) := id rfl
theorem ax_xfo_seq {ds : List D} {wg : WG} {b : WS} {D0 : AE} {σ : ASt} {S : Sto} {X : XKD} : foQ (.seq ds) wg b D0 σ S X = (forL wg b D0 X ds σ S) := id rfl
theorem ax_xfo_cel {n : Nat} {wg : WG} {b : WS} {D0 : AE} {σ : ASt} {S : Sto} {X : XKD} : foQ (.cel n) wg b D0 σ S X = (forC wg b D0 X (.cel n) (cellLen S n) 0 σ S) := id rfl
theorem ax_xfo_enc {n : Nat} {wg : WG} {b : WS} {D0 : AE} {σ : ASt} {S : Sto} {X : XKD} : foQ (.enc n) wg b D0 σ S X = (forC wg b D0 X (.enc n) (cellLen S n) 0 σ S) := id rfl
def lcQ (src : Src) (wg : WG) (wt : WT) (we : WE) (σ : ASt) (Q : List D → Sto → Prop) (S : Sto) : Prop := match src with
  | .seq ds => ds.length ≤ sizeLine ∧ lcL wg wt we σ Q ds [] S
  | .cel n => cellLen S n ≤ sizeLine ∧ lcC wg wt we σ Q (.cel n) (cellLen S n) 0 [] S
  | .enc n => cellLen S n ≤ sizeLine ∧ lcC wg wt we σ Q (.enc n) (cellLen S n) 0 [] S
theorem ax_xlc {wi : WI} {wg : WG} {wt : WT} {we : WE} {vs : List Nat} {fin : List D → Sto → VKD → Prop} {σ : ASt} {S : Sto} {Q : VKD} {X : XKD} : wLcA wi wg wt we vs fin σ S Q X = (wi σ S (fun src S1 => lcQ src wg wt we (wipeD σ vs) (Lz (fun acc S2 => fin acc S2 Q) .mk) S1) X) := id rfl
theorem ax_xlc_seq {ds : List D} {wg : WG} {wt : WT} {we : WE} {σ : ASt} {Q : List D → Sto → Prop} {S : Sto} : lcQ (.seq ds) wg wt we σ Q S = (ds.length ≤ sizeLine ∧ lcL wg wt we σ Q ds [] S) := id rfl
theorem ax_xlc_cel {n : Nat} {wg : WG} {wt : WT} {we : WE} {σ : ASt} {Q : List D → Sto → Prop} {S : Sto} : lcQ (.cel n) wg wt we σ Q S = (cellLen S n ≤ sizeLine ∧ lcC wg wt we σ Q (.cel n) (cellLen S n) 0 [] S) := id rfl
theorem ax_xlc_enc {n : Nat} {wg : WG} {wt : WT} {we : WE} {σ : ASt} {Q : List D → Sto → Prop} {S : Sto} : lcQ (.enc n) wg wt we σ Q S = (cellLen S n ≤ sizeLine ∧ lcC wg wt we σ Q (.enc n) (cellLen S n) 0 [] S) := id rfl
theorem ax_xlcl_nil {acc : List D} {wg : WG} {wt : WT} {we : WE} {σ : ASt} {Q : List D → Sto → Prop} {S : Sto} : lcL wg wt we σ Q [] acc S = (Q acc S) := (by rw [lcL])
theorem ax_xlcl_cons {a : Option D} {d : D} {ds acc : List D} {wg : WG} {wt : WT} {we : WE} {σ : ASt} {Q : List D → Sto → Prop} {S : Sto} : lcL wg wt we (a :: σ) Q (d :: ds) acc S = (wg d (a :: σ) S (Lz (fun σ2 S2 => wt σ2 S2 (fun b S3 => if b = true then Lz (we σ2 S3 (fun y S4 => lcL wg wt we (a :: σ) Q ds (acc ++ [y]) S4) X0) .mk else Lz (lcL wg wt we (a :: σ) Q ds acc S3) .mk) X0) .mk) X0) := (by rw [lcL]; rfl)
theorem ax_xyes {σ : ASt} {S : Sto} {Q : Bool → Sto → Prop} {X : XKD} : wYes σ S Q X = (Q true S) := id rfl
theorem ax_xturn {a : Option D} {d : D} {acc : List D} {wg : WG} {wt : WT} {we : WE} {σ : ASt} {S : Sto} {R : List D → Sto → Prop} : lcTurn wg wt we (a :: σ) d acc S R = (wg d (a :: σ) S (Lz (fun σ2 S2 => wt σ2 S2 (fun b S3 => if b = true then Lz (we σ2 S3 (fun y S4 => R (acc ++ [y]) S4) X0) .mk else Lz (R acc S3) .mk) X0) .mk) X0) := id rfl
theorem ax_xfinf {acc : List D} {S : Sto} {Q : VKD} : finF acc S Q = (Q (.fl acc) S) := id rfl
theorem ax_xfinr {acc : List D} {S : Sto} {Q : VKD} : finR acc S Q = (Q (.ref S.length) (S ++ [.lst acc])) := id rfl
theorem ax_xwipe0 {σ : ASt} : wipeD σ [] = (σ) := id rfl
theorem ax_xwipe1 {σ : ASt} {v : Nat} {vs : List Nat} : wipeD σ (v :: vs) = ((wipeD σ vs).set v none) := id rfl
theorem ax_lz1 {α : Type} {f : α → Prop} {t : Tg f} {a : α} : Lz f t a = (f a) := id rfl
theorem ax_lzD {f : D → Sto → Prop} {t : Tg f} {a : D} {S : Sto} : Lz f t a S = (f a S) := id rfl
theorem ax_lzB {f : Bool → Sto → Prop} {t : Tg f} {a : Bool} {S : Sto} : Lz f t a S = (f a S) := id rfl
theorem ax_lzL {f : List D → Sto → Prop} {t : Tg f} {a : List D} {S : Sto} : Lz f t a S = (f a S) := id rfl
theorem ax_lzS {f : Src → Sto → Prop} {t : Tg f} {a : Src} {S : Sto} : Lz f t a S = (f a S) := id rfl
theorem ax_lzO {f : Option Int → Sto → Prop} {t : Tg f} {a : Option Int} {S : Sto} : Lz f t a S = (f a S) := id rfl
theorem ax_lzc {f : ASt → Sto → Prop} {t : Tg f} {a : Option D} {σ : ASt} {S : Sto} : Lz f t (a :: σ) S = (f (a :: σ) S) := id rfl
theorem ax_lzn {f : ASt → Sto → Prop} {t : Tg f} {S : Sto} : Lz f t [] S = (f [] S) := id rfl
theorem ax_xitt {A B : Prop} {t : Tg A} : (if true = true then Lz A t else B) = (A) := if_pos rfl
theorem ax_xitf {A B : Prop} {t : Tg B} : (if false = true then A else Lz B t) = (B) := if_neg Bool.false_ne_true
theorem ax_xiT {A B : Prop} {t : Tg A} {h : Decidable True} : @ite Prop True h (Lz A t) B = (A) := if_pos True.intro
theorem ax_xiF {A B : Prop} {t : Tg B} {h : Decidable False} : @ite Prop False h A (Lz B t) = (B) := if_neg id
theorem ax_xidec {p : Prop} [h : Decidable p] {A B : Prop} : (if decide p = true then A else B) = (if p then A else B) := z_if_dec p A B
theorem ax_xindec {p : Prop} [h : Decidable p] {A B : Prop} : (if (!decide p) = true then A else B) = (if p then B else A) := z_if_ndec p A B
theorem xinot_aux {b : Bool} {A B : Prop} : (if (!b) = true then A else B) = (if b = true then B else A) := by cases b <;> rfl
theorem ax_xinot {b : Bool} {A B : Prop} : (if (!b) = true then A else B) = (if b = true then B else A) := xinot_aux
theorem ax_xnep {i j : Int} {A B : Prop} : (if (i != j) = true then A else B) = (if i = j then B else A) := (by by_cases h : i = j <;> simp [h])
theorem ax_xemp_n {α : Type} : ([] : List α).isEmpty = (true) := id rfl
theorem ax_xemp_c {α : Type} {a : α} {r : List α} : (a :: r).isEmpty = (false) := id rfl
/-! loops with what lies ahead held -/
theorem whl_cut {c : WT} {b : WS} {D0 : AE} {σ : ASt} {S : Sto} {X : XKD} (P : Nat → ASt → Sto → Prop) (m0 : Nat) (h0 : P m0 σ S)
    (hs : ∀ m σ S (R : ASt → Sto → Prop), P m σ S → (∀ m' σ' S', m' < m → P m' σ' S' → R σ' S') → c σ S (fun k S1 => if k = true then Lz (b { nx := R, rt := D0.rt, bk := D0.nx, ct := R } σ S1 X) .mk else Lz (D0.nx σ S1) .mk) X) : wWhile c b D0 σ S X := while_cut P m0 h0 hs
theorem forl_cut {wg : WG} {b : WS} {D0 : AE} {σ : ASt} {S : Sto} {X : XKD} (ds : List D) (P : Nat → ASt → Sto → Prop) (h0 : P 0 σ S)
    (hs : ∀ (i : Nat) d σ S (R : ASt → Sto → Prop), ds[i]? = some d → P i σ S → (∀ σ' S', P (i + 1) σ' S' → R σ' S') → wg d σ S (Lz (fun σ1 S1 => b { nx := R, rt := D0.rt, bk := D0.nx, ct := R } σ1 S1 X) .mk) X)
    (hd : ∀ σ S, P ds.length σ S → D0.nx σ S) : forL wg b D0 X ds σ S := for_cut ds P h0 hs hd
theorem rng_cut {wg : WG} {b : WS} {D0 : AE} {σ : ASt} {S : Sto} {X : XKD} (lo : Int) (n : Nat) (P : Nat → ASt → Sto → Prop) (h0 : P 0 σ S)
    (hs : ∀ i σ S (R : ASt → Sto → Prop), i < n → P i σ S → (∀ σ' S', P (i + 1) σ' S' → R σ' S') → wg (.int (lo + (i : Nat))) σ S (Lz (fun σ1 S1 => b { nx := R, rt := D0.rt, bk := D0.nx, ct := R } σ1 S1 X) .mk) X)
    (hd : ∀ σ S, P n σ S → D0.nx σ S) : forL wg b D0 X (rangeD lo n) σ S := range_cut lo n P h0 hs hd
theorem cell_cut {wg : WG} {b : WS} {D0 : AE} {σ : ASt} {S : Sto} {X : XKD} (n : Nat) (ds : List D) (P : Nat → ASt → Sto → Prop) (h0 : P 0 σ S) (hc : ∀ i σ S, P i σ S → S[n]? = some (.lst ds))
    (hs : ∀ (i : Nat) d σ S (R : ASt → Sto → Prop), ds[i]? = some d → P i σ S → (∀ σ' S', P (i + 1) σ' S' → R σ' S') → wg d σ S (Lz (fun σ1 S1 => b { nx := R, rt := D0.rt, bk := D0.nx, ct := R } σ1 S1 X) .mk) X)
    (hd : ∀ σ S, P ds.length σ S → D0.nx σ S) : forC wg b D0 X (.cel n) (cellLen S n) 0 σ S := cel_cut n ds P h0 hc hs hd
/-! what a cell is read as -/
section
variable {S : Sto} {n : Nat} {ds : List D}
theorem ref_ix (h : S[n]? = some (.lst ds)) {k : Int} {Q : VKD} {X : XKD} : fIx (.ref n) (.int k) S Q X = atQ ds k (Lz (fun d => Q d S) .mk) := by simp only [fIx, atQ, items, itemsL, h] <;> try rfl
theorem ref_len (h : S[n]? = some (.lst ds)) {Q : VKD} {X : XKD} : gLen [.ref n] S Q X = Q (.int (ds.length : Int)) S := by simp only [gLen, items, itemsL, h] <;> try rfl
theorem ref_tuple (h : S[n]? = some (.lst ds)) {Q : VKD} {X : XKD} : gTuple [.ref n] S Q X = Q (.tup ds) S := by simp only [gTuple, itemsL, h] <;> try rfl
theorem ref_list (h : S[n]? = some (.lst ds)) {Q : VKD} {X : XKD} : gList [.ref n] S Q X = Q (.fl ds) S := by simp only [gList, items, itemsL, h] <;> try rfl
theorem ref_listr (h : S[n]? = some (.lst ds)) {Q : VKD} {X : XKD} : gListR [.ref n] S Q X = Q (.ref S.length) (S ++ [.lst ds]) := by simp only [gListR, items, itemsL, h] <;> try rfl
theorem ref_tru (h : S[n]? = some (.lst ds)) {Q : Bool → Prop} : fTru (.ref n) S Q = Q (!ds.isEmpty) := by simp only [fTru, items, itemsL, h] <;> try rfl
theorem ref_it (h : S[n]? = some (.lst ds)) {Q : Src → Sto → Prop} : itQ (.ref n) S Q = Q (.cel n) S := by simp only [itQ, h] <;> try rfl
theorem ref_is (h : S[n]? = some (.lst ds)) {T : TN} {Q : VKD} : isQ T (.ref n) S Q = Q (.bl (match T with | .list => true | _ => false)) S := by simp only [isQ, isTN, h] <;> cases T <;> rfl
theorem ref_sl (h : S[n]? = some (.lst ds)) {lo hi : Option Int} {Q : VKD} : fSl (.ref n) lo hi S Q = Q (.fl (cutL ds lo hi)) S := by simp only [fSl, itemsL, h] <;> try rfl
theorem ref_app (h : S[n]? = some (.lst ds)) {d : D} {Q : VKD} : fApp (.ref n) [d] S Q = (ds.length < sizeLine ∧ Q .non (S.set n (.lst (ds ++ [d])))) := by simp only [fApp, h] <;> try rfl
theorem ref_ap (h : S[n]? = some (.lst ds)) : apP (.ref n) S = True := by simp only [apP, h] <;> try rfl
theorem ref_put (h : S[n]? = some (.lst ds)) {k : Int} {j : Nat} (hk : L2.ixN ds.length k = some j) {d : D} {Q : Sto → Prop} : fPut (.ref n) (.int k) d S Q = Q (S.set n (.lst (ds.set j d))) := by simp only [fPut, h, hk] <;> try rfl
theorem ref_in (h : S[n]? = some (.lst ds)) {neg : Bool} {x : D} {Q : VKD} {X : XKD} : fInB neg x (.ref n) S Q X = ((flatD x = true ∧ ds.all flatD = true) ∧ Q (.bl (if neg then !(ds.any fun d => eqF d x) else ds.any fun d => eqF d x)) S) := by simp only [fInB, items, itemsL, h] <;> try rfl
end
end AW

/-! AW14: enumerate over what is a list, a cell or a tuple. -/
namespace AW
open PySem PySem.Spec PyProof.Rows L2
section
open Sem (wp)
/-- enumerate(v) begins, whatever v's iterator is -/
theorem enum_meets {v : Value} {ob : Obj} {St0 : Heap → Prop} (Bg : Begins v ob St0) :
    Meets (Builtin.«enumerate.__new__» ⟨[.type "enumerate", v], []⟩) (fun _ R s => St0 s.heap ∧
      R (.ok (.ret (.ref (s.heap.push ob).objs.size)))
        { s with heap := (s.heap.push ob).push { cls := .type "enumerate", data := .fields #[.none, .bool false, .ref s.heap.objs.size, rawInt 0, .none, .none] } }) :=
  .of_wp fun prog w A R s hst => by
    obtain ⟨h0, g0, d0, tk0, os0⟩ := s
    obtain ⟨hb, hr⟩ := hst
    have subE := sub_enumerate
    have its : ∀ {A1 : Around} {E1 : Value → Shared → Prop} {Q1 : Value → Shared → Prop}, Q1 (.ref h0.objs.size) ⟨h0.push ob, g0, d0, tk0, os0⟩ → wpAny (model prog w) A1 (pyIter v) Q1 E1 ⟨h0, g0, d0, tk0, os0⟩ :=
      fun q => Bg.iter prog w _ _ ⟨h0, g0, d0, tk0, os0⟩ _ hb q
    wp_walk using its
    refine wpAny_stack_any fun sta => wpAny_pure ?_
    split
    · rename_i cl _ _ _ _ _
      cases (cl == Value.type "enumerate") <;> (wp_walk using its; exact ⟨_, rfl, hr⟩)
    · wp_walk using its
      exact ⟨_, rfl, hr⟩
variable {prog : Program} {w : World} {A : Around} {E : Value → Shared → Prop} {s : Shared}
theorem enum_called {v : Value} {ob : Obj} {St0 : Heap → Prop} (Bg : Begins v ob St0) {Q : Value → Shared → Prop} (hst : St0 s.heap)
    (h : ∀ h', IsEnum h' (s.heap.objs.size + 1) s.heap.objs.size 0 .none → h'.get? s.heap.objs.size = some ob → (∀ b o, s.heap.get? b = some o → h'.get? b = some o) → Q (.ref (s.heap.objs.size + 1)) { s with heap := h' }) :
    wpAny (model prog w) A (call (.type "enumerate") [v]) Q E s := by
  refine callType_new F.called_enumerate (by decide) (F.typeCall_enumerate_1 _) (F.newCall_enumerate_1 _) (fun o1 => F.args_object_init_2 o1 _) F.entry_enumerate_new (enum_meets Bg) ⟨hst, ?_⟩
  have hsize : (s.heap.push ob).objs.size = s.heap.objs.size + 1 := Heap.size_push ..
  show _ ∧ _
  rw [hsize]
  have hnew := Heap.get?_push_size (s.heap.push ob) (o := { cls := .type "enumerate", data := .fields #[.none, .bool false, .ref s.heap.objs.size, rawInt 0, .none, .none] }) rfl
  rw [hsize] at hnew
  exact ⟨⟨_, hnew, rfl⟩, h _ hnew (Heap.get?_push_of_some _ (Heap.get?_push_size _ Bg.free)) fun b o x => Heap.get?_push_of_some _ (Heap.get?_push_of_some _ x)⟩
end
/-- the tuple at a, each item in a new pair -/
def Itp (K : PySem.W.Frag) (a : Addr) : It :=
  ⟨fun i H => ∃ (xs : List V) (x : V), SqT K H a xs ∧ xs[i]? = some x, fun i H v H' => ∃ T x, v = .ref T ∧ H T = none ∧ H' = upd H T (.tup [.int (i : Nat), x]) ∧ ∀ xs, SqT K H a xs → xs[i]? = some x, fun i H => ∃ xs : List V, SqT K H a xs ∧ xs.length ≤ i⟩
theorem enum_apart {h : Heap} {e it a : Addr} {c : Int} {old : Value} {its : Array Value} (he : IsEnum h e it c old) (ht : h.IsTuple a its) : e ≠ a := by
  rintro rfl
  obtain ⟨o, ho, hc, _⟩ := ht
  rw [he] at ho
  have hc2 : Value.type "enumerate" = .type "tuple" := by rw [← hc, ← Option.some.inj ho]
  exact absurd hc2 (by decide)
open Sem (wp) in
/-- an iterator over a tuple that is at its end, or past it -/
theorem draws_over {prog : Program} {w : World} {A : Around} (hh : A.handled = none) (it t : Addr) (items : Array Value) (i : Nat) (hi : items.size ≤ i) :
    Draws prog w A it [it, t] i (fun _ _ => False) (fun j h => j = i ∧ h.IsTupleIter it t i ∧ h.IsTuple t items) where
  live := fun _ _ st => by
    obtain ⟨_, ⟨o, ho, _⟩, _⟩ := st
    exact ⟨o, ho⟩
  frame := fun _ _ _ st hk => by
    obtain ⟨e, a, b⟩ := st
    exact ⟨e, a.at fun o e => hk it (by simp) o e, b.at fun o e => hk t (by simp) o e⟩
  item := fun j s Q E hj st hQ => by
    have := st.1
    omega
  done := fun s Q E st hE => wpAny_nextOf_tuple_end hh st.2.1 st.2.2 (by simp; omega) hE
theorem turn_pairs {P : Program} {w : World} {K : PySem.W.Frag} {elts : List Expr} {kk : Nat} {tpos : Pos} (a e it : Addr) :
    Turn P w K (.Tuple elts kk tpos) (Itp K a) [e, it] e (fun i h => (∃ old, IsEnum h e it ((i : Nat) : Int) old) ∧ h.IsTupleIter it a i ∧ e ≠ it ∧ a ≠ it) where
  mem := List.mem_cons_self ..
  obj := fun i h st b hb => by
    obtain ⟨⟨old, he⟩, ⟨o, ho, hc, hd⟩, _⟩ := st
    rcases List.mem_cons.mp hb with z | z
    · rw [z]
      exact ⟨_, he, fun v q => nomatch q⟩
    · rw [List.mem_singleton.mp z]; exact ⟨o, ho, fun v q => by rw [hd] at q; cases q⟩
  keep := by
    intro i h h' st k
    obtain ⟨⟨old, he⟩, hi, hne⟩ := st
    exact ⟨⟨old, k e (by simp) _ he⟩, hi.at fun o q => k it (by simp) o q, hne⟩
  item := by
    rintro X rfl rfl rfl hc i pins s σ H E I hf ⟨⟨old, he⟩, hit, hne, hne2⟩ ⟨xs, x, hq, hx⟩
    obtain ⟨its, rv, p, hz⟩ := I.tuple hq
    have hT0 : s.heap.IsTuple a its.toArray := p
    have hlt : i < its.toArray.size := by
      have := rv.length
      have := (List.getElem?_eq_some_iff.mp hx).1
      simp; omega
    have lt1 : e < s.heap.objs.size := Heap.lt_size he
    have lt2 : it < s.heap.objs.size := by obtain ⟨_, q, _⟩ := hit; exact Heap.lt_size q
    refine wpAny_pyNext_enum_itemD (Draws.tuple (A := X.A.in1) (I.ok.hd hc) it a hne2 its.toArray) he ⟨hit, hT0⟩ hlt hne (by simp only [List.mem_cons, List.not_mem_nil, or_false, not_or]; exact ⟨hne, enum_apart he hT0⟩) fun u h' tk hu ho hst' hT hsz hk => ?_
    obtain ⟨u', hu', ru⟩ := rv.get hx
    have eu : u' = u := by
      have : its.toArray[i]? = some u' := by simpa using hu'
      rw [hu] at this
      exact (Option.some.inj this).symm
    subst eu
    refine ⟨_, rfl, wpAny_letOwnedTupleGo_enum (s := { s with heap := h', toks := tk + 1 }) ho fun h'' he' sb => ?_⟩
    have at_T : h''.get? s.heap.objs.size = some { cls := .type "tuple", data := .seq #[.int i tk, u'] } := (sb.2 _ (Nat.ne_of_gt lt1)).trans hT
    have okT : ObjOk X.prog X.w (upd H s.heap.objs.size (.tup [.int (i : Nat), x])) h'' s.heap.objs.size (.tup [.int (i : Nat), x]) :=
      ⟨by show 2 ≤ sizeLine; decide, [.int i tk, u'], .cons ⟨_, rfl⟩ (.cons ru .nil), ⟨_, at_T, rfl, _, rfl⟩⟩
    have I1 : Inv X pins σ (upd H s.heap.objs.size (.tup [.int (i : Nat), x])) { s with heap := h'', toks := tk + 1 } :=
      I.turnedNew (ch := [e, it]) (fun b ob hb q => (sb.2 b (fun z => hb (by simp [z]))).trans (hk b ob (fun z => hb (by simp [z])) (fun z => hb (by simp [z])) q)) hf (Nat.le_refl _) okT
    refine ⟨.ref s.heap.objs.size, _, I1, rfl, ⟨_, x, rfl, I.hok.fresh (Nat.le_refl _), rfl, fun ys hy => by rw [I.tuple_inj hy hq]; exact hx⟩, ⟨⟨u', ?_⟩, hst'.1.at fun o q => (sb.2 it (Ne.symm hne)).trans q, hne, hne2⟩, fun b hb => ?_⟩
    · rw [show ((i + 1 : Nat) : Int) = (i : Int) + 1 by omega]; exact he'
    · have lb : b < s.heap.objs.size := by
        rcases List.mem_cons.mp hb with z | z
        · rw [z]; exact lt1
        · rw [List.mem_singleton.mp z]; exact lt2
      rw [upd_ne (Nat.ne_of_lt lb)]
      exact (hf b hb).1
  done := by
    rintro X rfl rfl rfl hc i pins s σ H E I hf ⟨⟨old, he⟩, hit, hne, hne2⟩ ⟨xs, hq, hx⟩
    obtain ⟨its, rv, p, hz⟩ := I.tuple hq
    obtain ⟨f0, f1, f2, f3, f4, f5⟩ := hf it (by simp)
    have hl := rv.length
    have hT0 : s.heap.IsTuple a its.toArray := p
    exact wpAny_pyNext_enum_endD (draws_over (A := X.A.in1) (I.ok.hd hc) it a its.toArray i (by simp; omega)) he ⟨rfl, hit, hT0⟩ fun h' eb => ⟨rfl, I.turned (t' := s.toks) (fun b o hb q => eb b o hb q) f0 f1 f3 f4 f5⟩
  self := fun A i s Q E st h => by
    obtain ⟨⟨_, he⟩, _⟩ := st
    exact wpAny_pyIter_enum he h
def iPairs (K : PySem.W.Frag) (ta : TA) : TI := fun σ H R => ta σ H fun vs H1 => ∃ a, vs = [.ref a] ∧ (((∃ xs, SqL K H1 a xs) ∧ R (Ite K a) H1) ∨ ((∃ xs, SqT K H1 a xs) ∧ R (Itp K a) H1))
theorem pi_pairs {X : Cx} {e : Expr} {ta : TA} {p pos tpos : Pos} {elts : List Expr} {kk : Nat} (hg : Gl X "enumerate") (hm : X.mg "enumerate" = none) (ha : PA X [e] ta) (hs : starEach [e] X.env = [(false, eval e X.env)] := by rfl) :
    PI X (.Tuple elts kk tpos) (.Call (.Name "enumerate" p) [e] [] pos) (iPairs X.K ta) := by
  constructor
  intro pins s σ H R I h
  refine Call_ (ld_blt I hg hm boot_enumerate (PyProof.Rows.callWith_type1 (thn (ha.run pos pins s σ H _ I h) ?_) hs rfl))
  rintro us s1 ⟨vs, H1, I1, r1, a, rfl, q1⟩
  cases r1 with
  | cons r rr =>
    cases rr
    cases r
    have apart : ∀ b ∈ [s1.heap.objs.size + 1, s1.heap.objs.size], FpOk X pins H1 b := by
      intro b hb
      have hle : s1.heap.objs.size ≤ b := by
        rcases List.mem_cons.mp hb with z | z
        · rw [z]; exact Nat.le_add_right _ _
        · rw [List.mem_singleton.mp z]; exact Nat.le_refl _
      exact I1.fpOk hle (I1.hok.fresh hle)
    rcases q1 with ⟨⟨xs, hq⟩, q⟩ | ⟨⟨xs, hq⟩, q⟩
    · obtain ⟨its, rv, p', hz⟩ := I1.list hq
      refine call_enumerate_list p'.isList fun h' he hit hsz hk => wpAny_pyIter_enum he ?_
      exact ⟨_, _, _, _, H1, rfl, I1.kept (t' := s1.toks) hk, turn_enum a (s1.heap.objs.size + 1) s1.heap.objs.size, ⟨⟨.none, he⟩, hit, Nat.succ_ne_self _⟩, apart, q⟩
    · obtain ⟨its, rv, p', hz⟩ := I1.tuple hq
      have hT0 : s1.heap.IsTuple a its.toArray := p'
      have la : a < s1.heap.objs.size := by obtain ⟨_, z, _⟩ := hT0; exact Heap.lt_size z
      refine enum_called (begins_tuple a its.toArray) hT0 fun h' he hit hk => wpAny_pyIter_enum he ?_
      exact ⟨_, _, _, _, H1, rfl, I1.kept (t' := s1.toks) hk, turn_pairs a (s1.heap.objs.size + 1) s1.heap.objs.size, ⟨⟨.none, he⟩, ⟨_, hit, rfl, rfl⟩, Nat.succ_ne_self _, Nat.ne_of_lt la⟩, apart, q⟩
/-! ### what is read -/
def enumD (ds : List D) : List D := ds.mapIdx fun i d => .tup [.int (i : Nat), d]
theorem enumD_len (ds : List D) : (enumD ds).length = ds.length := List.length_mapIdx
theorem enumD_get (ds : List D) (i : Nat) : (enumD ds)[i]? = ds[i]?.map fun d => .tup [.int (i : Nat), d] := List.getElem?_mapIdx
theorem pair_rep {K ι S H} {T : Addr} {i : Nat} {x : V} {d : D} (r : RelS K ι S H) (hT : H T = none) (px : Rep K ι H d x) :
    Ext K ι H ι (upd H T (.tup [.int (i : Nat), x])) ∧ RelS K ι S (upd H T (.tup [.int (i : Nat), x])) ∧ Rep K ι (upd H T (.tup [.int (i : Nat), x])) (.tup [.int (i : Nat), d]) (.ref T) := by
  have e := Ext.new (o := .tup [.int (i : Nat), x]) r hT
  refine ⟨e, r.new hT, rep_tup.mpr ⟨T, _, rfl, SqT.of upd_same, ?_⟩⟩
  unfold RepL
  refine ⟨_, _, rfl, rep_int.mpr rfl, ?_⟩
  unfold RepL
  exact ⟨_, _, rfl, Rep.mono e d x px, RepL.nil⟩
theorem simPL {K ι H} {a : Addr} {xs : List V} {ds : List D} (hs : ∀ ι' H', Ext K ι H ι' H' → SqL K H' a xs) (hl : RepL K ι H ds xs) : SimIt K ι H (Ite K a) (.seq (enumD ds)) := by
  intro i ι' S' H' e r
  have hl' := RepL.mono e _ _ hl
  refine ⟨fun d hd => ?_, fun hd => ?_⟩
  · have hd : (enumD ds)[i]? = some d := Option.some.inj hd
    rw [enumD_get, Option.map_eq_some_iff] at hd
    obtain ⟨d0, hd0, rfl⟩ := hd
    obtain ⟨x, hx, px⟩ := RepL.get hl' hd0
    refine ⟨⟨xs, x, hs ι' H' e, hx⟩, ?_⟩
    rintro y H'' ⟨T, x', rfl, hT, rfl, hx'⟩
    have := hx' xs (hs ι' _ e)
    rw [hx] at this
    cases this
    exact pair_rep r hT px
  · have hd : (enumD ds)[i]? = none := Option.some.inj hd
    refine ⟨xs, hs ι' H' e, ?_⟩
    rw [← RepL.length hl, ← enumD_len]
    exact List.getElem?_eq_none_iff.mp hd
theorem simPT {K ι H} {a : Addr} {xs : List V} {ds : List D} (hs : SqT K H a xs) (hl : RepL K ι H ds xs) : SimIt K ι H (Itp K a) (.seq (enumD ds)) := by
  intro i ι' S' H' e r
  have hl' := RepL.mono e _ _ hl
  refine ⟨fun d hd => ?_, fun hd => ?_⟩
  · have hd : (enumD ds)[i]? = some d := Option.some.inj hd
    rw [enumD_get, Option.map_eq_some_iff] at hd
    obtain ⟨d0, hd0, rfl⟩ := hd
    obtain ⟨x, hx, px⟩ := RepL.get hl' hd0
    refine ⟨⟨xs, x, e.tup a xs hs, hx⟩, ?_⟩
    rintro y H'' ⟨T, x', rfl, hT, rfl, hx'⟩
    have := hx' xs (e.tup a xs hs)
    rw [hx] at this
    cases this
    exact pair_rep r hT px
  · have hd : (enumD ds)[i]? = none := Option.some.inj hd
    refine ⟨xs, e.tup a xs hs, ?_⟩
    rw [← RepL.length hl, ← enumD_len]
    exact List.getElem?_eq_none_iff.mp hd
theorem simPC {K ι H} {a : Addr} {n : Nat} (h : ι.cells[n]? = some a) : SimIt K ι H (Ite K a) (.enc n) := by
  intro i ι' S' H' e r
  refine ⟨fun d hd => ?_, fun hd => ?_⟩
  · have hd : (match S'[n]? with
      | some (.lst ds) => some (ds[i]?.map fun d => D.tup [.int (i : Nat), d])
      | _ => none) = some (some d) := hd
    split at hd
    · rename_i ds hc
      have hd := Option.some.inj hd
      rw [Option.map_eq_some_iff] at hd
      obtain ⟨d0, hd0, rfl⟩ := hd
      obtain ⟨xs, q1, q2⟩ := r.cel n _ a hc (e.get h)
      obtain ⟨x, hx, px⟩ := RepL.get q2 hd0
      refine ⟨⟨xs, x, SqL.of q1, hx⟩, ?_⟩
      rintro y H'' ⟨T, x', rfl, hT, rfl, hx'⟩
      have := hx' xs (SqL.of q1)
      rw [hx] at this
      cases this
      exact pair_rep r hT px
    · cases hd
  · have hd : (match S'[n]? with
      | some (.lst ds) => some (ds[i]?.map fun d => D.tup [.int (i : Nat), d])
      | _ => none) = some none := hd
    split at hd
    · rename_i ds hc
      have hd := Option.some.inj hd
      rw [Option.map_eq_none_iff] at hd
      obtain ⟨xs, q1, q2⟩ := r.cel n _ a hc (e.get h)
      refine ⟨xs, SqL.of q1, ?_⟩
      rw [← RepL.length q2]
      exact List.getElem?_eq_none_iff.mp hd
    · cases hd
def enQ (ds : List D) (S : Sto) (Q : Src → Sto → Prop) : Prop := match ds with
  | [.tup ds] => Q (.seq (enumD ds)) S
  | [.fl ds] => Q (.seq (enumD ds)) S
  | [.ref n] => match S[n]? with
    | some (.lst _) => Q (.enc n) S
    | _ => False
  | _ => False
def wiEnum (w : WA) : WI := fun σ S Q X => w σ S (fun ds S1 => enQ ds S1 Q) X
theorem ji_enum {X : Cx} {E : XK} {p pos tpos : Pos} {elts : List Expr} {kk : Nat} {K : PySem.W.Frag} {a : Expr} {ta : TA} {wa : WA} (hm : X.mg "enumerate" = none) (ha : JA X E [a] ta wa) (hg : Gl X "enumerate" := by rfl) (hs : starEach [a] X.env = [(false, eval a X.env)] := by rfl) (hK : X.K = K := by rfl) :
    JI X E (.Tuple elts kk tpos) (.Call (.Name "enumerate" p) [a] [] pos) (iPairs K ta) (wiEnum wa) := by
  subst hK
  refine ⟨pi_pairs hg hm ha.pe hs, ?_⟩
  intro ι σ H σD S Q XX R r s h l lx
  refine ha.ab ι σ H σD S _ XX _ r s h ?_ lx
  intro ι1 ds S1 vs H1 e1 r1 p1 h1
  unfold enQ at h1
  split at h1
  · obtain ⟨v, rfl, q⟩ := repL1 p1
    obtain ⟨a, xs, rfl, q1, q2⟩ := rep_tup.mp q
    exact ⟨a, rfl, .inr ⟨⟨xs, q1⟩, l ι1 _ S1 _ H1 e1 r1 (simPT q1 q2) h1⟩⟩
  · obtain ⟨v, rfl, q⟩ := repL1 p1
    obtain ⟨a, xs, rfl, na, q1, q2⟩ := rep_fl.mp q
    exact ⟨a, rfl, .inl ⟨⟨xs, SqL.of q1⟩, l ι1 _ S1 _ H1 e1 r1 (simPL (fun ι' H' e => SqL.of (e.frz a xs na q1).2) q2) h1⟩⟩
  · obtain ⟨v, rfl, q⟩ := repL1 p1
    obtain ⟨a, rfl, ha⟩ := rep_ref.mp q
    split at h1
    · rename_i ds hc
      obtain ⟨xs, q1, q2⟩ := r1.cel _ _ a hc ha
      exact ⟨a, rfl, .inl ⟨⟨xs, SqL.of q1⟩, l ι1 _ S1 _ H1 e1 r1 (simPC ha) h1⟩⟩
    · exact h1.elim
  · exact h1.elim
theorem ax_enum {w : WA} {σ : ASt} {S : Sto} {Q : Src → Sto → Prop} {X : XKD} : wiEnum w σ S Q X = w σ S (fun ds S1 => enQ ds S1 (Lz Q .mk)) X := id rfl
theorem ax_en_t {ds : List D} {S : Sto} {Q : Src → Sto → Prop} : enQ [.tup ds] S Q = Q (.seq (enumD ds)) S := id rfl
theorem ax_en_f {ds : List D} {S : Sto} {Q : Src → Sto → Prop} : enQ [.fl ds] S Q = Q (.seq (enumD ds)) S := id rfl
theorem ref_en {S : Sto} {n : Nat} {ds : List D} (h : S[n]? = some (.lst ds)) {Q : Src → Sto → Prop} : enQ [.ref n] S Q = Q (.enc n) S := by simp only [enQ, h]
/-- a for over enumerate(cell), the cell as it is -/
theorem enc_cut {wg : WG} {b : WS} {D0 : AE} {σ : ASt} {S : Sto} {X : XKD} (n : Nat) (ds : List D) (P : Nat → ASt → Sto → Prop) (h0 : P 0 σ S) (hc : ∀ i σ S, P i σ S → ∃ ds', S[n]? = some (.lst ds') ∧ ds'.length = ds.length ∧ ds'[i]? = ds[i]?)
    (hs : ∀ (i : Nat) d σ S (R : ASt → Sto → Prop), ds[i]? = some d → P i σ S → (∀ σ' S', P (i + 1) σ' S' → R σ' S') → wg (.tup [.int (i : Nat), d]) σ S (Lz (fun σ1 S1 => b { nx := R, rt := D0.rt, bk := D0.nx, ct := R } σ1 S1 X) .mk) X)
    (hd : ∀ σ S, P ds.length σ S → D0.nx σ S) : forC wg b D0 X (.enc n) (cellLen S n) 0 σ S := by
  have gen : ∀ (k i : Nat) (σ : ASt) (S : Sto), k + i = ds.length → P i σ S → forC wg b D0 X (.enc n) k i σ S := by
    intro k
    induction k with
    | zero =>
      intro i σ S e hp
      have e' : i = ds.length := by omega
      subst e'
      obtain ⟨ds', h1, h2, h3⟩ := hc _ _ _ hp
      unfold forC
      simp only [Src.at, h1, h3]
      exact ⟨by rw [List.getElem?_eq_none (Nat.le_refl _)]; rfl, hd σ S hp⟩
    | succ k ih =>
      intro i σ S e hp
      have hlt : i < ds.length := by omega
      have g : ds[i]? = some ds[i] := List.getElem?_eq_getElem hlt
      obtain ⟨ds', h1, h2, h3⟩ := hc _ _ _ hp
      unfold forC
      simp only [Src.at, h1, h3, g, Option.map_some]
      exact hs i ds[i] σ S _ g hp fun σ' S' h => ih (i + 1) σ' S' (by omega) h
  obtain ⟨ds', h1, h2, h3⟩ := hc _ _ _ h0
  rw [cellLen_of h1, h2]
  exact gen ds.length 0 σ S (by omega) h0
/-- a for over enumerate(sequence) -/
theorem enum_cut {wg : WG} {b : WS} {D0 : AE} {σ : ASt} {S : Sto} {X : XKD} (ds : List D) (P : Nat → ASt → Sto → Prop) (h0 : P 0 σ S)
    (hs : ∀ (i : Nat) d σ S (R : ASt → Sto → Prop), ds[i]? = some d → P i σ S → (∀ σ' S', P (i + 1) σ' S' → R σ' S') → wg (.tup [.int (i : Nat), d]) σ S (Lz (fun σ1 S1 => b { nx := R, rt := D0.rt, bk := D0.nx, ct := R } σ1 S1 X) .mk) X)
    (hd : ∀ σ S, P ds.length σ S → D0.nx σ S) : forL wg b D0 X (enumD ds) σ S := by
  refine forl_cut (enumD ds) P h0 (fun i d σ S R hd hp hR => ?_) (fun σ S hp => hd σ S (by rwa [enumD_len] at hp))
  rw [enumD_get, Option.map_eq_some_iff] at hd
  obtain ⟨d0, hd0, rfl⟩ := hd
  exact hs i d0 σ S R hd0 hp hR
end AW
/-! AW15: a list repeated, as a cell. -/
namespace AW
open PySem PySem.Spec PyProof.Rows L2
section
variable {X : Cx} {E : XK} {a b : Expr} {ta tb : TE} {wa wb : WE} {pos : Pos}
def fMulR : F2 := fun x y S Q _ => match x, y with
  | .fl xs, .int k => (k < 2 ^ 62 ∧ -(2 ^ 62) ≤ k ∧ xs.length * k.toNat ≤ sizeLine) ∧ Q (.ref S.length) (S ++ [.lst (List.replicate k.toNat xs).flatten])
  | _, _ => False
theorem abs_mulR {K : PySem.W.Frag} : AbsR2 K E rMulAll fMulR := by
  intro ι H S x y v u Q XX Qh r hx hy h l lx
  cases x <;> cases y <;> try exact h.elim
  rename_i xs k
  obtain ⟨p, as, rfl, np, hp, ra⟩ := rep_fl.mp hx
  rw [rep_int] at hy
  have la := RepL.length ra
  obtain ⟨⟨h1, h2, h3⟩, hq⟩ := h
  exact .inr ⟨p, k, as, rfl, hy, hp, by omega, by omega, by rw [← la]; exact h3, fun t ht => l.cell r (repL_rep ra _) hq ht⟩
theorem je_mulR (ha : JE X E a ta wa) (hb : JE X E b tb wb) : JE X E (.BinOp a .Mult b pos) (tOp rMulAll ta tb) (wOp fMulR wa wb) := je_op op_mulAll abs_mulR ha hb
theorem ax_mulr {xs : List D} {k : Int} {S : Sto} {Q : VKD} {XX : XKD} : fMulR (.fl xs) (.int k) S Q XX = ((k < 2 ^ 62 ∧ -(2 ^ 62) ≤ k ∧ xs.length * k.toNat ≤ sizeLine) ∧ Q (.ref S.length) (S ++ [.lst (List.replicate k.toNat xs).flatten])) := id rfl
end
/-! what is read as a sequence -/
section
variable {S : Sto} {x : D} {ds : List D}
theorem items_cases (h : items S x = some ds) : x = .tup ds ∨ x = .fl ds ∨ x = .scr ds ∨ ∃ n, x = .ref n ∧ S[n]? = some (.lst ds) := by
  cases x with
  | tup es => exact .inl (by rw [show es = ds from Option.some.inj h])
  | fl es => exact .inr (.inl (by rw [show es = ds from Option.some.inj h]))
  | scr es => exact .inr (.inr (.inl (by rw [show es = ds from Option.some.inj h])))
  | ref n =>
    refine .inr (.inr (.inr ⟨n, rfl, ?_⟩))
    have h : (match S[n]? with
      | some (.lst ds) => some ds
      | _ => none) = some ds := h
    split at h
    · rename_i es he
      rw [he, Option.some.inj h]
    · cases h
  | _ => cases h
theorem itm_len (h : items S x = some ds) {Q : VKD} {X : XKD} : gLen [x] S Q X = Q (.int (ds.length : Int)) S := by
  rcases items_cases h with rfl | rfl | rfl | ⟨n, rfl, hn⟩
  · rfl
  · rfl
  · rfl
  · exact ref_len hn
theorem itm_ix (h : items S x = some ds) {k : Int} {Q : VKD} {X : XKD} : fIx x (.int k) S Q X = atQ ds k (Lz (fun d => Q d S) .mk) := by
  rcases items_cases h with rfl | rfl | rfl | ⟨n, rfl, hn⟩
  · rfl
  · rfl
  · rfl
  · exact ref_ix hn
/-- tuple(x[..]) -/
theorem itm_cut (h : items S x = some ds) {lo hi : Option Int} {Q : VKD} {X : XKD} : fSl x lo hi S (fun d S1 => gTuple [d] S1 Q X) = Q (.tup (cutL ds lo hi)) S := by
  rcases items_cases h with rfl | rfl | rfl | ⟨n, rfl, hn⟩
  · rfl
  · rfl
  · rfl
  · rw [ref_sl hn]; rfl
theorem itm_tuple (h : items S x = some ds) {Q : VKD} {X : XKD} : gTuple [x] S Q X = Q (.tup ds) S := by
  rcases items_cases h with rfl | rfl | rfl | ⟨n, rfl, hn⟩
  · rfl
  · rfl
  · rfl
  · exact ref_tuple hn
theorem itm_list (h : items S x = some ds) {Q : VKD} {X : XKD} : gList [x] S Q X = Q (.fl ds) S := by
  rcases items_cases h with rfl | rfl | rfl | ⟨n, rfl, hn⟩
  · rfl
  · rfl
  · rfl
  · exact ref_list hn
theorem itm_listr (h : items S x = some ds) {Q : VKD} {X : XKD} : gListR [x] S Q X = Q (.ref S.length) (S ++ [.lst ds]) := by
  rcases items_cases h with rfl | rfl | rfl | ⟨n, rfl, hn⟩
  · rfl
  · rfl
  · rfl
  · exact ref_listr hn
theorem itm_tru (h : items S x = some ds) {Q : Bool → Prop} : fTru x S Q = Q (!ds.isEmpty) := by
  rcases items_cases h with rfl | rfl | rfl | ⟨n, rfl, hn⟩
  · rfl
  · rfl
  · rfl
  · exact ref_tru hn
end
theorem cutL_to {α : Type} (xs : List α) {k : Int} (h0 : 0 ≤ k) (h : k ≤ xs.length) : cutL xs none (some k) = xs.take k.toNat := by
  unfold cutL
  simp only [HT.sIx, List.drop_zero, Nat.sub_zero]
  rw [if_neg (by omega), Nat.min_eq_left (by omega)]
theorem cutL_from {α : Type} (xs : List α) {k : Int} (h0 : 0 ≤ k) : cutL xs (some k) none = xs.drop k.toNat := by
  unfold cutL
  simp only [HT.sIx]
  rw [if_neg (by omega), List.take_of_length_le (by rw [List.length_drop]; exact Nat.le_refl _)]
  rcases Nat.lt_or_ge k.toNat xs.length with z | z
  · rw [Nat.min_eq_left (by omega)]
  · rw [Nat.min_eq_right z, List.drop_eq_nil_of_le z, List.drop_eq_nil_of_le (Nat.le_refl _)]
/-! strings -/
theorem str_eq {a b : String} : (Str.ofString a = Str.ofString b) = (a = b) := by
  apply propext
  constructor
  · intro h
    rw [Str.ofString_eq_toList, Str.ofString_eq_toList] at h
    have h2 := congrArg (fun x : Str => x.cps.toList) h
    simp only [Str.mk.injEq] at h2
    have h3 : a.toList.map Char.toNat = b.toList.map Char.toNat := by simpa using h2
    have h4 : a.toList = b.toList := (List.map_inj_right fun x y e => Char.ext (UInt32.toNat_inj.mp e)).mp h3
    exact String.toList_inj.mp h4
  · rintro rfl
    rfl
/-! == of trees without bools -/
theorem D.see_cl {S : Sto} (k : Nat) {n : Nat} {d : D} (h : d.cl n = true) : D.see S k d = d := D.see_dt k n d (D.cl_dt n d h)
theorem fEq_cl {x y : D} {n m : Nat} (hx : x.cl n = true) (hy : y.cl m = true) {p : Prop} [Decidable p] (hp : x = y ↔ p) {S : Sto} {Q : VKD} {X : XKD} (q : Q (.bl (decide p)) S) (hn : n ≤ 64 := by decide) (hm : m ≤ 64 := by decide) : fEq x y S Q X := by
  have gen : EqOk (x.see S 4) (y.see S 4) ∧ Q (.bl (PyData.eqv (x.see S 4).py (y.see S 4).py)) S := by
    rw [D.see_cl 4 hx, D.see_cl 4 hy, eqv_dec hx hy hp]
    exact ⟨eqOk_dt (D.cl_dt n x hx) (D.cl_dt m y hy) hn hm, q⟩
  cases x <;> cases y <;> first
    | exact gen
    | skip
  · rename_i i j
    show Q (.bl (decide (i = j))) S
    have e : decide (i = j) = decide p := decide_eq_decide.mpr (Iff.trans ⟨fun h => by rw [h], fun h => D.int.inj h⟩ hp)
    rw [e]; exact q
  · rename_i i j
    show Q (.bl (decide (i = j))) S
    have e : decide (i = j) = decide p := decide_eq_decide.mpr (Iff.trans ⟨fun h => by rw [h], fun h => D.str.inj h⟩ hp)
    rw [e]; exact q
theorem fNe_cl {x y : D} {n m : Nat} (hx : x.cl n = true) (hy : y.cl m = true) {p : Prop} [Decidable p] (hp : x = y ↔ p) {S : Sto} {Q : VKD} {X : XKD} (q : Q (.bl (!decide p)) S) (hn : n ≤ 64 := by decide) (hm : m ≤ 64 := by decide) : fNe x y S Q X := by
  have gen : EqOk (x.see S 4) (y.see S 4) ∧ Q (.bl (!PyData.eqv (x.see S 4).py (y.see S 4).py)) S := by
    rw [D.see_cl 4 hx, D.see_cl 4 hy, eqv_dec hx hy hp]
    exact ⟨eqOk_dt (D.cl_dt n x hx) (D.cl_dt m y hy) hn hm, q⟩
  cases x <;> cases y <;> first
    | exact gen
    | skip
  · rename_i i j
    show Q (.bl (!decide (i = j))) S
    have e : decide (i = j) = decide p := decide_eq_decide.mpr (Iff.trans ⟨fun h => by rw [h], fun h => D.int.inj h⟩ hp)
    rw [e]; exact q
  · rename_i i j
    show Q (.bl (!decide (i = j))) S
    have e : decide (i = j) = decide p := decide_eq_decide.mpr (Iff.trans ⟨fun h => by rw [h], fun h => D.str.inj h⟩ hp)
    rw [e]; exact q
/-- a statement that comes to one state -/
theorem seq_to (σ' : ASt) (S' : Sto) {w u : WS} {D0 : AE} {σ : ASt} {S : Sto} {X : XKD} (h2 : u D0 σ' S' X) (h1 : ∀ R : ASt → Sto → Prop, R σ' S' → w { nx := R, rt := D0.rt, bk := D0.bk, ct := D0.ct } σ S X) : wSeq w u D0 σ S X := h1 _ h2
theorem seq_same {w u : WS} {D0 : AE} {σ : ASt} {S : Sto} {X : XKD} (h2 : u D0 σ S X) (h1 : ∀ R : ASt → Sto → Prop, R σ S → w { nx := R, rt := D0.rt, bk := D0.bk, ct := D0.ct } σ S X) : wSeq w u D0 σ S X := h1 _ h2
/-! a tree leaves the cells behind -/
theorem belowL_all (k : Nat) : ∀ ds : List D, (∀ d ∈ ds, d.under k = true) → belowL k ds = true
  | [], _ => by unfold belowL; rfl
  | d :: ds, h => by
    unfold belowL
    rw [h d (.head _), belowL_all k ds fun x hx => h x (.tail _ hx)]; rfl
theorem D.under_dt (k : Nat) : ∀ (n : Nat) (d : D), d.dt n = true → d.under k = true := by
  intro n
  induction n with
  | zero => intro d h; cases d <;> first | (cases h; done) | (unfold D.under; rfl)
  | succ n ih =>
    intro d h
    cases d with
    | tup ds =>
      rw [D.dt, List.all_eq_true] at h
      unfold D.under
      exact belowL_all k ds fun x hx => ih x (h x hx)
    | fl ds =>
      rw [D.dt, List.all_eq_true] at h
      unfold D.under
      exact belowL_all k ds fun x hx => ih x (h x hx)
    | scr ds => cases h
    | ref m => cases h
    | _ => unfold D.under; rfl
theorem gives_dt {Q : VKD} {S g : Sto} {d : D} {n : Nat} (hc : Closed S) (hd : d.dt n = true) (h : Q d S) : Gives Q S.length d (S ++ g) := gives_drop (Nat.le_refl _) hc (D.under_dt _ n d hd) h
theorem gives_cl {Q : VKD} {S g : Sto} {d : D} {n : Nat} (hc : Closed S) (hd : d.cl n = true) (h : Q d S) : Gives Q S.length d (S ++ g) := gives_dt hc (D.cl_dt n d hd) h
/-! comprehensions over what is mapped -/
theorem lcL_each {α : Type} {wg : WG} {wt : WT} {we : WE} {σ : ASt} {Q : List D → Sto → Prop} {S : Sto} (xs : List α) (e f : α → D) (hs : ∀ (i : Nat) a acc (R : List D → Sto → Prop), xs[i]? = some a → R (acc ++ [f a]) S → lcTurn wg wt we σ (e a) acc S R) (hq : Q (xs.map f) S) : lcL wg wt we σ Q (xs.map e) [] S := by
  refine lc_cut (xs.map e) (fun i acc S' => S' = S ∧ acc = (xs.take i).map f) ⟨rfl, rfl⟩ ?_ ?_
  · rintro i d acc S' R hd ⟨rfl, rfl⟩ hR
    rw [List.getElem?_map] at hd
    cases g : xs[i]? with
    | none => rw [g] at hd; cases hd
    | some a =>
      rw [g] at hd
      cases hd
      exact hs i a _ R g (hR _ _ ⟨rfl, by rw [take_succ_of g, List.map_append]; rfl⟩)
  · rintro acc S' ⟨rfl, rfl⟩
    rw [List.length_map, List.take_length]
    exact hq
theorem lcL_range {wg : WG} {wt : WT} {we : WE} {σ : ASt} {Q : List D → Sto → Prop} {S : Sto} (lo : Int) (n : Nat) (f : Nat → D) (hs : ∀ (i : Nat) acc (R : List D → Sto → Prop), i < n → R (acc ++ [f i]) S → lcTurn wg wt we σ (.int (lo + (i : Nat))) acc S R) (hq : Q ((List.range n).map f) S) : lcL wg wt we σ Q (rangeD lo n) [] S :=
  lcL_each (List.range n) (fun i => .int (lo + (i : Nat))) f (fun i a acc R h hR => by
    have := List.mem_range.mp (List.mem_of_getElem? h)
    exact hs a acc R this hR) hq
end AW
/-! AW16: raise, try with several clauses. -/
namespace AW
open PySem PySem.Spec PyProof.Rows L2

/-- the program's exceptions by name -/
inductive XN where
  | face | dom | shape | sing | text
deriving DecidableEq
def XN.name : XN → Str
  | .face => "FacetloreError"
  | .dom => "DomainError"
  | .shape => "ShapeError"
  | .sing => "SingularError"
  | .text => "TextError"
def XN.sub (n m : XN) : Bool := decide (m = n) || decide (m = .face)
/-- what is to be known of a class that is raised -/
def XcC (K : PySem.W.Frag) (mg : Str → Option Value) (x : Str) (v : Value) : Prop := ∃ C : Addr, v = .ref C ∧ mg x = some (.ref C) ∧ PySem.W.excIn K C [.type "ValueError", .type "Exception", .type "BaseException", .type "object"] "ValueError.__new__" = true ∧
  PySem.W.keepIn K (.ref C) = true ∧ PySem.W.subIn K (.ref C) (.type "BaseException") = some true ∧ PySem.W.typeIn K (.ref C) = some (.type "type") ∧ L2.ExcC K C
structure XOk (K : PySem.W.Frag) (mg : Str → Option Value) (ns : List XN) (e : XN → Value) : Prop where
  cls : ∀ n ∈ ns, XcC K mg n.name (e n)
  mat : ∀ n ∈ ns, ∀ m ∈ ns, PySem.W.exmOne K (e n) (e m) = some (n.sub m)
  isi : ∀ n ∈ ns, ∀ m ∈ ns, PySem.W.kitOne K (e n) (e m) = some (n.sub m)
  isv : ∀ n ∈ ns, PySem.W.kitOne K (e n) (.type "ValueError") = some true
theorem XOk.inj {K : PySem.W.Frag} {mg : Str → Option Value} {ns : List XN} {e : XN → Value} (o : XOk K mg ns e) {n m : XN} (hn : n ∈ ns) (hm : m ∈ ns) (h : e n = e m) : n = m := by
  have a := o.mat n hn m hm
  have b := o.mat m hm n hn
  rw [h] at a
  rw [h] at b
  have c := o.mat m hm m hm
  rw [c] at a b
  revert a b
  cases n <;> cases m <;> decide
theorem XOk.glob {K : PySem.W.Frag} {mg : Str → Option Value} {ns : List XN} {e : XN → Value} (o : XOk K mg ns e) (n : XN) (hn : n ∈ ns) : mg n.name = some (e n) := by
  obtain ⟨C, eC, gC, _⟩ := o.cls n hn
  rw [eC]
  exact gC
/-- the classes' values, told by a list -/
def xvl (l : List (XN × Value)) (n : XN) : Value := ((l.find? fun p => decide (p.1 = n)).map (·.2)).getD .none
theorem xc_of {K : PySem.W.Frag} {h : Heap} {mg : Str → Option Value} (X : K.In h) (G : h.Ns mainGlobals mg) {x : Str} {C : Addr} (g : PySem.W.nsIn K mainGlobals x = some (some (.ref C))) (q : PySem.W.excIn K C [.type "ValueError", .type "Exception", .type "BaseException", .type "object"] "ValueError.__new__" = true)
    (k : PySem.W.keepIn K (.ref C) = true) (b : PySem.W.subIn K (.ref C) (.type "BaseException") = some true) (t : PySem.W.typeIn K (.ref C) = some (.type "type")) (f1 : PySem.W.findIn K (.ref C) "__getattribute__" = some (some (.builtin "BaseException.__getattribute__"))) (f2 : PySem.W.findIn K (.ref C) "__getattr__" = some none)
    (f3 : PySem.W.hasDictIn K C = true) (f4 : PySem.W.findIn K (.ref C) "__class__" = some (some (.builtin "object.__class__"))) (f5 : PySem.W.mroIn K C (.type "object") = some true)
    (c1 : PySem.W.specialIn K (.builtin "object.__class__") "__get__" = some (some (.builtin "getset_descriptor.__get__"))) (c2 : PySem.W.takesIn K (.builtin "object.__class__") = some true) : XcC K mg x (.ref C) :=
  ⟨C, rfl, PySem.W.mg_of X G g, q, k, b, t, ⟨f1, f2, b, f3, f4, c1, c2, f5⟩⟩
theorem kit_own {K : PySem.W.Frag} {C D : Addr} {b : Bool} (self : PySem.W.subIn K (.ref C) (.ref C) = some true) (h : PySem.W.subIn K (.ref D) (.ref C) = some b) (hd : PySem.W.hasDictIn K C = true) (ht : PySem.W.typeIn K (.ref C) = some (.type "type")) : PySem.W.kitOne K (.ref D) (.ref C) = some b := by
  obtain ⟨cd, hc, _⟩ := PySem.W.any_some hd
  have e2 : ((PySem.W.clsIn K C).isSome && PySem.W.typeIn K (.ref C) == some (.type "type")) = true := by rw [hc, ht] <;> rfl
  unfold PySem.W.kitOne
  by_cases q : ((Value.ref D == Value.ref C) = true)
  · rw [if_pos q]
    have e := Value.ref.inj (beq_iff_eq.mp q)
    subst e
    exact self.symm.trans h
  · rw [if_neg q]
    show (if ((PySem.W.clsIn K C).isSome && PySem.W.typeIn K (.ref C) == some (.type "type")) = true then PySem.W.subIn K (.ref D) (.ref C) else none) = some b
    rw [if_pos e2]
    exact h
theorem kit_ve {K : PySem.W.Frag} {D : Addr} (h : PySem.W.subIn K (.ref D) (.type "ValueError") = some true) : PySem.W.kitOne K (.ref D) (.type "ValueError") = some true := by
  unfold PySem.W.kitOne
  rw [if_neg (by simp)]
  show (if PySem.W.kitMeta "ValueError" = true then PySem.W.subIn K (.ref D) (.type "ValueError") else none) = some true
  rw [if_pos (by decide +kernel)]
  exact h
def wRaise (c : Value) : WS := fun _ _ S XX => XX c none S
section
variable {X : Cx} {E : XK} {p p2 pos pos' : Pos}
theorem js_raise {x m : Str} {j : Nat} {v : Value} (xc : XcC X.K X.mg x v) (tk : Takes X (fun c d _ H => E c d H)) (hc : X.calm = true := by rfl) (hg : Gl X x := by rfl) (hdb : (x == ("__debug__" : Str)) = false := by decide) :
    JS X E (.Raise (some (.Call (.Name x p) [.Constant (.str m) j p2] [] pos)) none pos') (fun _ _ H => E v none H) (wRaise v) := by
  obtain ⟨C, rfl, gC, q, kC, sC, tC, _⟩ := xc
  exact ⟨ps_raise hc tk (pmk_own PySem.F.excBase_ValueError q gC kC (raises_own sC tC) hg hdb), fun ι σ H σD S DA XX De r s h l lx => lx ι (.ref C) none none S H Ext.refl r True.intro h⟩
end
/-! ### try -/
abbrev HdT := Value × Option Nat × (Addr → Value → Option Addr → TS)
/-- the ends of a suite; the name of the exception goes -/
def hEnds (D : Ends) : Option Nat → Ends
  | none => D
  | some i => { nx := fun σ H => D.nx (σ.set i none) H, rt := D.rt, bk := fun σ H => D.bk (σ.set i none) H, ct := fun σ H => D.ct (σ.set i none) H }
def hSt (σ : L2.St) (a : Addr) : Option Nat → L2.St
  | none => σ
  | some i => σ.set i (some (.ref a))
def wHdl (K : PySem.W.Frag) (Wout : WX) (D : Ends) : List HdT → WX
  | [] => Wout
  | h :: r => fun cls d σ H => ∃ b, PySem.W.exmOne K cls h.1 = some b ∧ (b = true → ∀ a, H a = none → h.2.2 a cls d (hEnds D h.2.1) (hSt σ a h.2.1) H) ∧ (b = false → wHdl K Wout D r cls d σ H)
/-- the suite of a clause -/
def HdSuite (X : Cx) (ss : List Stmt) (ts : Addr → Value → Option Addr → TS) : Prop :=
  ∀ (a : Addr) (oe : Obj) (cls : Value) (d : Option Addr) (pn : List (Addr × Obj)), Zc cls d oe → (∃ vs, oe.data = .fields vs) → PSs (X.suite a ((a, oe) :: pn)) ss (ts a cls d)
inductive Hdl (X : Cx) : List ExceptHandler → List HdT → Prop where
  | nil : Hdl X [] []
  | bare {x : Str} {c : Value} {ts : Addr → Value → Option Addr → TS} {b₀ : Stmt} {ss : List Stmt} {np ps : Pos} {hs : List ExceptHandler} {l : List HdT} (hc : Names X x c) (su : HdSuite X (b₀ :: ss) ts) (r : Hdl X hs l) :
      Hdl X (.ExceptHandler (some (.Name x np)) none (b₀ :: ss) ps :: hs) ((c, none, ts) :: l)
  | named {x n : Str} {c : Value} {i : Nat} {ts : Addr → Value → Option Addr → TS} {b₀ : Stmt} {ss : List Stmt} {np ps : Pos} {hs : List ExceptHandler} {l : List HdT} (hc : Names X x c) (hi : X.N[i]? = some n) (hl : X.env.kindOf n = some .local)
      (su : HdSuite X (b₀ :: ss) ts) (r : Hdl X hs l) : Hdl X (.ExceptHandler (some (.Name x np)) (some n) (b₀ :: ss) ps :: hs) ((c, some i, ts) :: l)
section
variable {X : Cx} {body : List Stmt} {h₀ : ExceptHandler} {hs : List ExceptHandler} {l : List HdT} {pos : Pos} {tb : WX → TS} {Wout : WX}
theorem ps_tryA (st : X.stack = X.env :: X.outer) (fr : X.env.frame = some X.env.locals) (nd : X.N.Nodup) (tk : Takes X Wout)
    (hb : ∀ (W : WX) (pn : List (Addr × Obj)) (xe : Value → Shared → Prop), Takes (X.tr pn xe) W → PassesOwn (model X.prog X.w) X.A X.env xe → PSs (X.tr pn xe) body (tb W)) (hh : Hdl X (h₀ :: hs) l) :
    PS X (.Try body (h₀ :: hs) [] [] pos) (fun D σ H => tb (wHdl X.K Wout D l) D σ H) := by
  refine ⟨fun pins s σ H D I h => wpAny_Try_except ?_⟩
  have ok := I.ok
  have af : X.A.frames = some (X.env :: X.outer) := ok.frames.trans (congrArg some st)
  let catch_ : Value → Shared → Prop := fun u t => wpAny (model X.prog X.w) X.A (noteFrame u X.env)
    (fun _ t2 => wpAny (model X.prog X.w) X.A (setFlight u none) (fun _ t3 => wpAny (model X.prog X.w) X.A (handleBy u X.env (h₀ :: hs)) (SP X pins D) X.xe t3) X.xe t2) X.xe t
  have caught : ∀ u t, XE (X.tr (X.pn ++ pins) catch_) (wHdl X.K Wout D l) u t → catch_ u t := by
    rintro u t ⟨a, B, sI, pins', σ1, H1, cls, d, rfl, J0, keep, upto, air, fresh, os, gens, want⟩
    have J : Inv X pins σ1 H1 sI := J0.ofTry ok
    have air : Sky B (X.env :: X.outer) a (Zc cls d) X.env.locals t.heap := st ▸ air
    refine Sky.land Zc.steady af fr air fun g fly up1 => ?_
    obtain ⟨oe, vs, there, hz, hd⟩ := fly.there
    have Jg : Inv X pins σ1 H1 { t with heap := g } := J.landed keep fly.1 (upto.trans up1) os gens
    have off : a ∉ frs (X.env :: X.outer) := fun hm => by
      obtain ⟨_, o2, e2, no⟩ := fly.2.2.1.mem hm
      rw [there] at e2
      cases e2
      exact no _ hd
    have offL : a ≠ X.env.locals := fun z => off (List.mem_filterMap.mpr ⟨X.env, .head _, by rw [fr, z]⟩)
    have offF : a ∉ X.fs := fun hm => by
      obtain ⟨v, hv, q⟩ := List.mem_filterMap.mp hm
      exact off (List.mem_filterMap.mpr ⟨v, .tail _ hv, q⟩)
    have Sg := Jg.suite there hd fresh offL offF
    have cls_ : PySem.W.Looks (model X.prog X.w) g (typeOf (.ref a)) cls := fun A Q E s k q => wpAny_typeOf_ref (k _ _ there) (hz.1 ▸ q)
    have name_ : ∀ {x : Str} {c : Value} {np : Pos} {Q E : Value → Shared → Prop}, Names X x c → Q c { t with heap := g } → wpAny (model X.prog X.w) (X.A.mark (some (.ref a))) (eval (.Name x np) X.env) Q E { t with heap := g } := fun {x c np Q E} hc q => by
      obtain ⟨g1, g2, g3 | ⟨g3, g4, g5⟩⟩ := hc
      · exact ld_glob (X := X.suite a ((a, oe) :: (X.pn ++ pins))) Sg g1 g3 q g2
      · exact ld_blt (X := X.suite a ((a, oe) :: (X.pn ++ pins))) Sg g1 g3 g4 q g5 g2
    have walk : ∀ {k : List ExceptHandler} {m : List HdT}, Hdl X k m → wHdl X.K Wout D m cls d σ1 H1 → wpAny (model X.prog X.w) X.A (handleBy (.ref a) X.env k) (SP X pins D) X.xe { t with heap := g } := by
      intro k m hk
      induction hk with
      | nil =>
        intro w
        refine wpAny_handleBy_nil ?_
        obtain ⟨_, _, _, o3, v3, T3, _, _, e3, _, d3, l3, _⟩ := id fly
        unfold PySem.passOn
        refine wpAny_bind (wpAny_field e3 d3 l3 ?_)
        rw [if_neg (show ¬((Value.ref T3 == Value.none) = true) from by simp)]
        have on : wpAny (model X.prog X.w) X.A (setFlight (.ref a) X.env.frame) (fun _ t4 => wpAny (model X.prog X.w) X.A (throw (.ref a) : Sem Flow) (SP X pins D) X.xe t4) X.xe { t with heap := g } := by
          rw [fr]
          exact HandSPX.setFlight_upZ fly fun g4 held up4 => wpAny_throw (tk _ _ ⟨a, B, sI, pins, σ1, H1, cls, d, rfl, J, keep, (upto.trans up1).trans up4, .inr (.inr (st.symm ▸ held)), fresh, os, gens, w⟩)
        first
          | exact wpAny_bind (wpAny_pure (wpAny_bind on))
          | exact wpAny_bind on
      | @bare x c ts b₀ ss np ps hs2 l2 hc su _ ih =>
        intro w
        obtain ⟨b, eb, yes, no⟩ := w
        refine wpAny_handleBy_cons (codeAny_handlers_test ?_) (by intro z; cases z)
        refine name_ hc ((PySem.W.exm_one (M := model X.prog X.w) Jg.kIn cls_ eb).here ?_)
        cases b with
        | false => exact ih (no rfl)
        | true =>
          refine codeAny_handlers_suite (HandSPX.lands_againZ fly fun g4 fly4 up4 => ?_)
          obtain ⟨o4, v4, t4, z4, d4⟩ := fly4.there
          have J4 : Inv X pins σ1 H1 { t with heap := g4 } := J.landed keep fly4.1 ((upto.trans up1).trans up4) os gens
          refine wpAny_mono ((su a o4 cls d (X.pn ++ pins) z4 ⟨_, d4⟩).run [] _ _ H1 _ (J4.suite t4 d4 fresh offL offF) (yes rfl a fresh)) (fun f s6 r6 => ?_) (fun _ _ z => False.elim z)
          cases f with
          | ret u => obtain ⟨_, _, _, S6, r, q⟩ := r6; exact ⟨_, _, _, S6.unsuite ok, r, q⟩
          | next => obtain ⟨_, _, S6, q⟩ := r6; exact ⟨_, _, S6.unsuite ok, q⟩
          | brk => obtain ⟨_, _, S6, q⟩ := r6; exact ⟨_, _, S6.unsuite ok, q⟩
          | cont => obtain ⟨_, _, S6, q⟩ := r6; exact ⟨_, _, S6.unsuite ok, q⟩
      | @named x n c i ts b₀ ss np ps hs2 l2 hc hi hl su _ ih =>
        intro w
        obtain ⟨b, eb, yes, no⟩ := w
        refine wpAny_handleBy_cons (codeAny_handlers_test ?_) (by intro z; cases z)
        refine name_ hc ((PySem.W.exm_one (M := model X.prog X.w) Jg.kIn cls_ eb).here ?_)
        cases b with
        | false => exact ih (no rfl)
        | true =>
          refine codeAny_handlers_suite_as (HandSPX.lands_againZ fly fun g4 fly4 up4 => ?_)
          obtain ⟨o4, v4, t4, z4, d4⟩ := fly4.there
          have J4 : Inv X pins σ1 H1 { t with heap := g4 } := J.landed keep fly4.1 ((upto.trans up1).trans up4) os gens
          have S4 := J4.suite t4 d4 fresh offL offF
          refine store_ok (X := X.suite a ((a, o4) :: (X.pn ++ pins))) (v := .ref a) S4 nd hi (.inl hl) rfl (fun s5 S5 => ?_) (.inr hl)
          have done : ∀ {σ6 : L2.St} {H6 : Hp} {s6 : Shared} {Q : Shared → Prop}, Inv (X.suite a ((a, o4) :: (X.pn ++ pins))) [] σ6 H6 s6 → (∀ s7, Inv X pins (σ6.set i none) H6 s7 → Q s7) →
              wpAny (model X.prog X.w) X.A (do bindName X.env n .none; unbindBehindTheSuite X.env n ps) (fun _ s7 => Q s7) X.xe s6 := fun S6 hq => gone_ok (S6.unsuite ok) nd hi hl hq
          refine wpAny_mono ((su a o4 cls d (X.pn ++ pins) z4 ⟨_, d4⟩).run [] s5 _ H1 _ S5 (yes rfl a fresh)) (fun f s6 r6 => ?_) (fun _ _ z => False.elim z)
          cases f with
          | ret u => obtain ⟨_, _, _, S6, r, q⟩ := r6; exact done S6 fun s7 J7 => ⟨_, _, _, J7, r, q⟩
          | next => obtain ⟨_, _, S6, q⟩ := r6; exact done S6 fun s7 J7 => ⟨_, _, J7, q⟩
          | brk => obtain ⟨_, _, S6, q⟩ := r6; exact done S6 fun s7 J7 => ⟨_, _, J7, q⟩
          | cont => obtain ⟨_, _, S6, q⟩ := r6; exact done S6 fun s7 J7 => ⟨_, _, J7, q⟩
    exact walk hh want
  refine wpAny_mono ((hb (wHdl X.K Wout D l) (X.pn ++ pins) catch_ caught PassesOwn.looking).run [] s σ H D (I.toTry _) h) (fun f s1 r1 => ?_) (fun e s1 he => he)
  cases f with
  | ret u => obtain ⟨_, _, _, J, r, q⟩ := r1; exact ⟨_, _, _, J.ofTry ok, r, q⟩
  | next => obtain ⟨_, _, J, q⟩ := r1; exact wpAny_execs_nil ⟨_, _, J.ofTry ok, q⟩
  | brk => obtain ⟨_, _, J, q⟩ := r1; exact ⟨_, _, J.ofTry ok, q⟩
  | cont => obtain ⟨_, _, J, q⟩ := r1; exact ⟨_, _, J.ofTry ok, q⟩
end
/-! ### try, read plainly -/
abbrev HdD := XN × Option Nat × (Addr → XN → WS)
def hSlots (N : Nat) (a : Addr) : Option Nat → ASt
  | none => List.replicate N none
  | some i => (List.replicate N none).set i (some (.exc a))
/-- the clauses, tried one after the other; a suite returns -/
def tryD (e : XN → Value) (DA : AE) (N : Nat) (XX : XKD) (S : Sto) (n : XN) : List HdD → Prop
  | [] => XX (e n) none S
  | h :: r => if n.sub h.1 = true then ∀ a, h.2.2 a n { nx := fun _ _ => False, rt := DA.rt, bk := fun _ _ => False, ct := fun _ _ => False } (hSlots N a h.2.1) S X0 else tryD e DA N XX S n r
def tryX (ns : List XN) (e : XN → Value) (N : Nat) (hs : List HdD) (DA : AE) (XX : XKD) : XKD := fun c fo S => fo = none ∧ ∃ n, n ∈ ns ∧ c = e n ∧ tryD e DA N XX S n hs
def wTry (ns : List XN) (e : XN → Value) (N : Nat) (wb : WS) (hs : List HdD) : WS := fun DA σ S XX => wb DA σ S (tryX ns e N hs DA XX)
/-- a clause's suite, for each exception that may come -/
def JSuite (X : Cx) (ns : List XN) (e : XN → Value) (ss : List Stmt) (ts : Addr → XN → TS) (ws : Addr → XN → WS) : Prop :=
  ∀ (a : Addr) (oe : Obj) (n : XN) (pn : List (Addr × Obj)), n ∈ ns → Zc (e n) none oe → (∃ vs, oe.data = .fields vs) → JSs (X.suite a ((a, oe) :: pn)) (fun _ _ _ => False) ss (ts a n) (ws a n)
open Classical in
noncomputable def suiteT (ns : List XN) (e : XN → Value) (ts : Addr → XN → TS) : Addr → Value → Option Addr → TS := fun a cls d => if h : d = none ∧ ∃ n, n ∈ ns ∧ cls = e n then ts a (choose h.2) else fun _ _ _ => False
theorem suiteT_at {K : PySem.W.Frag} {mg : Str → Option Value} {ns : List XN} {e : XN → Value} (o : XOk K mg ns e) {ts : Addr → XN → TS} {a : Addr} {n : XN} (hn : n ∈ ns) : suiteT ns e ts a (e n) none = ts a n := by
  have h : (none : Option Addr) = none ∧ ∃ m, m ∈ ns ∧ e n = e m := ⟨rfl, n, hn, rfl⟩
  unfold suiteT
  rw [dif_pos h]
  have q := Classical.choose_spec h.2
  rw [← o.inj hn q.1 q.2]
theorem JSuite.suite {X : Cx} {ns : List XN} {e : XN → Value} {ss : List Stmt} {ts : Addr → XN → TS} {ws : Addr → XN → WS} (j : JSuite X ns e ss ts ws) : HdSuite X ss (suiteT ns e ts) := by
  intro a oe cls d pn hz hf
  by_cases h : d = none ∧ ∃ n, n ∈ ns ∧ cls = e n
  · unfold suiteT
    rw [dif_pos h]
    have q := Classical.choose_spec h.2
    obtain ⟨rfl, _⟩ := h
    exact (j a oe _ pn q.1 (by rw [← q.2]; exact hz) hf).pe
  · unfold suiteT
    rw [dif_neg h]
    exact ⟨fun _ _ _ _ _ _ z => z.elim⟩
/-- the clauses: their terms and readings -/
inductive JHdl (X : Cx) (ns : List XN) (e : XN → Value) : List ExceptHandler → List HdT → List HdD → Prop where
  | nil : JHdl X ns e [] [] []
  | bare {x : Str} {m : XN} {ts : Addr → XN → TS} {ws : Addr → XN → WS} {b₀ : Stmt} {ss : List Stmt} {np ps : Pos} {hs : List ExceptHandler} {l : List HdT} {lw : List HdD} (hm : m ∈ ns) (hc : Names X x (e m)) (su : JSuite X ns e (b₀ :: ss) ts ws) (r : JHdl X ns e hs l lw) :
      JHdl X ns e (.ExceptHandler (some (.Name x np)) none (b₀ :: ss) ps :: hs) ((e m, none, suiteT ns e ts) :: l) ((m, none, ws) :: lw)
  | named {x n : Str} {m : XN} {i : Nat} {ts : Addr → XN → TS} {ws : Addr → XN → WS} {b₀ : Stmt} {ss : List Stmt} {np ps : Pos} {hs : List ExceptHandler} {l : List HdT} {lw : List HdD} (hm : m ∈ ns) (hc : Names X x (e m)) (hi : X.N[i]? = some n) (hl : X.env.kindOf n = some .local)
      (su : JSuite X ns e (b₀ :: ss) ts ws) (r : JHdl X ns e hs l lw) : JHdl X ns e (.ExceptHandler (some (.Name x np)) (some n) (b₀ :: ss) ps :: hs) ((e m, some i, suiteT ns e ts) :: l) ((m, some i, ws) :: lw)
theorem JHdl.hdl {X : Cx} {ns : List XN} {e : XN → Value} {hs : List ExceptHandler} {l : List HdT} {lw : List HdD} (j : JHdl X ns e hs l lw) : Hdl X hs l := by
  induction j with
  | nil => exact .nil
  | bare hm hc su r ih => exact .bare hc su.suite ih
  | named hm hc hi hl su r ih => exact .named hc hi hl su.suite ih
theorem JHdl.abs {X : Cx} {ns : List XN} {e : XN → Value} {hs : List ExceptHandler} {l : List HdT} {lw : List HdD} (j : JHdl X ns e hs l lw) (o : XOk X.K X.mg ns e) {E : XK} {ι : Ad} {H : Hp} {S : Sto} {DA : AE} {XX : XKD} {De : Ends} (r : RelS X.K ι S H) (ls : LkE X.K ι H DA.rt De.rt) (lx : LkX X.K ι H XX E)
    {n : XN} (hn : n ∈ ns) (h : tryD e DA X.N.length XX S n lw) {σ : L2.St} (hσ : σ.length = X.N.length) : wHdl X.K (fun c d _ H => E c d H) De l (e n) none σ H := by
  have no : ∀ {Q : L2.St → Hp → Prop}, LkN X.K ι H (fun _ _ => False) Q := fun {Q} _ _ _ _ _ _ _ _ z => z.elim
  induction j with
  | nil => exact lx ι (e n) none none S H Ext.refl r True.intro h
  | @bare x m ts ws b₀ ss np ps hs l lw hm hc su rr ih =>
    refine ⟨n.sub m, o.mat n hn m hm, fun b a na => ?_, fun b => ?_⟩
    · have h : (if n.sub m = true then _ else _) := h
      rw [if_pos b] at h
      rw [show (e m, (none : Option Nat), suiteT ns e ts).2.2 a (e n) none = ts a n from suiteT_at o hn]
      -- an exception of this class, to read the suite with
      refine (su a ⟨e n, none, .fields #[], #[]⟩ n [] hn ⟨rfl, rfl⟩ ⟨_, rfl⟩).ab ι _ H _ S _ X0 _ r ?_ (h a) ⟨no, ls, no, no⟩ LkX.none
      refine ⟨by show (List.replicate X.N.length none).length = σ.length; rw [List.length_replicate, hσ], fun i d hd => ?_⟩
      have hd : (List.replicate X.N.length (none : Option D))[i]? = some (some d) := hd
      rw [List.getElem?_replicate] at hd
      split at hd <;> cases hd
    · have h : (if n.sub m = true then _ else _) := h
      rw [if_neg (by rw [b]; exact Bool.false_ne_true)] at h
      exact ih h
  | @named x nm m i ts ws b₀ ss np ps hs l lw hm hc hi hl su rr ih =>
    refine ⟨n.sub m, o.mat n hn m hm, fun b a na => ?_, fun b => ?_⟩
    · have h : (if n.sub m = true then _ else _) := h
      rw [if_pos b] at h
      rw [show (e m, some i, suiteT ns e ts).2.2 a (e n) none = ts a n from suiteT_at o hn]
      refine (su a ⟨e n, none, .fields #[], #[]⟩ n [] hn ⟨rfl, rfl⟩ ⟨_, rfl⟩).ab ι _ H _ S _ X0 _ r ?_ (h a) ⟨no, ls, no, no⟩ LkX.none
      refine ⟨by show ((List.replicate X.N.length none).set i _).length = (σ.set i _).length; rw [List.length_set, List.length_set, List.length_replicate, hσ], fun k d hd => ?_⟩
      have hd : ((List.replicate X.N.length (none : Option D)).set i (some (.exc a)))[k]? = some (some d) := hd
      show ∃ v, (σ.set i (some (V.ref a)))[k]? = some (some v) ∧ _
      by_cases q : i = k
      · subst q
        have lt : i < σ.length := by
          have := (List.getElem?_eq_some_iff.mp hd).1
          rw [List.length_set, List.length_replicate] at this
          omega
        rw [List.getElem?_set_self (by rw [List.length_replicate, ← hσ]; exact lt)] at hd
        cases hd
        exact ⟨.ref a, List.getElem?_set_self lt, by unfold Rep; rfl⟩
      · rw [List.getElem?_set_ne q, List.getElem?_replicate] at hd
        split at hd <;> cases hd
    · have h : (if n.sub m = true then _ else _) := h
      rw [if_neg (by rw [b]; exact Bool.false_ne_true)] at h
      exact ih h
section
variable {X : Cx} {E : XK} {body : List Stmt} {h₀ : ExceptHandler} {hs : List ExceptHandler} {pos : Pos}
theorem js_try {ns : List XN} {e : XN → Value} {N : Nat} {l : List HdT} {lw : List HdD} {tb : XK → TS} {wb : WS} (o : XOk X.K X.mg ns e) (nd : X.N.Nodup) (tk : Takes X (fun c d _ H => E c d H))
    (hb : ∀ (E' : XK) (pn : List (Addr × Obj)) (xe : Value → Shared → Prop), Passes (L2.CX X.prog X.w) (X.tr pn xe) E' → JSs (X.tr pn xe) E' body (tb E') wb) (hh : JHdl X ns e (h₀ :: hs) l lw)
    (st : X.stack = X.env :: X.outer := by rfl) (fr : X.env.frame = some X.env.locals := by rfl) (hN : X.N.length = N := by rfl) :
    JS X E (.Try body (h₀ :: hs) [] [] pos) (fun D σ H => tb (fun c d H' => ∀ σ', σ'.length = X.N.length → wHdl X.K (fun c d _ H => E c d H) D l c d σ' H') D σ H) (wTry ns e N wb lw) := by
  subst hN
  refine ⟨ps_tryA (tb := fun W => tb (fun c d H' => ∀ σ', σ'.length = X.N.length → W c d σ' H')) st fr nd tk (fun W pn xe tk' _ => ?_) hh.hdl, ?_⟩
  · refine (hb _ pn xe fun pins σ H s u s' I c => tk' u s' (XE.of_call I (fun cls d H' h => h σ I.len) c)).pe
  · intro ι σ H σD S DA XX De r s h ls lx
    refine (hb _ [] (fun _ _ => True) (fun _ _ _ _ _ _ _ _ => True.intro)).ab ι σ H σD S DA _ De r s h ls ?_
    intro ι' c fo od S' H' ex r' xr hx σ' hσ'
    obtain ⟨rfl, n, hn, rfl, ht⟩ := hx
    cases od with
    | some _ => exact xr.elim
    | none => exact hh.abs o r' (ls.rt.ext ex) (lx.ext ex) hn ht hσ'
end
end AW
/-! AW17: isinstance of an exception that a suite holds. -/
namespace AW
open PySem PySem.Spec PyProof.Rows L2

/-- a class's address -/
def adr : Value → Addr
  | .ref a => a
  | _ => 0
/-- isinstance of slot i, the exception at a -/
def wExIs (i : Nat) (a : Addr) (b : Bool) : WE := fun σ S Q _ => σ[i]? = some (some (.exc a)) ∧ Q (.bl b) S
theorem bt_VE : bootBuiltins "ValueError" = some (.type "ValueError") := by decide +kernel
def rIsE2 (K : PySem.W.Frag) (D a : Addr) : List V → Hp → VK → Prop := fun xs H Q => ∃ (tp : Addr) (cs : List V) (us : List Value) (b : Bool), xs = [.ref a, .ref tp] ∧ H tp = some (.tup cs) ∧ Paired ClsV cs us ∧ PySem.W.kitAny K (.ref D) us = some b ∧ Q (.bl b) H
section
variable {X : Cx} {a : Addr} {oe : Obj} {pn : List (Addr × Obj)}
theorem inst_of {s : Shared} {pins : List (Addr × Obj)} {σ : L2.St} {H : Hp} {D : Addr} (hz : Zc (.ref D) none oe) (hf : ∃ vs, oe.data = .fields vs) (I : Inv (X.suite a ((a, oe) :: pn)) pins σ H s) : PySem.W.InstAt s.heap a oe D none := by
  obtain ⟨at_, _⟩ := I.pin (a, oe) (List.mem_append.mpr (.inl (.head _)))
  obtain ⟨vs, hv⟩ := hf
  obtain ⟨c, d, dt, sl⟩ := oe
  obtain ⟨e1, e2⟩ := hz
  dsimp only at e1 e2 hv
  subst e1 e2 hv
  exact ⟨at_, rfl, rfl, trivial⟩
theorem call_isE2 {D : Addr} (C : L2.ExcC X.K D) (hz : Zc (.ref D) none oe) (hf : ∃ vs, oe.data = .fields vs) : CallR (X.suite a ((a, oe) :: pn)) (.builtin "isinstance") (rIsE2 X.K D a) := by
  intro pins s σ H xs us Q I r h
  obtain ⟨tp, cs, ws, b, rfl, hT, k, e, q⟩ := h
  obtain ⟨u1, u2, rfl, r1, r2⟩ := vals2 r
  cases (show u1 = Value.ref a from r1)
  cases (show u2 = Value.ref tp from r2)
  obtain ⟨_, its, rv, o, g1, g2, n, g3⟩ := (show ObjOk _ _ H s.heap tp (.tup cs) from I.hok tp _ hT)
  have e3 := ClsV.all k rv
  subst e3
  obtain ⟨oc, od, dt, sl⟩ := o
  dsimp only at g2 g3
  subst g2 g3
  exact PySem.W.kia_tup (PySem.W.handS_kitx_exc C.hg C.hk C.hs C.hd C.ha C.hn C.ht C.hm) I.kIn (inst_of hz hf I) g1 e (fun z => nomatch z) fun tk => ⟨.bl b, H, I.kept (t' := tk) fun _ _ z => z, rfl, q⟩
variable {E : XK} {ns : List XN} {e : XN → Value} {n m m2 : XN} {x : Str} {p p1 p2 p3 p4 pos : Pos} {j : Nat}
theorem je_exIs (o : XOk X.K X.mg ns e) (hn : n ∈ ns) (hz : Zc (e n) none oe) (hf : ∃ vs, oe.data = .fields vs) (i : Nat) (m : XN) (hm : m ∈ ns) (mi : X.mg "isinstance" = none) (hN : X.N[i]? = some x := by rfl) (hg : Gl X "isinstance" := by rfl) (hgm : Gl X m.name := by rfl)
    (hv : Vis X.env.scope x := by first | exact Or.inl rfl | exact Or.inr (Or.inl rfl) | exact Or.inr (Or.inr rfl)) (hd : (x == ("__debug__" : Str)) = false := by decide) (hcd : (x == ("__classdict__" : Str)) = false := by decide)
    (h1 : starEach [.Name x p1, .Name m.name p2] X.env = (false, eval (.Name x p1) X.env) :: starEach [.Name m.name p2] X.env := by rfl) (h2 : starEach [.Name m.name p2] X.env = (false, eval (.Name m.name p2) X.env) :: starEach [] X.env := by rfl)
    (hpl : (backTo pos (starEach [.Name m.name p2] X.env)).any (·.1) = false := by rfl) :
    JE (X.suite a ((a, oe) :: pn)) E (.Call (.Name "isinstance" p) [.Name x p1, .Name m.name p2] [] pos) (tCB (rIsE X.K (adr (e n)) a) (tCons (tVar i) (tCons (tC (.ref (adr (e m)))) tNil))) (wExIs i a (n.sub m)) := by
  obtain ⟨D, eD, _, _, _, _, _, C⟩ := o.cls n hn
  obtain ⟨M, eM, gM, _⟩ := o.cls m hm
  rw [eD] at hz
  rw [show adr (e m) = M by rw [eM]; rfl]
  rw [show adr (e n) = D by rw [eD]; rfl]
  refine ⟨pe_callB (X := X.suite a ((a, oe) :: pn)) (call_isE C hz hf) hg mi bt_isinstance (pa_cons (X := X.suite a ((a, oe) :: pn)) (pe_var (i := i) hN hv hd hcd) (pa_cons (X := X.suite a ((a, oe) :: pn)) (pe_glob (v := .ref M) hgm gM rfl (by cases m <;> decide)) pa_nil h2) h1) (he := h1) (hpl := hpl), ?_⟩
  intro ι σ H σD S Q XX Qh r s h l lx
  obtain ⟨ha, hq⟩ := h
  obtain ⟨v, hv, rv⟩ := s.2 i _ ha
  unfold Rep at rv
  subst rv
  exact ⟨.ref a, hv, .ref M, .ref M, n.sub m, rfl, fun u hu => hu, by rw [← eD, ← eM]; exact o.isi n hn m hm, l ι _ S _ H Ext.refl r (rep_bl.mpr rfl) hq⟩
theorem je_exVE (o : XOk X.K X.mg ns e) (hn : n ∈ ns) (hz : Zc (e n) none oe) (hf : ∃ vs, oe.data = .fields vs) (i : Nat) (mi : X.mg "isinstance" = none) (mv : X.mg "ValueError" = none) (hN : X.N[i]? = some x := by rfl) (hg : Gl X "isinstance" := by rfl) (hgm : Gl X "ValueError" := by rfl)
    (hv : Vis X.env.scope x := by first | exact Or.inl rfl | exact Or.inr (Or.inl rfl) | exact Or.inr (Or.inr rfl)) (hd : (x == ("__debug__" : Str)) = false := by decide) (hcd : (x == ("__classdict__" : Str)) = false := by decide)
    (h1 : starEach [.Name x p1, .Name "ValueError" p2] X.env = (false, eval (.Name x p1) X.env) :: starEach [.Name "ValueError" p2] X.env := by rfl) (h2 : starEach [.Name "ValueError" p2] X.env = (false, eval (.Name "ValueError" p2) X.env) :: starEach [] X.env := by rfl)
    (hpl : (backTo pos (starEach [.Name "ValueError" p2] X.env)).any (·.1) = false := by rfl) :
    JE (X.suite a ((a, oe) :: pn)) E (.Call (.Name "isinstance" p) [.Name x p1, .Name "ValueError" p2] [] pos) (tCB (rIsE X.K (adr (e n)) a) (tCons (tVar i) (tCons (tC (.ty "ValueError")) tNil))) (wExIs i a true) := by
  obtain ⟨D, eD, _, _, _, _, _, C⟩ := o.cls n hn
  rw [eD] at hz
  rw [show adr (e n) = D by rw [eD]; rfl]
  refine ⟨pe_callB (X := X.suite a ((a, oe) :: pn)) (call_isE C hz hf) hg mi bt_isinstance (pa_cons (X := X.suite a ((a, oe) :: pn)) (pe_var (i := i) hN hv hd hcd) (pa_cons (X := X.suite a ((a, oe) :: pn)) (pe_bltn (v := .ty "ValueError") hgm mv bt_VE rfl) pa_nil h2) h1) (he := h1) (hpl := hpl), ?_⟩
  intro ι σ H σD S Q XX Qh r s h l lx
  obtain ⟨ha, hq⟩ := h
  obtain ⟨v, hv, rv⟩ := s.2 i _ ha
  unfold Rep at rv
  subst rv
  exact ⟨.ref a, hv, .ty "ValueError", .type "ValueError", true, rfl, fun u hu => hu, by rw [← eD]; exact o.isv n hn, l ι _ S _ H Ext.refl r (rep_bl.mpr rfl) hq⟩
theorem je_exIs2 (o : XOk X.K X.mg ns e) (hn : n ∈ ns) (hz : Zc (e n) none oe) (hf : ∃ vs, oe.data = .fields vs) (i : Nat) (m m2 : XN) (hm : m ∈ ns) (hm2 : m2 ∈ ns) (mi : X.mg "isinstance" = none) (hN : X.N[i]? = some x := by rfl) (hg : Gl X "isinstance" := by rfl) (hgm : Gl X m.name := by rfl) (hgm2 : Gl X m2.name := by rfl)
    (hv : Vis X.env.scope x := by first | exact Or.inl rfl | exact Or.inr (Or.inl rfl) | exact Or.inr (Or.inr rfl)) (hd : (x == ("__debug__" : Str)) = false := by decide) (hcd : (x == ("__classdict__" : Str)) = false := by decide)
    (h1 : starEach [.Name x p1, .Tuple [.Name m.name p2, .Name m2.name p3] j p4] X.env = (false, eval (.Name x p1) X.env) :: starEach [.Tuple [.Name m.name p2, .Name m2.name p3] j p4] X.env := by rfl)
    (h2 : starEach [.Tuple [.Name m.name p2, .Name m2.name p3] j p4] X.env = (false, eval (.Tuple [.Name m.name p2, .Name m2.name p3] j p4) X.env) :: starEach [] X.env := by rfl)
    (hpl : (backTo pos (starEach [.Tuple [.Name m.name p2, .Name m2.name p3] j p4] X.env)).any (·.1) = false := by rfl)
    (k1 : starEach [.Name m.name p2, .Name m2.name p3] X.env = (false, eval (.Name m.name p2) X.env) :: starEach [.Name m2.name p3] X.env := by rfl) (k2 : starEach [.Name m2.name p3] X.env = (false, eval (.Name m2.name p3) X.env) :: starEach [] X.env := by rfl) :
    JE (X.suite a ((a, oe) :: pn)) E (.Call (.Name "isinstance" p) [.Name x p1, .Tuple [.Name m.name p2, .Name m2.name p3] j p4] [] pos) (tCB (rIsE2 X.K (adr (e n)) a) (tCons (tVar i) (tCons (tTup (tCons (tC (.ref (adr (e m)))) (tCons (tC (.ref (adr (e m2)))) tNil))) tNil))) (wExIs i a (n.sub m || n.sub m2)) := by
  obtain ⟨D, eD, _, _, _, _, _, C⟩ := o.cls n hn
  obtain ⟨M, eM, gM, _⟩ := o.cls m hm
  obtain ⟨M2, eM2, gM2, _⟩ := o.cls m2 hm2
  rw [eD] at hz
  rw [show adr (e m) = M by rw [eM]; rfl, show adr (e m2) = M2 by rw [eM2]; rfl]
  rw [show adr (e n) = D by rw [eD]; rfl]
  have tup : PE (X.suite a ((a, oe) :: pn)) (.Tuple [.Name m.name p2, .Name m2.name p3] j p4) _ := pe_tup (pa_cons (X := X.suite a ((a, oe) :: pn)) (pe_glob (v := .ref M) hgm gM rfl (by cases m <;> decide)) (pa_cons (X := X.suite a ((a, oe) :: pn)) (pe_glob (v := .ref M2) hgm2 gM2 rfl (by cases m2 <;> decide)) pa_nil k2) k1)
  refine ⟨pe_callB (X := X.suite a ((a, oe) :: pn)) (call_isE2 C hz hf) hg mi bt_isinstance (pa_cons (X := X.suite a ((a, oe) :: pn)) (pe_var (i := i) hN hv hd hcd) (pa_cons (X := X.suite a ((a, oe) :: pn)) tup pa_nil h2) h1) (he := h1) (hpl := hpl), ?_⟩
  intro ι σ H σD S Q XX Qh r s h l lx
  obtain ⟨ha, hq⟩ := h
  obtain ⟨v, hv, rv⟩ := s.2 i _ ha
  unfold Rep at rv
  subst rv
  have rp : RepL X.K ι H [.exc M, .exc M2] [.ref M, .ref M2] := RepL.cons (by unfold Rep; rfl) (RepL.cons (by unfold Rep; rfl) RepL.nil)
  have l2 : LkE X.K ι H (fun _ S' => Q (.bl (n.sub m || n.sub m2)) S') (fun _ H' => Qh (.bl (n.sub m || n.sub m2)) H') := fun ι' d S' v H' e' r' _ q => l ι' _ S' _ H' e' r' (rep_bl.mpr rfl) q
  have any_ : PySem.W.kitAny X.K (.ref D) [.ref M, .ref M2] = some (n.sub m || n.sub m2) := by
    have a1 := o.isi n hn m hm
    have a2 := o.isi n hn m2 hm2
    rw [eD, eM] at a1
    rw [eD, eM2] at a2
    unfold PySem.W.kitAny
    rw [a1]
    cases n.sub m with
    | true => rfl
    | false =>
      unfold PySem.W.kitAny
      rw [a2]
      cases n.sub m2 <;> rfl
  refine ⟨.ref a, hv, by show 2 ≤ sizeLine; rw [sizeLine_eq]; decide, fun t ht => ?_⟩
  refine ⟨t, [.ref M, .ref M2], [.ref M, .ref M2], n.sub m || n.sub m2, rfl, upd_same .., .cons (.own M) (.cons (.own M2) .nil), any_, ?_⟩
  exact l2.tup (ds := [.exc M, .exc M2]) r rp hq ht
end
end AW
/-! AW18: x is True, range downwards, list(range(n)). -/
namespace AW
open PySem PySem.Spec PyProof.Rows L2

/-! ### is True, is False -/
def tIsB (f : Bool → Bool) (ta : TE) : TE := fun σ H Q => ta σ H fun x H1 => ∃ c, x = .bl c ∧ Q (.bl (f c)) H1
def wIsB (f : Bool → Bool) (wa : WE) : WE := fun σ S Q X => wa σ S (fun x S1 => match x with
  | .bl c => Q (.bl (f c)) S1
  | _ => False) X
section
variable {X : Cx} {E : XK} {pos pos' : Pos} {a : Expr} {ta : TA} {te : TE} {we : WE} {b : Bool} {j : Nat}
theorem pc_isB (ha : PE X a te) : PC X .Is a (.Constant (.bool b) j pos') (tIsB (fun c => c == b) te) := by
  refine ⟨fun pins s σ H Q I h => ?_⟩
  refine thn (ha.run pins s σ H _ I h) fun v s1 ⟨x, H1, I1, r1, q1⟩ => ?_
  obtain ⟨c, rfl, q⟩ := q1
  cases r1
  exact Constant_bool (is_bool ⟨.bl _, H1, I1, rfl, q⟩)
theorem pc_notB (ha : PE X a te) : PC X .IsNot a (.Constant (.bool b) j pos') (tIsB (fun c => c != b) te) := by
  refine ⟨fun pins s σ H Q I h => ?_⟩
  refine thn (ha.run pins s σ H _ I h) fun v s1 ⟨x, H1, I1, r1, q1⟩ => ?_
  obtain ⟨c, rfl, q⟩ := q1
  cases r1
  exact Constant_bool (isnot_bool ⟨.bl _, H1, I1, rfl, q⟩)
theorem abs_isB {K : PySem.W.Frag} {f : Bool → Bool} (ha : AbsE K E te we) : AbsE K E (tIsB f te) (wIsB f we) := by
  intro ι σ H σD S Q XX Qh r s h l lx
  refine ha ι σ H σD S _ XX _ r s h ?_ lx
  intro ι1 d1 S1 v1 H1 e1 r1 p1 h1
  cases d1 <;> try exact h1.elim
  rename_i c
  exact ⟨c, rep_bl.mp p1, l ι1 _ S1 _ H1 e1 r1 (rep_bl.mpr rfl) h1⟩
theorem je_isB (ha : JE X E a te we) : JE X E (.Compare a [.Is] [.Constant (.bool b) j pos'] pos) (tIsB (fun c => c == b) te) (wIsB (fun c => c == b) we) := ⟨pe_cmp (pc_isB ha.pe) rfl, abs_isB ha.ab⟩
theorem je_notB (ha : JE X E a te we) : JE X E (.Compare a [.IsNot] [.Constant (.bool b) j pos'] pos) (tIsB (fun c => c != b) te) (wIsB (fun c => c != b) we) := ⟨pe_cmp (pc_notB ha.pe) rfl, abs_isB ha.ab⟩
theorem jt_isB (ha : JE X E a te we) : JT X E (.Compare a [.Is] [.Constant (.bool b) j pos'] pos) (L2.tB (tIsB (fun c => c == b) te)) (wTest (wIsB (fun c => c == b) we)) := ⟨pt_cmp (pc_isB ha.pe) rfl, abs_b (je_isB (pos := pos) (j := j) (pos' := pos') ha).ab⟩
theorem jt_notB (ha : JE X E a te we) : JT X E (.Compare a [.IsNot] [.Constant (.bool b) j pos'] pos) (L2.tB (tIsB (fun c => c != b) te)) (wTest (wIsB (fun c => c != b) we)) := ⟨pt_cmp (pc_notB ha.pe) rfl, abs_b (je_notB (pos := pos) (j := j) (pos' := pos') ha).ab⟩
end
def isbQ (f : Bool → Bool) (x : D) (S : Sto) (Q : VKD) : Prop := match x with
  | .bl c => Q (.bl (f c)) S
  | _ => False
theorem ax_xisb {f : Bool → Bool} {a : WE} {σ : ASt} {S : Sto} {Q : VKD} {X : XKD} : wIsB f a σ S Q X = (a σ S (fun x S1 => isbQ f x S1 (Lz Q .mk)) X) := id rfl
theorem ax_isb {f : Bool → Bool} {c : Bool} {S : Sto} {Q : VKD} : isbQ f (.bl c) S Q = Q (.bl (f c)) S := id rfl

/-! ### range downwards -/
def downD (hi : Int) (n : Nat) : List D := (List.range n).map fun k => .int (hi - (k : Nat))
theorem downD_len (hi : Int) (n : Nat) : (downD hi n).length = n := by unfold downD; simp
theorem downD_get {hi : Int} {n i : Nat} {d : D} (h : (downD hi n)[i]? = some d) : i < n ∧ d = .int (hi - (i : Nat)) := by
  have hi' : i < n := by rw [← downD_len hi n]; exact (List.getElem?_eq_some_iff.mp h).1
  unfold downD at h
  rw [List.getElem?_map, List.getElem?_range hi'] at h
  exact ⟨hi', (Option.some.inj h).symm⟩
theorem simDown {K ι H} {hi : Int} {n : Nat} : SimIt K ι H (Itc hi (-1) n) (.seq (downD hi n)) := by
  intro i ι' S' H' e r
  refine ⟨fun d hd => ?_, fun hd => ?_⟩
  · obtain ⟨hlt, ed⟩ := downD_get (Option.some.inj hd)
    subst ed
    refine ⟨hlt, fun y H'' hy => ?_⟩
    obtain ⟨e1, e2⟩ := hy
    subst e1
    exact ⟨Ext.refl, r, rep_int.mpr (by rw [e2, show hi + (i : Nat) * -1 = hi - (i : Nat) by omega])⟩
  · have := List.getElem?_eq_none_iff.mp (Option.some.inj hd : (downD hi n)[i]? = none)
    rw [downD_len] at this
    exact this
def r3Q (ds : List D) (S : Sto) (Q : Src → Sto → Prop) : Prop := match ds with
  | [.int i, .int j, .int c] => (c = -1 ∧ -(2 ^ 62) ≤ i ∧ i < 2 ^ 62 ∧ -(2 ^ 62) ≤ j ∧ j < 2 ^ 62) ∧ Q (.seq (downD i (i - j).toNat)) S
  | _ => False
def wiRange3 (w : WA) : WI := fun σ S Q X => w σ S (fun ds S1 => r3Q ds S1 Q) X
section
variable {X : Cx} {E : XK} {tg : Expr} {pos p : Pos}
theorem ji_range3 {a b c : Expr} {ta : TA} {wa : WA} (hm : X.mg "range" = none) (ha : JA X E [a, b, c] ta wa) (hg : Gl X "range" := by rfl) (hs : starEach [a, b, c] X.env = (false, eval a X.env) :: starEach [b, c] X.env := by rfl)
    (hpl : (backTo pos (starEach [b, c] X.env)).any (·.1) = false := by rfl) : JI X E tg (.Call (.Name "range" p) [a, b, c] [] pos) (iRng3 ta) (wiRange3 wa) := by
  refine ⟨pi_range3 hg hm ha.pe hs hpl, ?_⟩
  intro ι σ H σD S Q XX R r s h l lx
  refine ha.ab ι σ H σD S _ XX _ r s h ?_ lx
  intro ι1 ds S1 vs H1 e1 r1 p1 h1
  have h1 : r3Q ds S1 Q := h1
  unfold r3Q at h1
  split at h1
  · rename_i i j c
    obtain ⟨v, u, w, ev, q1, q2, q3⟩ := repL3 p1
    subst ev
    rw [rep_int] at q1 q2 q3
    subst q1 q2 q3
    obtain ⟨⟨rfl, a1, a2, a3, a4⟩, hq⟩ := h1
    exact ⟨_, _, -1, _, rfl, RgC.neg a1 a2 a3 a4, l ι1 _ S1 _ H1 e1 r1 simDown hq⟩
  · exact h1.elim
end
theorem ax_xr3 {w : WA} {σ : ASt} {S : Sto} {Q : Src → Sto → Prop} {X : XKD} : wiRange3 w σ S Q X = (w σ S (fun ds S1 => r3Q ds S1 (Lz Q .mk)) X) := id rfl
theorem ax_xr3q {i j c : Int} {S : Sto} {Q : Src → Sto → Prop} : r3Q [.int i, .int j, .int c] S Q = ((c = -1 ∧ -(2 ^ 62) ≤ i ∧ i < 2 ^ 62 ∧ -(2 ^ 62) ≤ j ∧ j < 2 ^ 62) ∧ Q (.seq (downD i (i - j).toNat)) S) := id rfl
theorem down_cut {wg : WG} {b : WS} {D0 : AE} {σ : ASt} {S : Sto} {X : XKD} (hi : Int) (n : Nat) (P : Nat → ASt → Sto → Prop) (h0 : P 0 σ S)
    (hs : ∀ i σ S (R : ASt → Sto → Prop), i < n → P i σ S → (∀ σ' S', P (i + 1) σ' S' → R σ' S') → wg (.int (hi - (i : Nat))) σ S (Lz (fun σ1 S1 => b { nx := R, rt := D0.rt, bk := D0.nx, ct := R } σ1 S1 X) .mk) X)
    (hd : ∀ σ S, P n σ S → D0.nx σ S) : forL wg b D0 X (downD hi n) σ S :=
  forl_cut (downD hi n) P h0 (fun i d σ S R h hp hR => by
    obtain ⟨hlt, rfl⟩ := downD_get h
    exact hs i σ S R hlt hp hR) (fun σ S h => hd σ S (by rw [downD_len] at h; exact h))
end AW
/-! AW19: x[::-1] of lists and tuples. -/
namespace AW
open PySem PySem.Spec PyProof.Rows L2

section
variable {prog : Program} {w : World} {A : Around} {E : Value → Shared → Prop} {s : Shared}
theorem places_rev (n : Nat) : Builtin.Slice.slicePlaces ((n : Int) - 1) (-1) (-1) = n := by
  unfold Builtin.Slice.slicePlaces
  rw [if_neg (show ¬((-1 : Int) > 0) by decide)]
  split
  · rw [show -(-1 : Int) = 1 by decide, Int.ediv_one]; omega
  · omega
theorem sliceApplied_rev {sl : Addr} {u : Tok} {n : Nat} {Q : Int × Int × Nat → Shared → Prop} (hs : s.heap.IsSliceOf sl .none .none (.int (-1) u)) (h : Q ((n : Int) - 1, -1, n) s) :
    wpAny (model prog w) A (Builtin.Slice.sliceApplied (.ref sl) (pure (n : Int))) Q E s := by
  obtain ⟨os, hos, hcs, hds⟩ := id hs
  unfold Builtin.Slice.sliceApplied Builtin.Slice.sliceFields
  refine wpAny_bind (wpAny_bind (wpAny_field hos hds (x := .none) rfl (wpAny_bind (wpAny_field hos hds (x := .none) rfl (wpAny_bind (wpAny_field hos hds (x := .int (-1) u) rfl (wpAny_pure ?_)))))))
  refine wpAny_bind (HT.slicePart_ (.int (-1) u) ?_)
  show wpAny _ _ (if ((-1 : Int) == 0) = true then _ else _) _ _ s
  rw [if_neg (by decide)]
  refine wpAny_bind (HT.slicePart_ .none (wpAny_bind (HT.slicePart_ .none (wpAny_bind (wpAny_pure ?_)))))
  show wpAny _ _ (pure ((n : Int) - 1, (-1 : Int), Builtin.Slice.slicePlaces ((n : Int) - 1) (-1) (-1))) _ _ s
  rw [places_rev]
  exact wpAny_pure h
theorem filterMap_all {α β : Type} {f : α → Option β} {g : α → β} : ∀ {l : List α}, (∀ k ∈ l, f k = some (g k)) → l.filterMap f = l.map g
  | [], _ => rfl
  | a :: l, h => by
    rw [List.filterMap_cons_some (h a (.head _)), List.map_cons, filterMap_all fun k hk => h k (.tail _ hk)]
theorem pick_rev (xs : Array Value) : ((List.range xs.size).filterMap fun (k : Nat) => xs[((xs.size : Int) - 1 + (k : Int) * (-1)).toNat]?).toArray = xs.toList.reverse.toArray := by
  congr 1
  rw [filterMap_all (g := fun k => xs.toList.reverse[k]?.getD .none) fun k hk => ?_]
  · apply List.ext_getElem
    · simp
    · intro i h1 h2
      simp at h1 h2 ⊢
      rw [List.getElem?_eq_getElem (by simpa using h2)]
      simp
  · have hk := List.mem_range.mp hk
    have h1 : ((xs.size : Int) - 1 + (k : Int) * (-1)).toNat = xs.size - 1 - k := by omega
    show xs[((xs.size : Int) - 1 + (k : Int) * (-1)).toNat]? = _
    rw [h1, List.getElem?_reverse (by rw [Array.length_toList]; exact hk), Array.length_toList, Array.getElem?_toList, Array.getElem?_eq_getElem (by omega)]
    rfl
theorem getItem_tuple_rev {t sl : Addr} {u : Tok} {items : Array Value} {Q : Value → Shared → Prop} (ht : IsTup s.heap t items) (hs : s.heap.IsSliceOf sl .none .none (.int (-1) u))
    (h : Q (.ref s.heap.objs.size) { s with heap := s.heap.push { cls := .type "tuple", data := .seq items.toList.reverse.toArray } }) (hsz : items.size ≤ sizeLine) : wpAny (model prog w) A (getItem (.ref t) (.ref sl)) Q E s := by
  have fits : sizeOk (.seq items.toList.reverse.toArray) := by
    show items.toList.reverse.toArray.size ≤ sizeLine
    rw [List.size_toArray, List.length_reverse, Array.length_toList]
    exact hsz
  obtain ⟨os, hos, hcs, hds⟩ := id hs
  have hTs : s.TypeIs (.ref sl) "slice" := ⟨os, hos, hcs⟩
  unfold getItem
  try with_reducible refine wpAny_holding ?_
  first | refine wpAny_bind (wpAny_pure ?_) | skip
  refine wpAny_bind (wpAny_sequenceKey ht.typeIs (by decide) ?_)
  refine wpAny_bind (wpAny_callSpecial?_slot (name := Str.ofString "__getitem__") ht.typeIs PyProof.Rows.slot_tuple_getitem (wpAny_call_entry PyProof.Rows.slot_tuple_getitem ht.typeIs entry_tuple_getitem ?_ (args_tuple_getitem _ _)))
  show wpAny _ _ (Builtin.Tuple.tupleItemsOf (.ref t) >>= _) _ _ s
  refine wpAny_bind (tupleItemsOf_ ht (wpAny_bind (wpAny_typeOf hTs ?_)))
  rw [if_pos (by decide)]
  refine wpAny_bind (sliceApplied_rev hs ?_)
  have other : ¬((((items.size : Int) - 1) == 0 && (-1 : Int) == 1 && items.size == items.size) = true) := by simp
  show wpAny _ _ (if ((((items.size : Int) - 1) == 0 && (-1 : Int) == 1 && items.size == items.size) = true) then _ else _) _ _ s
  rw [if_neg other, pick_rev]
  first
    | exact wpAny_bind (m := Builtin.Tuple.tupleExact _) (wpAny_newObj_type (wpAny_pure ⟨_, rfl, wpAny_pure h⟩) fits)
    | exact wpAny_bind (m := Builtin.Tuple.tupleExact _) (wpAny_newObj_type (wpAny_bind (wpAny_pure (wpAny_pure ⟨_, rfl, wpAny_pure h⟩))) fits)
    | exact wpAny_bind (wpAny_bind (m := Builtin.Tuple.tupleExact _) (wpAny_newObj_type (wpAny_pure (wpAny_pure ⟨_, rfl, wpAny_pure h⟩)) fits))
    | exact wpAny_bind (wpAny_bind (m := Builtin.Tuple.tupleExact _) (wpAny_newObj_type (wpAny_pure ⟨_, rfl, wpAny_pure h⟩) fits))
end
/-- x[::-1] -/
def tRevA (K : PySem.W.Frag) (te : TE) : TE := fun σ H Q => te σ H fun x H1 => ∃ a xs, x = .ref a ∧
  ((SqL K H1 a xs ∧ ∀ p, H1 p = none → Q (.ref p) (upd H1 p (.lst xs.reverse))) ∨ (SqT K H1 a xs ∧ ∀ p, H1 p = none → Q (.ref p) (upd H1 p (.tup xs.reverse))))
section
variable {X : Cx} {e : Expr} {te : TE} {we : WE} {E : XK} {k : Nat} {p1 p2 p3 pos : Pos}
theorem pe_revA (he : PE X e te) : PE X (.Subscript e (.Slice none none (some (.UnaryOp .USub (.Constant (.int 1) k p1) p2)) p3) pos) (tRevA X.K te) := by
  refine ⟨fun pins s σ H Q I h => ?_⟩
  refine Subscript_ (thn (he.run pins s σ H _ I h) fun v s1 ⟨x, H1, I1, r1, a, xs, ex, q1⟩ => ?_)
  subst ex
  cases r1
  have minus : PO X (some (.UnaryOp .USub (.Constant (.int 1) k p1) p2)) (tPart (tUn (rU fun i => .int (-i)) (tC (.int 1)))) := po_some (pe_un un_neg pe_int)
  refine wpAny_Slice (thn (po_none.run pins s1 σ H1 (fun o H2 => o = none ∧ H2 = H1) I1 ⟨rfl, rfl⟩) fun vl s2 ⟨l, H2, I2, pl, el, e2⟩ => ?_)
  subst el e2
  refine thn (po_none.run pins s2 σ H2 (fun o H3 => o = none ∧ H3 = H2) I2 ⟨rfl, rfl⟩) fun vu s3 ⟨u, H3, I3, pu, eu, e3⟩ => ?_
  subst eu e3
  refine thn (minus.run pins s3 σ H3 (fun o H4 => o = some (-1) ∧ H4 = H3) I3 ⟨1, rfl, -1, rfl, rfl, rfl⟩) fun vs s4 ⟨o, H4, I4, ps, eo, e4⟩ => ?_
  subst eo e4
  have I5 : Inv X pins σ H4 { s4 with heap := s4.heap.push { cls := .type "slice", data := .fields #[vl, vu, vs] } } := I4.kept (t' := s4.toks) fun b ob q => Heap.get?_push_of_some _ q
  show wpAny (model X.prog X.w) X.A (subscriptTail e (.Slice none none (some (.UnaryOp .USub (.Constant (.int 1) k p1) p2)) p3) (.ref a) (.ref s4.heap.objs.size)) (EP X pins σ Q) X.xe { s4 with heap := s4.heap.push { cls := .type "slice", data := .fields #[vl, vu, vs] } }
  rcases q1 with ⟨hx, q⟩ | ⟨hx, q⟩
  · obtain ⟨its, r, ht, hz⟩ := I5.list hx
    have hlen := r.length
    refine tail_any (ops := [.ref a, .ref s4.heap.objs.size]) ht.isList.typeIs (PySem.slot_list_getitem.lookup) ?_ (by with_unfolding_all rfl)
    refine wpAny_getItem_list_slice ht.isList (Heap.IsSliceOf.new _ vl vu vs) pl pu ps (by decide) ?_ (by rw [List.size_toArray]; omega)
    rw [PySem.W.krv_pick]
    refine ⟨.ref _, _, I5.laid (t' := s4.toks) (o := .lst xs.reverse) (fun b ob q => Heap.get?_push_of_some _ q) (Nat.le_refl _) ?_, rfl, q _ (I5.hok.fresh (Nat.le_refl _))⟩
    exact ⟨by rw [List.length_reverse]; exact hz, _, 0, r.reverse, Heap.get?_push_size _ rfl⟩
  · obtain ⟨its, r, ht, hz⟩ := I5.tuple hx
    have hlen := r.length
    cases pl
    cases pu
    cases ps with
    | int _ tk =>
      refine tail_any (ops := [.ref a, .ref s4.heap.objs.size]) ht.typeIs (PyProof.Rows.slot_tuple_getitem.lookup) ?_ (by with_unfolding_all rfl)
      refine getItem_tuple_rev ht (Heap.IsSliceOf.new _ .none .none (.int (-1) tk)) ?_ (by rw [List.size_toArray]; omega)
      refine ⟨.ref _, _, I5.laid (t' := s4.toks) (o := .tup xs.reverse) (fun b ob q => Heap.get?_push_of_some _ q) (Nat.le_refl _) ?_, rfl, q _ (I5.hok.fresh (Nat.le_refl _))⟩
      exact ⟨by rw [List.length_reverse]; exact hz, its.reverse, r.reverse, IsTup.new _ _⟩
def fRev (x : D) (S : Sto) (Q : VKD) : Prop := match x with
  | .tup ds => Q (.tup ds.reverse) S
  | x => match itemsL S x with
    | some ds => Q (.fl ds.reverse) S
    | none => False
def wRev (we : WE) : WE := fun σ S Q X => we σ S (fun x S1 => fRev x S1 Q) X
theorem je_rev {K : PySem.W.Frag} (he : JE X E e te we) (hK : X.K = K := by rfl) : JE X E (.Subscript e (.Slice none none (some (.UnaryOp .USub (.Constant (.int 1) k p1) p2)) p3) pos) (tRevA K te) (wRev we) := by
  subst hK
  refine ⟨pe_revA he.pe, ?_⟩
  intro ι σ H σD S Q XX Qh r s h l lx
  refine he.ab ι σ H σD S _ XX _ r s h ?_ lx
  intro ι1 d1 S1 v1 H1 e1 r1 p1 h1
  have seq : ∀ {d : D}, Rep X.K ι1 H1 d v1 → (match itemsL S1 d with
      | some ds => Q (.fl ds.reverse) S1
      | none => False) → ∃ a xs, v1 = .ref a ∧ ((SqL X.K H1 a xs ∧ ∀ p, H1 p = none → Qh (.ref p) (upd H1 p (.lst xs.reverse))) ∨ (SqT X.K H1 a xs ∧ ∀ p, H1 p = none → Qh (.ref p) (upd H1 p (.tup xs.reverse)))) := fun {d} hd hq => by
    split at hq
    · rename_i ds e
      obtain ⟨a, xs, rfl, hs, hl⟩ := itemsL_rep r1 hd e
      exact ⟨a, xs, rfl, .inl ⟨hs, fun p hp => (l.ext e1).fl r1 (RepL.reverse hl) hq hp⟩⟩
    · exact hq.elim
  cases d1 with
  | tup ds =>
    obtain ⟨a, xs, rfl, hs, hl⟩ := rep_tup.mp p1
    exact ⟨a, xs, rfl, .inr ⟨hs, fun p hp => (l.ext e1).tup r1 (RepL.reverse hl) h1 hp⟩⟩
  | _ => exact seq p1 h1
end
theorem ax_xrev {a : WE} {σ : ASt} {S : Sto} {Q : VKD} {X : XKD} : wRev a σ S Q X = (a σ S (fun x S1 => fRev x S1 (Lz Q .mk)) X) := id rfl
theorem ax_rev_t {ds : List D} {S : Sto} {Q : VKD} : fRev (.tup ds) S Q = Q (.tup ds.reverse) S := id rfl
theorem ax_rev_f {ds : List D} {S : Sto} {Q : VKD} : fRev (.fl ds) S Q = Q (.fl ds.reverse) S := id rfl
end AW
/-! AW20: // of numbers of any size (Python divides large ones by a module of its own; the model wants room for its frames). -/
namespace AW
open PySem PySem.Spec PyProof.Rows L2

section
variable {X : Cx}
/-- what // by a large divisor wants of its place -/
structure BigOk (X : Cx) : Prop where
  see : X.base.NoSeer
  tree : X.prog.given.tree = none
  stk : X.stack = X.env :: X.outer
  gen : X.env.scope.isGenerator = false
  co : X.env.scope.isCoroutine = false
  dep : X.A.depth + 100 < recursionLimit
theorem BigOk.room (b : BigOk X) {pins : List (Addr × Obj)} {σ : L2.St} {H : Hp} {s : Shared} (I : Inv X pins σ H s) : PySem.PylongRoom (model X.prog X.w) X.A s := by
  have fr : X.A.frames = some (X.env :: X.outer) := I.ok.frames.trans (congrArg some b.stk)
  exact PySem.PylongRoom.of I.nolimit b.dep (PySem.SeerAt.of (b.see.keeps I.bk) b.tree fr b.gen b.co I.ok.blt I.ok.glob)
theorem op_divX (b : BigOk X) : OpR X (binaryOp .FloorDiv) (rI (fun _ j => j ≠ 0) fun i j => .int (i.fdiv j)) := by
  rintro pins s σ H x y v u Q I rx ry ⟨i, j, rfl, rfl, hc, q⟩
  obtain ⟨t, rfl⟩ := rx
  obtain ⟨t2, rfl⟩ := ry
  exact floordiv_int hc ⟨.int (i.fdiv j), H, I.tok _, ⟨_, rfl⟩, q⟩ (.inr (b.room I))
end
def fDivX : F2 := fun x y S Q _ => match x, y with
  | .int i, .int j => j ≠ 0 ∧ Q (.int (i.fdiv j)) S
  | _, _ => False
section
variable {X : Cx} {E : XK} {pos : Pos} {a b : Expr} {ta tb : TE} {wa wb : WE}
theorem abs_divX {K : PySem.W.Frag} : AbsR2 K E (rI (fun _ j => j ≠ 0) fun i j => .int (i.fdiv j)) fDivX := abs_int fun x y S Q XX h => by
  cases x <;> cases y <;> try exact h.elim
  exact ⟨_, _, rfl, rfl, h⟩
theorem je_divX (bo : BigOk X) (ha : JE X E a ta wa) (hb : JE X E b tb wb) : JE X E (.BinOp a .FloorDiv b pos) (tOp (rI (fun _ j => j ≠ 0) fun i j => .int (i.fdiv j)) ta tb) (wOp fDivX wa wb) := je_op (op_divX bo) abs_divX ha hb
end
theorem ax_xdivx {i j : Int} {S : Sto} {Q : VKD} {X : XKD} : fDivX (.int i) (.int j) S Q X = (j ≠ 0 ∧ Q (.int (i.fdiv j)) S) := id rfl
/-- a def's body has room for it -/
theorem big_of {P : Program} {w : World} {K : PySem.W.Frag} {mg : Str → Option Value} {base : Heap} {N : List Str} {qual : Str} {sc : Scope} {f : Addr} {cdv : Value} {A : Around} {outer : List Env} {s : Shared} {H : Hp} {E : XK} {k : Nat}
    (sb : base.NoSeer) (ht : P.given.tree = none) (hr : Room k (A.deeper (envOfC qual sc s.heap.objs.size f cdv))) (hk : 33 ≤ k) (h1 : sc.isGenerator = false) (h2 : sc.isCoroutine = false) : BigOk (cxOf (L2.CX P w) P w K mg base N qual sc f cdv A outer s H E) :=
  ⟨sb, ht, rfl, h1, h2, by have := hr.dp; show (A.deeper (envOfC qual sc s.heap.objs.size f cdv)).depth + 100 < _; omega⟩

/-! ### the law's entry, where what is seen of the start is passed on -/
theorem law_see {P : Program} {w : World} {K : PySem.W.Frag} {mg mb : Str → Option Value} {k : Nat} {fa a : Addr} {fd : FuncData} {x : Str} {sp : Sp} {s1 : Shared} {vs : List Value} {ns : List Int} (kx : K.In s1.heap)
    (gn : s1.heap.Ns mainGlobals mg) (bn : s1.heap.Ns builtinsNs mb) (bl : ∀ x : Str, x ≠ "__name__" → mb x = bootBuiltins x) (li : s1.heap.NoLimit) (se : s1.heap.NoSeer) (ge : s1.gens = #[])
    (there : s1.heap.get? a = some { cls := .type "list", data := .seq vs.toArray }) (ia : IntsAre vs ns) (sz : ns.length ≤ sizeLine) (hr : Room k callerA)
    (F : ∀ base : Heap, K.In base → base.Ns mainGlobals mg → base.NoSeer → FnOk P w K mg base (L2.CX P w) k fa fd [x] sp) (bi : ∀ (s : Shared) (u : Value), BindsTo s fd ⟨[u], []⟩ [(x, u)])
    (want : ∀ H : Hp, Only H → SqL K H a (ns.map V.int) → sp [.ref a] H (fun v _ => v = .bl true) fun _ _ _ => False) :
    codeAny (model P w) callerA (.call (.ref fa) ⟨[.ref a], []⟩) (fun r s2 => r = .ok (.ret (.bool true)) ∧ OldK s1.heap s2.heap ∧ s2.os = s1.os ∧ AllBare s2.gens) s1 := by
  have rels := vals_ints ia
  have goes : ∀ H : Hp, Only H → SqL K H a (ns.map V.int) → HOk P w H s1.heap → (∀ b, H b ≠ none → b = a) → (H a ≠ none → K.lookup a = none) →
      codeAny (model P w) callerA (.call (.ref fa) ⟨[.ref a], []⟩) (fun r s2 => r = .ok (.ret (.bool true)) ∧ OldK s1.heap s2.heap ∧ s2.os = s1.os ∧ AllBare s2.gens) s1 := fun H only sq hk one off => by
    have stays : ∀ {b : Addr} {o : Obj}, s1.heap.get? b = some o → H b = none → (hidT s1.heap H).get? b = some o := fun e n => hidT_get e n
    have free : ∀ {b : Addr} {o : Obj}, s1.heap.get? b = some o → o.cls ≠ .type "list" → H b = none := fun {b o} e d => by
      cases z : H b with
      | none => rfl
      | some u =>
        obtain rfl := one b (by rw [z]; exact fun y => nomatch y)
        rw [there] at e
        cases e
        exact absurd rfl d
    have freeD : ∀ {b : Addr} {o : Obj} {es : Array DictEntry} {ep : Nat}, s1.heap.get? b = some o → o.data = .dict es ep → H b = none := fun {b o es ep} e d => by
      cases z : H b with
      | none => rfl
      | some u =>
        obtain rfl := one b (by rw [z]; exact fun y => nomatch y)
        rw [there] at e
        cases e
        exact nomatch d
    have space : ∀ {b : Addr} {m : Str → Option Value}, s1.heap.Ns b m → (hidT s1.heap H).Ns b m := fun {b m} ⟨o, es, ep, e, d, r⟩ => ⟨o, es, ep, stays e (freeD e d), d, r⟩
    have kin : K.In (hidT s1.heap H) := fun b o e => stays (kx b o e) (by
      cases z : H b with
      | none => rfl
      | some u =>
        obtain rfl := one b (by rw [z]; exact fun y => nomatch y)
        rw [off (by rw [z]; exact fun y => nomatch y)] at e
        cases e)
    have seen : (hidT s1.heap H).NoSeer := by
      obtain ⟨⟨c1, c2, c3⟩, ⟨m1, m2, m3⟩, ⟨i1, i2, i3⟩, g1, bm, ob, g2, g3, g4, g5, g6⟩ := se
      exact ⟨⟨c1, space c2, c3⟩, ⟨m1, space m2, m3⟩, ⟨i1, space i2, i3⟩, g1, bm, ob, space g2, g3, stays g4 (free g4 (by rw [g5]; decide)), g5, g6⟩
    have modl : Mod K mg (hidT s1.heap H) := ⟨kin, space gn, ⟨mb, space bn, bl⟩, let ⟨c1, c2, c3⟩ := li; ⟨c1, space c2, c3⟩⟩
    have env0 : Env0 P w K mg (hidT s1.heap H) callerA [] s1 H := ⟨rfl, modl, fun b o e => of_hidT e, Nat.le_of_eq (hidT_size _ _), trivial, fun b y => (nomatch (y : b ∈ ([] : List Addr))), hk, .of_eq ge⟩
    refine codeAny_mono ((F _ kin (space gn) seen).run callerA [] s1 H ⟨[.ref a], []⟩ [.ref a] [.ref a] _ _ hr env0 (bi s1 (.ref a)) (.cons rfl .nil) (want H only sq)) fun r s2 h => ?_
    cases r with
    | error er =>
      obtain ⟨_, _, _, _, _, _, _, _, _, _, _, _, z⟩ := h
      exact z.elim
    | ok fl =>
      cases fl <;> first | exact False.elim h | skip
      obtain ⟨v, H2, os, bare, un, hk2, r, e⟩ := h
      have e : v = .bl true := e
      subst e
      obtain rfl : _ = Value.bool true := r
      refine ⟨rfl, OldK.of_keep fun b o e => ?_, os, bare⟩
      rcases only b with z | ⟨ob, xs, z⟩
      · exact un.keep b o e z (fun y => (nomatch (y : b ∈ ([] : List Addr)))) (fun y => (nomatch (y : b ∈ ([] : List Addr))))
      · obtain ⟨e1, _⟩ := hk b _ z
        obtain ⟨e2, _⟩ := hk2 b _ (un.frzs b ob _ z)
        rw [e] at e1
        cases e1
        exact e2
  rcases hkl : K.lookup a with _ | o
  · refine goes (fun b => if b = a then some (.frz { cls := .type "list", data := .seq vs.toArray } (.lst (ns.map V.int))) else none) (fun b => ?_) (.inl (.inr ⟨{ cls := .type "list", data := .seq vs.toArray }, if_pos rfl⟩)) (fun b u z => ?_) (fun b z => ?_) fun _ => hkl
    · by_cases y : b = a
      · exact .inr ⟨_, _, if_pos y⟩
      · exact .inl (if_neg y)
    · by_cases y : b = a
      · cases (if_pos y).symm.trans z
        subst y
        exact ⟨there, by rw [List.length_map]; exact sz, vs, _, rels, there⟩
      · cases (if_neg y).symm.trans z
    · by_cases y : b = a
      · exact y
      · exact absurd (if_neg y) z
  · have e := kx a o hkl
    rw [there] at e
    cases e
    refine goes (fun _ => none) (fun _ => .inl rfl) (.inr ⟨_, vs.toArray, _, hkl, rfl, rfl, rfl, by rw [List.size_toArray, ia.length]; exact sz, by simpa using rels⟩) (fun b u z => nomatch (z : (none : Option HO) = some u)) (fun b z => absurd rfl z) fun z => absurd rfl z
theorem walk_see {l : PySem.W.OpenLaw} {n k : Nat} {q : Program} {loose : List Str} {XP : (Str → Option Value) → Heap → Prop} {YP : World → Heap → Prop} {d : DefRec} {K : Params → PySem.W.Frag} {sp : World → Sp} {x : Str} (hn : l.most = some n) (hn2 : n ≤ sizeLine) (hdf : d.params.defaults = [])
    (hr : Room k callerA) (hi : importsNone q = true) (hY : ∀ (w : World) (h : Heap), YP w h → (K w.params).In h)
    (F : ∀ (w : World) (mg : Str → Option Value) (fa : Addr) (h : Heap), (K w.params).In h → h.Ns mainGlobals mg → mg d.name = some (.ref fa) → ∃ fd : FuncData, (∀ (s : Shared) (u : Value), BindsTo s fd ⟨[u], []⟩ [(x, u)]) ∧
      ∀ base : Heap, (K w.params).In base → base.Ns mainGlobals mg → base.NoSeer → FnOk l.prog w (K w.params) mg base (L2.CX l.prog w) k fa fd [x] (sp w))
    (want : ∀ (w : World) (H : Hp) (a : Addr) (ns : List Int), ns.length ≤ n → Only H → SqL (K w.params) H a (ns.map V.int) → sp w [.ref a] H (fun v _ => v = .bl true) fun _ _ _ => False) :
    PySem.W.WalkO q loose XP YP l.row.toRowW d [] (fun f vs => PySem.call f vs) := by
  refine Att.attach_call hn hdf fun w s0 s1 mg mb fa o pm cd doc a vs ns G Y ho hd hcd hmg there ia sz ge => ?_
  obtain ⟨fd, hb, hF⟩ := F w mg fa _ (hY w _ Y) G.T.g hmg
  exact law_see (hY w _ Y) G.T.g G.T.b G.T.builtins G.T.nolimit (G.T.seer hi) ge there ia (Nat.le_trans sz hn2) hr hF hb fun H only sq => want w H a ns sz only sq
end AW
/-! AW21: tuple * int, whatever the int. -/
namespace AW
open PySem PySem.Spec PyProof.Rows L2
theorem tmul_same (l : Addr) (items : Array Value) (n : Nat) (dd : Option Addr) (sl : Array (Option Value)) (x : Int) (u : Tok) (c0 : (decide (x < -(2 ^ 63)) || decide (x ≥ 2 ^ 63)) = false) (c1 : (items.isEmpty || x == 1) = true) :
    Meets (Builtin.«tuple.__mul__» ⟨[.ref l, .int x u], []⟩) (fun _ R s => s.heap.get? l = some { cls := .type "tuple", dict := dd, data := .seq items n, slots := sl } ∧ R (.ok (.ret (.ref l))) s) :=
  .of_wp fun prog w A R s0 y => by
    obtain ⟨hp0, gs, dd0, tk, os⟩ := s0
    obtain ⟨here, y⟩ := y
    have f1 := AutoSeq1.idx_int
    wp_walk using wpAny_loadPart' here
    repeat (first
      | (refine wpAny_ite_false (decide_eq_false (by rw [c0]; exact Bool.false_ne_true)) ?_; wp_walk using wpAny_loadPart' here)
      | (refine wpAny_ite_true (decide_eq_true (by rw [c1])) ?_; wp_walk using wpAny_loadPart' here))
    exact ⟨_, rfl, y⟩
theorem tmul_none (l : Addr) (items : Array Value) (n : Nat) (dd : Option Addr) (sl : Array (Option Value)) (x : Int) (u : Tok) (c0 : (decide (x < -(2 ^ 63)) || decide (x ≥ 2 ^ 63)) = false) (c1 : (items.isEmpty || x == 1) = false) (c2 : (decide (x ≤ 0) || items.isEmpty) = true) :
    Meets (Builtin.«tuple.__mul__» ⟨[.ref l, .int x u], []⟩) (fun _ R s => s.heap.get? l = some { cls := .type "tuple", dict := dd, data := .seq items n, slots := sl } ∧
      R (.ok (.ret (Value.ref s.heap.objs.size))) { s with heap := s.heap.push { cls := Value.type "tuple", data := Data.seq #[] }, toks := s.toks }) :=
  .of_wp fun prog w A R s0 y => by
    obtain ⟨hp0, gs, dd0, tk, os⟩ := s0
    obtain ⟨here, y⟩ := y
    have f1 := AutoSeq1.idx_int
    wp_walk using wpAny_loadPart' here
    repeat (first
      | (refine wpAny_ite_false (decide_eq_false (by rw [c0]; exact Bool.false_ne_true)) ?_; wp_walk using wpAny_loadPart' here)
      | (refine wpAny_ite_false (decide_eq_false (by rw [c1]; exact Bool.false_ne_true)) ?_; wp_walk using wpAny_loadPart' here)
      | (refine wpAny_ite_true (decide_eq_true (by rw [c2])) ?_; wp_walk using wpAny_loadPart' here))
    exact ⟨_, rfl, y⟩
def rRepA (K : PySem.W.Frag) : R2 := fun x y H Q => ∃ l k xs, x = .ref l ∧ y = .int k ∧ SqT K H l xs ∧ (-(2 ^ 62) ≤ k ∧ k ≤ 1000 ∧ xs.length ≤ 1000) ∧ ((xs = [] ∨ k = 1) → Q (.ref l) H) ∧ (¬(xs = [] ∨ k = 1) → ∀ p, H p = none → Q (.ref p) (upd H p (.tup (List.replicate k.toNat xs).flatten)))
section
variable {X : Cx}
theorem op_repA : OpR X (binaryOp .Mult) (rRepA X.K) := by
  rintro pins s σ H x y v u Q I rx ry ⟨l, k, xs, rfl, rfl, hT, ⟨h0, h2, hz⟩, q1, q2⟩
  cases rx
  obtain ⟨t, rfl⟩ := ry
  obtain ⟨its, r, ⟨⟨c, dd, dat, sl⟩, ho, ec, n, ed⟩, _⟩ := I.tuple hT
  simp only at ec ed
  subst ec ed
  have hle : its.length = xs.length := by rw [r.length]
  have fit : (decide (k < -(2 ^ 63)) || decide (k ≥ 2 ^ 63)) = false := by
    rw [Bool.or_eq_false_iff]
    exact ⟨decide_eq_false (by omega), decide_eq_false (by omega)⟩
  by_cases c : xs = [] ∨ k = 1
  · have c1 : (its.toArray.isEmpty || k == 1) = true := by
      rcases c with c | c
      · have : its = [] := List.eq_nil_of_length_eq_zero (by rw [hle, c]; rfl)
        subst this
        rfl
      · subst c
        rw [Bool.or_eq_true]
        exact .inr rfl
    refine wpAny_binaryOp_repeat_ref (T := "tuple") (U := "int") (by decide) ⟨_, ho, rfl⟩ (fun s' => typeIs_int s' k t) noFill_tuple_mul F.fills_int_mul F.slot_int_rmul repeat_tuple F.slot_int_index.lookup
      (call_meets F.slot_int_rmul (typeIs_int s k t) F.entry_int_rmul (F.args_int_rmul_2 _ _) (int_rmul_tuple k t l its.toArray n dd sl)
        ⟨ho, rfl, ⟨_, ho, rfl⟩, call_meets F.slot_tuple_mul ⟨_, ho, rfl⟩ F.entry_tuple_mul (F.args_tuple_mul_2 _ _) (tmul_same l its.toArray n dd sl k t fit c1) ⟨ho, ?_⟩⟩)
    exact ⟨.ref l, H, I, rfl, q1 c⟩
  · have hne : xs ≠ [] := fun e => c (.inl e)
    have hk : k ≠ 1 := fun e => c (.inr e)
    by_cases k0 : k ≤ 0
    · have hi : its.toArray.isEmpty = false := by
        cases its with
        | nil => exact absurd (List.eq_nil_of_length_eq_zero hle.symm) hne
        | cons a b => rfl
      have c1 : (its.toArray.isEmpty || k == 1) = false := by
        rw [hi, Bool.false_or]
        exact beq_eq_false_iff_ne.mpr hk
      have c2 : (decide (k ≤ 0) || its.toArray.isEmpty) = true := by
        rw [decide_eq_true k0] <;> rfl
      refine wpAny_binaryOp_repeat_ref (T := "tuple") (U := "int") (by decide) ⟨_, ho, rfl⟩ (fun s' => typeIs_int s' k t) noFill_tuple_mul F.fills_int_mul F.slot_int_rmul repeat_tuple F.slot_int_index.lookup
        (call_meets F.slot_int_rmul (typeIs_int s k t) F.entry_int_rmul (F.args_int_rmul_2 _ _) (int_rmul_tuple k t l its.toArray n dd sl)
          ⟨ho, rfl, ⟨_, ho, rfl⟩, call_meets F.slot_tuple_mul ⟨_, ho, rfl⟩ F.entry_tuple_mul (F.args_tuple_mul_2 _ _) (tmul_none l its.toArray n dd sl k t fit c1 c2) ⟨ho, ?_⟩⟩)
      have e : (List.replicate k.toNat xs).flatten = [] := by rw [show k.toNat = 0 by omega]; rfl
      have q2' := q2 c
      rw [e] at q2'
      refine ⟨.ref s.heap.objs.size, _, I.laid (t' := s.toks) (o := .tup []) (fun b ob q => Heap.get?_push_of_some _ q) (Nat.le_refl _) ?_, rfl, q2' _ (I.hok.fresh (Nat.le_refl _))⟩
      exact ⟨by rw [sizeLine_eq]; decide, [], .nil, IsTup.new _ _⟩
    · exact op_repT pins s σ H (.ref l) (.int k) (.ref l) (.int k t) Q I rfl ⟨t, rfl⟩ ⟨l, k, xs, rfl, rfl, hT, hne, by omega, h2, hz, q2 c⟩
end
def fMulT : F2 := fun x y S Q _ => match x, y with
  | .tup xs, .int k => (-(2 ^ 62) ≤ k ∧ k ≤ 1000 ∧ xs.length ≤ 1000) ∧ Q (.tup (List.replicate k.toNat xs).flatten) S
  | _, _ => False
section
variable {X : Cx} {E : XK} {pos : Pos} {a b : Expr} {ta tb : TE} {wa wb : WE}
theorem abs_mulT {K : PySem.W.Frag} : AbsR2 K E (rRepA K) fMulT := by
  intro ι H S x y v u Q XX Qh r hx hy h l lx
  cases x <;> cases y <;> try exact h.elim
  rename_i xs k
  obtain ⟨p, as, rfl, hp, ra⟩ := rep_tup.mp hx
  rw [rep_int] at hy
  have la := RepL.length ra
  obtain ⟨⟨h1, h2, h3⟩, hq⟩ := h
  refine ⟨p, k, as, rfl, hy, hp, ⟨h1, h2, by omega⟩, fun c => ?_, fun c t ht => l.tup r (repL_rep ra _) hq ht⟩
  have e : (List.replicate k.toNat xs).flatten = xs := by
    rcases c with c | c
    · have : xs = [] := List.eq_nil_of_length_eq_zero (by rw [la, c]; rfl)
      subst this
      induction k.toNat with
      | zero => rfl
      | succ n ih => rw [List.replicate_succ, List.flatten_cons, ih]; rfl
    · subst c
      show [xs].flatten = xs
      rw [List.flatten_cons]
      exact List.append_nil xs
  rw [e] at hq
  exact l ι (.tup xs) S _ H Ext.refl r hx hq
theorem je_mulT {K : PySem.W.Frag} (ha : JE X E a ta wa) (hb : JE X E b tb wb) (hK : X.K = K := by rfl) : JE X E (.BinOp a .Mult b pos) (tOp (rRepA K) ta tb) (wOp fMulT wa wb) := by
  subst hK
  exact je_op op_repA abs_mulT ha hb
end
theorem ax_mult {xs : List D} {k : Int} {S : Sto} {Q : VKD} {X : XKD} : fMulT (.tup xs) (.int k) S Q X = ((-(2 ^ 62) ≤ k ∧ k ≤ 1000 ∧ xs.length ≤ 1000) ∧ Q (.tup (List.replicate k.toNat xs).flatten) S) := id rfl
theorem rep_one {α : Type} (n : Nat) (a : α) : (List.replicate n [a]).flatten = List.replicate n a := by
  induction n with
  | zero => rfl
  | succ n ih => rw [List.replicate_succ, List.flatten_cons, ih]; rfl
end AW
/-! AW22: list + list as a cell, list(range(..)). -/
namespace AW
open PySem PySem.Spec PyProof.Rows L2
def fAddR : F2 := fun x y S Q _ => match x, y with
  | .fl xs, .fl ys => xs.length + ys.length ≤ sizeLine ∧ Q (.ref S.length) (S ++ [.lst (xs ++ ys)])
  | _, _ => False
section
variable {X : Cx} {E : XK} {pos : Pos} {a b : Expr} {ta tb : TE} {wa wb : WE}
theorem abs_addR {K : PySem.W.Frag} : AbsR2 K E (rAddAll K) fAddR := by
  intro ι H S x y v u Q XX Qh r hx hy h l lx
  cases x <;> cases y <;> try exact h.elim
  rename_i xs ys
  obtain ⟨p, as, rfl, np, hp, ra⟩ := rep_fl.mp hx
  obtain ⟨q, bs, rfl, nq, hq, rb⟩ := rep_fl.mp hy
  have la := RepL.length ra
  have lb := RepL.length rb
  exact .inr (.inr (.inr ⟨p, q, as, bs, rfl, rfl, hp, hq, by rw [← la, ← lb]; exact h.1, fun t ht => l.cell r (RepL.append ra rb) h.2 ht⟩))
theorem je_addR {K : PySem.W.Frag} (ha : JE X E a ta wa) (hb : JE X E b tb wb) (hK : X.K = K := by rfl) : JE X E (.BinOp a .Add b pos) (tOp (rAddAll K) ta tb) (wOp fAddR wa wb) := by
  subst hK
  exact je_op op_addAll abs_addR ha hb
end
theorem ax_addr {xs ys : List D} {S : Sto} {Q : VKD} {X : XKD} : fAddR (.fl xs) (.fl ys) S Q X = (xs.length + ys.length ≤ sizeLine ∧ Q (.ref S.length) (S ++ [.lst (xs ++ ys)])) := id rfl
theorem rep_rgV {K ι H} (lo hi : Int) : RepL K ι H (rangeD lo (hi - lo).toNat) (L2.rgV lo hi) := by
  unfold rangeD L2.rgV
  generalize List.range (hi - lo).toNat = l
  induction l with
  | nil => exact RepL.nil
  | cons a l ih => exact RepL.cons (rep_int.mpr rfl) ih
def rgQ (a b : D) (S : Sto) (Q : List D → Sto → Prop) : Prop := match a, b with
  | .int i, .int j => (-(2 ^ 62) ≤ i ∧ i < 2 ^ 62 ∧ -(2 ^ 62) ≤ j ∧ j < 2 ^ 62 ∧ (j - i).toNat ≤ 2 ^ 24) ∧ Q (rangeD i (j - i).toNat) S
  | _, _ => False
def wListRg1 (wa : WE) : WE := fun σ S Q X => wa σ S (fun d S1 => rgQ (.int 0) d S1 fun l S2 => Q (.fl l) S2) X
def wListRg1R (wa : WE) : WE := fun σ S Q X => wa σ S (fun d S1 => rgQ (.int 0) d S1 fun l S2 => Q (.ref S2.length) (S2 ++ [.lst l])) X
def wListRg2 (wa wb : WE) : WE := fun σ S Q X => wa σ S (fun d S1 => wb σ S1 (fun d' S2 => rgQ d d' S2 fun l S3 => Q (.fl l) S3) X) X
section
variable {X : Cx} {E : XK} {p1 p2 pos pos2 : Pos} {a b : Expr} {ta tb : TE} {wa wb : WE}
theorem je_listRg1 (ml : X.mg "list" = none) (mr : X.mg "range" = none) (ha : JE X E a ta wa) (hc : X.calm = true := by rfl) (gl : Gl X "list" := by rfl) (gr : Gl X "range" := by rfl) (na : starEach [a] X.env = (false, eval a X.env) :: starEach [] X.env := by rfl)
    (nr : starEach [.Call (.Name "range" p1) [a] [] pos2] X.env = (false, eval (.Call (.Name "range" p1) [a] [] pos2) X.env) :: starEach [] X.env := by rfl) : JE X E (.Call (.Name "list" p2) [.Call (.Name "range" p1) [a] [] pos2] [] pos) (L2.tLstRg (L2.tRg1 ta)) (wListRg1 wa) := by
  refine ⟨L2.pe_listRg hc gl ml (L2.prg_1 gr mr ha.pe na) nr, ?_⟩
  intro ι σ H σD S Q XX Qh r s h l lx
  refine ha.ab ι σ H σD S _ XX _ r s h ?_ lx
  intro ι1 d1 S1 v1 H1 e1 r1 p1 h1
  cases d1 <;> try exact h1.elim
  rename_i j
  rw [rep_int] at p1
  exact ⟨j, p1, h1.1, fun q hq => (l.ext e1).fl r1 (rep_rgV 0 j) h1.2 hq⟩
theorem je_listRg1R (ml : X.mg "list" = none) (mr : X.mg "range" = none) (ha : JE X E a ta wa) (hc : X.calm = true := by rfl) (gl : Gl X "list" := by rfl) (gr : Gl X "range" := by rfl) (na : starEach [a] X.env = (false, eval a X.env) :: starEach [] X.env := by rfl)
    (nr : starEach [.Call (.Name "range" p1) [a] [] pos2] X.env = (false, eval (.Call (.Name "range" p1) [a] [] pos2) X.env) :: starEach [] X.env := by rfl) : JE X E (.Call (.Name "list" p2) [.Call (.Name "range" p1) [a] [] pos2] [] pos) (L2.tLstRg (L2.tRg1 ta)) (wListRg1R wa) := by
  refine ⟨L2.pe_listRg hc gl ml (L2.prg_1 gr mr ha.pe na) nr, ?_⟩
  intro ι σ H σD S Q XX Qh r s h l lx
  refine ha.ab ι σ H σD S _ XX _ r s h ?_ lx
  intro ι1 d1 S1 v1 H1 e1 r1 p1 h1
  cases d1 <;> try exact h1.elim
  rename_i j
  rw [rep_int] at p1
  exact ⟨j, p1, h1.1, fun q hq => (l.ext e1).cell r1 (rep_rgV 0 j) h1.2 hq⟩
theorem je_listRg2 (ml : X.mg "list" = none) (mr : X.mg "range" = none) (ha : JE X E a ta wa) (hb : JE X E b tb wb) (hc : X.calm = true := by rfl) (gl : Gl X "list" := by rfl) (gr : Gl X "range" := by rfl) (na : starEach [a, b] X.env = (false, eval a X.env) :: starEach [b] X.env := by rfl) (nb : starEach [b] X.env = (false, eval b X.env) :: starEach [] X.env := by rfl)
    (hpl : (backTo pos2 (starEach [b] X.env)).any (·.1) = false := by rfl) (nr : starEach [.Call (.Name "range" p1) [a, b] [] pos2] X.env = (false, eval (.Call (.Name "range" p1) [a, b] [] pos2) X.env) :: starEach [] X.env := by rfl) : JE X E (.Call (.Name "list" p2) [.Call (.Name "range" p1) [a, b] [] pos2] [] pos) (L2.tLstRg (L2.tRg2 ta tb)) (wListRg2 wa wb) := by
  refine ⟨L2.pe_listRg hc gl ml (L2.prg_2 gr mr ha.pe hb.pe na nb hpl) nr, ?_⟩
  intro ι σ H σD S Q XX Qh r s h l lx
  refine ha.ab ι σ H σD S _ XX _ r s h ?_ lx
  intro ι1 d1 S1 v1 H1 e1 r1 p1 h1
  refine hb.ab ι1 σ H1 σD S1 _ XX _ r1 (s.mono e1) h1 ?_ (lx.ext e1)
  intro ι2 d2 S2 v2 H2 e2 r2 p2 h2
  cases d1 <;> cases d2 <;> try exact h2.elim
  rename_i i j
  rw [rep_int] at p1 p2
  exact ⟨i, j, p1, p2, h2.1, fun q hq => (l.ext (e1.trans e2)).fl r2 (rep_rgV i j) h2.2 hq⟩
end
theorem ax_xlr1 {a : WE} {σ : ASt} {S : Sto} {Q : VKD} {X : XKD} : wListRg1 a σ S Q X = (a σ S (fun d S1 => rgQ (.int 0) d S1 (Lz (fun l S2 => Q (.fl l) S2) .mk)) X) := id rfl
theorem ax_xlr1r {a : WE} {σ : ASt} {S : Sto} {Q : VKD} {X : XKD} : wListRg1R a σ S Q X = (a σ S (fun d S1 => rgQ (.int 0) d S1 (Lz (fun l S2 => Q (.ref S2.length) (S2 ++ [.lst l])) .mk)) X) := id rfl
theorem ax_xlr2 {a b : WE} {σ : ASt} {S : Sto} {Q : VKD} {X : XKD} : wListRg2 a b σ S Q X = (a σ S (fun d S1 => b σ S1 (fun d' S2 => rgQ d d' S2 (Lz (fun l S3 => Q (.fl l) S3) .mk)) X) X) := id rfl
theorem ax_rgq {i j : Int} {S : Sto} {Q : List D → Sto → Prop} : rgQ (.int i) (.int j) S Q = ((-(2 ^ 62) ≤ i ∧ i < 2 ^ 62 ∧ -(2 ^ 62) ≤ j ∧ j < 2 ^ 62 ∧ (j - i).toNat ≤ 2 ^ 24) ∧ Q (rangeD i (j - i).toNat) S) := id rfl
end AW
namespace My
open PySem PySem.Spec PyProof.Rows L2 AW
abbrev xns : List XN := [.face, .shape]
abbrev pwx : Program := PySem.Challenge.pw_facetlore_k50_bounds_and_primes
def topS (i : Nat) : Stmt := PySem.Challenge.pw_facetlore_k50_bounds_and_primes.main.body.getD i (.Pass ⟨0, 0, 0, 0⟩)
/-! ### is_prime -/
abbrev s_is_prime : Stmt := topS 4
theorem sc_is_prime : FnScope ["n", "k"] ["n"] (defScope s_is_prime) := ⟨rfl, rfl, rfl, by decide +kernel, rfl, by decide +kernel, by decide +kernel⟩
def w_is_prime : WS :=
  wSeq (wIfS (wTest (wOp fLt (wVar 0) (wC (.int 4))))
    (wRet (wOp fGt (wVar 0) (wC (.int 1))))
    (wNext))
    (wSeq (wIfS (wTest (wOp fEq (wOp fMod (wVar 0) (wC (.int 2))) (wC (.int 0))))
    (wRet (wC (.bl false)))
    (wNext))
    (wSeq (wSet 1 (wC (.int 3)))
    (wSeq (wWhile (wTest (wOp fLe (wOp fMul (wVar 1) (wVar 1)) (wVar 0)))
    (wSeq (wIfS (wTest (wOp fEq (wOp fMod (wVar 0) (wVar 1)) (wC (.int 0))))
    (wRet (wC (.bl false)))
    (wNext))
    (wAug 1 fIAdd (wC (.int 2)))))
    (wRet (wC (.bl true))))))
theorem j_is_prime {P : Program} {w : World} {K : PySem.W.Frag} {mg : Str → Option Value} {base : Heap} {k : Nat} {f : Addr} {cdv : Value} {A : Around} {outer : List Env} {s : Shared} {H : Hp} {E : XK} (hr : Room k (A.deeper (envOfC "is_prime" (defScope s_is_prime) s.heap.objs.size f cdv))) :
    ∃ t, JSs (cxOf (L2.CX P w) P w K mg base ["n", "k"] "is_prime" (defScope s_is_prime) f cdv A outer s H E) E (defBody s_is_prime) t (w_is_prime) := by
  have hx : Passes (L2.CX P w) (cxOf (L2.CX P w) P w K mg base ["n", "k"] "is_prime" (defScope s_is_prime) f cdv A outer s H E) E := px_of (x := "is_prime")
  have hp := po_of (P := P) (w := w) (K := K) (mg := mg) (base := base) (x := "is_prime") (qual := "is_prime") (sc := defScope s_is_prime) (f := f) (cdv := cdv) (A := A) (outer := outer) (s := s) (H := H) (E := E) (N := ["n", "k"])
  have hu := Room.units hr
  have nd := sc_is_prime.nd
  exact ⟨_, jss_cons (js_if (jt_lt (je_var 0) (je_int))
    (jss_one (js_ret (je_gt (je_var 0) (je_int))))
    (jss_nil))
    (jss_cons (js_if (jt_eq (K := K) hu (je_mod (je_var 0) (je_int)) (je_int))
    (jss_one (js_ret (je_bl)))
    (jss_nil))
    (jss_cons (js_set (i := 1) nd rfl (Or.inl rfl) (je_int))
    (jss_cons (js_while hp (jt_le (je_mul (je_var 1) (je_var 1)) (je_var 0))
    (jss_cons (js_if (jt_eq (K := K) hu (je_mod (je_var 0) (je_var 1)) (je_int))
    (jss_one (js_ret (je_bl)))
    (jss_nil))
    (jss_one (js_aug (i := 1) nd rfl (Or.inl rfl) (je_int) ip_addAll abs_iadd))))
    (jss_one (js_ret (je_bl))))))⟩
/-! ### next_prime -/
abbrev s_next_prime : Stmt := topS 5
theorem sc_next_prime : FnScope ["n"] ["n"] (defScope s_next_prime) := ⟨rfl, rfl, rfl, by decide +kernel, rfl, by decide +kernel, by decide +kernel⟩
def w_next_prime (a_is_prime : ASp) : WS :=
  wSeq (wAug 0 fIAdd (wC (.int 1)))
    (wSeq (wWhile (wNotA (wTruA (wCB a_is_prime (wCons (wVar 0) (wNil)))))
    (wAug 0 fIAdd (wC (.int 1))))
    (wRet (wVar 0)))
theorem j_next_prime {P : Program} {w : World} {K : PySem.W.Frag} {mg : Str → Option Value} {base : Heap} {k : Nat} {f : Addr} {cdv : Value} {A : Around} {outer : List Env} {s : Shared} {H : Hp} {E : XK} (hr : Room k (A.deeper (envOfC "next_prime" (defScope s_next_prime) s.heap.objs.size f cdv))) {a_is_prime : ASp} (c_is_prime : Cal P w K mg base k "is_prime" a_is_prime) :
    ∃ t, JSs (cxOf (L2.CX P w) P w K mg base ["n"] "next_prime" (defScope s_next_prime) f cdv A outer s H E) E (defBody s_next_prime) t (w_next_prime a_is_prime) := by
  have hx : Passes (L2.CX P w) (cxOf (L2.CX P w) P w K mg base ["n"] "next_prime" (defScope s_next_prime) f cdv A outer s H E) E := px_of (x := "next_prime")
  have hp := po_of (P := P) (w := w) (K := K) (mg := mg) (base := base) (x := "next_prime") (qual := "next_prime") (sc := defScope s_next_prime) (f := f) (cdv := cdv) (A := A) (outer := outer) (s := s) (H := H) (E := E) (N := ["n"])
  have hu := Room.units hr
  have nd := sc_next_prime.nd
  exact ⟨_, jss_cons (js_aug (i := 0) nd rfl (Or.inl rfl) (je_int) ip_addAll abs_iadd)
    (jss_cons (js_while hp (jt_not (jt_tru (K := K) (je_call (K := K) c_is_prime hr hx (ja_cons (je_var 0) (ja_nil)))))
    (jss_one (js_aug (i := 0) nd rfl (Or.inl rfl) (je_int) ip_addAll abs_iadd)))
    (jss_one (js_ret (je_var 0))))⟩
/-! ### root -/
abbrev s_root : Stmt := topS 6
theorem sc_root : FnScope ["n", "guess"] ["n"] (defScope s_root) := ⟨rfl, rfl, rfl, by decide +kernel, rfl, by decide +kernel, by decide +kernel⟩
def w_root : WS :=
  wSeq (wIfS (wTest (wOp fLt (wVar 0) (wC (.int 2))))
    (wRet (wVar 0))
    (wNext))
    (wSeq (wSet 1 (wOp fShl (wC (.int 1)) (wOp fDiv (wOp fAdd (wBits (wVar 0)) (wC (.int 1))) (wC (.int 2)))))
    (wSeq (wWhile (wTest (wOp fGt (wOp fMul (wVar 1) (wVar 1)) (wVar 0)))
    (wSet 1 (wOp fDiv (wOp fAdd (wVar 1) (wOp fDiv (wVar 0) (wVar 1))) (wC (.int 2)))))
    (wRet (wVar 1))))
theorem j_root {P : Program} {w : World} {K : PySem.W.Frag} {mg : Str → Option Value} {base : Heap} {k : Nat} {f : Addr} {cdv : Value} {A : Around} {outer : List Env} {s : Shared} {H : Hp} {E : XK} (hr : Room k (A.deeper (envOfC "root" (defScope s_root) s.heap.objs.size f cdv))) :
    ∃ t, JSs (cxOf (L2.CX P w) P w K mg base ["n", "guess"] "root" (defScope s_root) f cdv A outer s H E) E (defBody s_root) t (w_root) := by
  have hx : Passes (L2.CX P w) (cxOf (L2.CX P w) P w K mg base ["n", "guess"] "root" (defScope s_root) f cdv A outer s H E) E := px_of (x := "root")
  have hp := po_of (P := P) (w := w) (K := K) (mg := mg) (base := base) (x := "root") (qual := "root") (sc := defScope s_root) (f := f) (cdv := cdv) (A := A) (outer := outer) (s := s) (H := H) (E := E) (N := ["n", "guess"])
  have hu := Room.units hr
  have nd := sc_root.nd
  exact ⟨_, jss_cons (js_if (jt_lt (je_var 0) (je_int))
    (jss_one (js_ret (je_var 0)))
    (jss_nil))
    (jss_cons (js_set (i := 1) nd rfl (Or.inl rfl) (je_shl (je_int) (je_div (je_add (K := K) (je_bits (je_var 0)) (je_int)) (je_int))))
    (jss_cons (js_while hp (jt_gt (je_mul (je_var 1) (je_var 1)) (je_var 0))
    (jss_one (js_set (i := 1) nd rfl (Or.inl rfl) (je_div (je_add (K := K) (je_var 1) (je_div (je_var 0) (je_var 1))) (je_int)))))
    (jss_one (js_ret (je_var 1)))))⟩
/-! ### need_shape -/
abbrev s_need_shape : Stmt := topS 8
theorem sc_need_shape : FnScope ["holds"] ["holds"] (defScope s_need_shape) := ⟨rfl, rfl, rfl, by decide +kernel, rfl, by decide +kernel, by decide +kernel⟩
def w_need_shape (e : XN → Value) : WS :=
  wIfS (wNotA (wTruA (wVar 0)))
    (wRaise (e .shape))
    (wNext)
theorem j_need_shape {P : Program} {w : World} {K : PySem.W.Frag} {mg : Str → Option Value} {base : Heap} {k : Nat} {f : Addr} {cdv : Value} {A : Around} {outer : List Env} {s : Shared} {H : Hp} {E : XK} (hr : Room k (A.deeper (envOfC "need_shape" (defScope s_need_shape) s.heap.objs.size f cdv))) {e : XN → Value} (xo : XOk K mg xns e) :
    ∃ t, JSs (cxOf (L2.CX P w) P w K mg base ["holds"] "need_shape" (defScope s_need_shape) f cdv A outer s H E) E (defBody s_need_shape) t (w_need_shape e) := by
  have hx : Passes (L2.CX P w) (cxOf (L2.CX P w) P w K mg base ["holds"] "need_shape" (defScope s_need_shape) f cdv A outer s H E) E := px_of (x := "need_shape")
  have hp := po_of (P := P) (w := w) (K := K) (mg := mg) (base := base) (x := "need_shape") (qual := "need_shape") (sc := defScope s_need_shape) (f := f) (cdv := cdv) (A := A) (outer := outer) (s := s) (H := H) (E := E) (N := ["holds"])
  have hu := Room.units hr
  have nd := sc_need_shape.nd
  exact ⟨_, jss_one (js_if (jt_not (jt_tru (K := K) (je_var 0)))
    (jss_one (js_raise (xo.cls .shape (by decide)) (takes_of rfl rfl rfl rfl)))
    (jss_nil))⟩
/-! ### need_square -/
abbrev s_need_square : Stmt := topS 9
theorem sc_need_square : FnScope ["a"] ["a"] (defScope s_need_square) := ⟨rfl, rfl, rfl, by decide +kernel, rfl, by decide +kernel, by decide +kernel⟩
def w_need_square (a_need_shape : ASp) : WS :=
  wDrop (wCB a_need_shape (wCons (wOp fEq (wOp fIx (wVar 0) (wC (.int 0))) (wOp fIx (wVar 0) (wC (.int 1)))) (wNil)))
theorem j_need_square {P : Program} {w : World} {K : PySem.W.Frag} {mg : Str → Option Value} {base : Heap} {k : Nat} {f : Addr} {cdv : Value} {A : Around} {outer : List Env} {s : Shared} {H : Hp} {E : XK} (hr : Room k (A.deeper (envOfC "need_square" (defScope s_need_square) s.heap.objs.size f cdv))) {a_need_shape : ASp} (c_need_shape : Cal P w K mg base k "need_shape" a_need_shape) :
    ∃ t, JSs (cxOf (L2.CX P w) P w K mg base ["a"] "need_square" (defScope s_need_square) f cdv A outer s H E) E (defBody s_need_square) t (w_need_square a_need_shape) := by
  have hx : Passes (L2.CX P w) (cxOf (L2.CX P w) P w K mg base ["a"] "need_square" (defScope s_need_square) f cdv A outer s H E) E := px_of (x := "need_square")
  have hp := po_of (P := P) (w := w) (K := K) (mg := mg) (base := base) (x := "need_square") (qual := "need_square") (sc := defScope s_need_square) (f := f) (cdv := cdv) (A := A) (outer := outer) (s := s) (H := H) (E := E) (N := ["a"])
  have hu := Room.units hr
  have nd := sc_need_square.nd
  exact ⟨_, jss_one (js_expr (je_call (K := K) c_need_shape hr hx (ja_cons (je_eq (K := K) hu (je_ix (K := K) (je_var 0) (je_int)) (je_ix (K := K) (je_var 0) (je_int))) (ja_nil))))⟩
/-! ### row_square -/
abbrev s_row_square : Stmt := topS 12
theorem sc_row_square : FnScope ["row", "x"] ["row"] (defScope s_row_square) := ⟨rfl, rfl, rfl, by decide +kernel, rfl, by decide +kernel, by decide +kernel⟩
def w_row_square : WS :=
  wRet (wCB gSum (wCons (wLcA (wiItems (wVar 0)) (wgName 1) (wYes) (wOp fMul (wVar 1) (wVar 1)) [1] finF) (wNil)))
theorem j_row_square {P : Program} {w : World} {K : PySem.W.Frag} {mg : Str → Option Value} {base : Heap} {k : Nat} {f : Addr} {cdv : Value} {A : Around} {outer : List Env} {s : Shared} {H : Hp} {E : XK} (hr : Room k (A.deeper (envOfC "row_square" (defScope s_row_square) s.heap.objs.size f cdv))) (m_sum : mg "sum" = none) :
    ∃ t, JSs (cxOf (L2.CX P w) P w K mg base ["row", "x"] "row_square" (defScope s_row_square) f cdv A outer s H E) E (defBody s_row_square) t (w_row_square) := by
  have hx : Passes (L2.CX P w) (cxOf (L2.CX P w) P w K mg base ["row", "x"] "row_square" (defScope s_row_square) f cdv A outer s H E) E := px_of (x := "row_square")
  have hp := po_of (P := P) (w := w) (K := K) (mg := mg) (base := base) (x := "row_square") (qual := "row_square") (sc := defScope s_row_square) (f := f) (cdv := cdv) (A := A) (outer := outer) (s := s) (H := H) (E := E) (N := ["row", "x"])
  have hu := Room.units hr
  have nd := sc_row_square.nd
  exact ⟨_, jss_one (js_ret (je_sum (K := K) rfl m_sum (ja_cons (je_lcA (own := [("x", 1)]) fin_fl rfl nd (ji_items (K := K) (je_var 0)) (blkOk_by (N := ["row", "x"]) (sc := defScope s_row_square) (own := [("x", 1)]) (by decide +kernel)) (fun _ _ _ _ _ => jg_name 1 nd rfl (by first | exact Or.inl rfl | exact Or.inr rfl)) (fun _ _ _ _ _ => jts_nil) (fun _ _ _ _ _ => je_mul (je_var 1) (je_var 1)) s) (ja_nil))))⟩
/-! ### determinant_bound -/
abbrev s_determinant_bound : Stmt := topS 13
theorem sc_determinant_bound : FnScope ["a", "bound", "row"] ["a"] (defScope s_determinant_bound) := ⟨rfl, rfl, rfl, by decide +kernel, rfl, by decide +kernel, by decide +kernel⟩
def w_determinant_bound (a_need_square : ASp) (a_root : ASp) (a_row_square : ASp) : WS :=
  wSeq (wDrop (wCB a_need_square (wCons (wVar 0) (wNil))))
    (wSeq (wSet 1 (wC (.int 1)))
    (wSeq (wFor (wiItems (wOp fIx (wVar 0) (wC (.int 2)))) (wgName 2)
    (wSet 1 (wOp fMul (wVar 1) (wOp fAdd (wCB a_root (wCons (wCB a_row_square (wCons (wVar 2) (wNil))) (wNil))) (wC (.int 1))))))
    (wRet (wVar 1))))
theorem j_determinant_bound {P : Program} {w : World} {K : PySem.W.Frag} {mg : Str → Option Value} {base : Heap} {k : Nat} {f : Addr} {cdv : Value} {A : Around} {outer : List Env} {s : Shared} {H : Hp} {E : XK} (hr : Room k (A.deeper (envOfC "determinant_bound" (defScope s_determinant_bound) s.heap.objs.size f cdv))) {a_need_square : ASp} (c_need_square : Cal P w K mg base k "need_square" a_need_square) {a_root : ASp} (c_root : Cal P w K mg base k "root" a_root) {a_row_square : ASp} (c_row_square : Cal P w K mg base k "row_square" a_row_square) :
    ∃ t, JSs (cxOf (L2.CX P w) P w K mg base ["a", "bound", "row"] "determinant_bound" (defScope s_determinant_bound) f cdv A outer s H E) E (defBody s_determinant_bound) t (w_determinant_bound a_need_square a_root a_row_square) := by
  have hx : Passes (L2.CX P w) (cxOf (L2.CX P w) P w K mg base ["a", "bound", "row"] "determinant_bound" (defScope s_determinant_bound) f cdv A outer s H E) E := px_of (x := "determinant_bound")
  have hp := po_of (P := P) (w := w) (K := K) (mg := mg) (base := base) (x := "determinant_bound") (qual := "determinant_bound") (sc := defScope s_determinant_bound) (f := f) (cdv := cdv) (A := A) (outer := outer) (s := s) (H := H) (E := E) (N := ["a", "bound", "row"])
  have hu := Room.units hr
  have nd := sc_determinant_bound.nd
  exact ⟨_, jss_cons (js_expr (je_call (K := K) c_need_square hr hx (ja_cons (je_var 0) (ja_nil))))
    (jss_cons (js_set (i := 1) nd rfl (Or.inl rfl) (je_int))
    (jss_cons (js_for (vs := [2]) hp rfl (ji_items (K := K) (je_ix (K := K) (je_var 0) (je_int))) (jg_name 2 nd rfl (by first | exact Or.inl rfl | exact Or.inr rfl))
    (jss_one (js_set (i := 1) nd rfl (Or.inl rfl) (je_mul (je_var 1) (je_add (K := K) (je_call (K := K) c_root hr hx (ja_cons (je_call (K := K) c_row_square hr hx (ja_cons (je_var 2) (ja_nil))) (ja_nil))) (je_int))))))
    (jss_one (js_ret (je_var 1)))))⟩
/-! ### coefficient_bound -/
abbrev s_coefficient_bound : Stmt := topS 14
theorem sc_coefficient_bound : FnScope ["a", "bound", "row"] ["a"] (defScope s_coefficient_bound) := ⟨rfl, rfl, rfl, by decide +kernel, rfl, by decide +kernel, by decide +kernel⟩
def w_coefficient_bound (a_need_square : ASp) (a_root : ASp) (a_row_square : ASp) : WS :=
  wSeq (wDrop (wCB a_need_square (wCons (wVar 0) (wNil))))
    (wSeq (wSet 1 (wC (.int 1)))
    (wSeq (wFor (wiItems (wOp fIx (wVar 0) (wC (.int 2)))) (wgName 2)
    (wSet 1 (wOp fMul (wVar 1) (wOp fAdd (wCB a_root (wCons (wCB a_row_square (wCons (wVar 2) (wNil))) (wNil))) (wC (.int 2))))))
    (wRet (wVar 1))))
theorem j_coefficient_bound {P : Program} {w : World} {K : PySem.W.Frag} {mg : Str → Option Value} {base : Heap} {k : Nat} {f : Addr} {cdv : Value} {A : Around} {outer : List Env} {s : Shared} {H : Hp} {E : XK} (hr : Room k (A.deeper (envOfC "coefficient_bound" (defScope s_coefficient_bound) s.heap.objs.size f cdv))) {a_need_square : ASp} (c_need_square : Cal P w K mg base k "need_square" a_need_square) {a_root : ASp} (c_root : Cal P w K mg base k "root" a_root) {a_row_square : ASp} (c_row_square : Cal P w K mg base k "row_square" a_row_square) :
    ∃ t, JSs (cxOf (L2.CX P w) P w K mg base ["a", "bound", "row"] "coefficient_bound" (defScope s_coefficient_bound) f cdv A outer s H E) E (defBody s_coefficient_bound) t (w_coefficient_bound a_need_square a_root a_row_square) := by
  have hx : Passes (L2.CX P w) (cxOf (L2.CX P w) P w K mg base ["a", "bound", "row"] "coefficient_bound" (defScope s_coefficient_bound) f cdv A outer s H E) E := px_of (x := "coefficient_bound")
  have hp := po_of (P := P) (w := w) (K := K) (mg := mg) (base := base) (x := "coefficient_bound") (qual := "coefficient_bound") (sc := defScope s_coefficient_bound) (f := f) (cdv := cdv) (A := A) (outer := outer) (s := s) (H := H) (E := E) (N := ["a", "bound", "row"])
  have hu := Room.units hr
  have nd := sc_coefficient_bound.nd
  exact ⟨_, jss_cons (js_expr (je_call (K := K) c_need_square hr hx (ja_cons (je_var 0) (ja_nil))))
    (jss_cons (js_set (i := 1) nd rfl (Or.inl rfl) (je_int))
    (jss_cons (js_for (vs := [2]) hp rfl (ji_items (K := K) (je_ix (K := K) (je_var 0) (je_int))) (jg_name 2 nd rfl (by first | exact Or.inl rfl | exact Or.inr rfl))
    (jss_one (js_set (i := 1) nd rfl (Or.inl rfl) (je_mul (je_var 1) (je_add (K := K) (je_call (K := K) c_root hr hx (ja_cons (je_call (K := K) c_row_square hr hx (ja_cons (je_var 2) (ja_nil))) (ja_nil))) (je_int))))))
    (jss_one (js_ret (je_var 1)))))⟩
/-! ### primes_for -/
abbrev s_primes_for : Stmt := topS 15
theorem sc_primes_for : FnScope ["m", "found", "product", "p"] ["m"] (defScope s_primes_for) := ⟨rfl, rfl, rfl, by decide +kernel, rfl, by decide +kernel, by decide +kernel⟩
def w_primes_for (a_next_prime : ASp) : WS :=
  wSeq (wSet 1 (wLstR (wNil)))
    (wSeq (wSet 2 (wC (.int 1)))
    (wSeq (wSet 3 (wC (.int 32768)))
    (wSeq (wWhile (wTest (wOp fLe (wVar 2) (wVar 0)))
    (wSeq (wSet 3 (wCB a_next_prime (wCons (wVar 3) (wNil))))
    (wSeq (wDrop (wApp (wVar 1) (wCons (wVar 3) (wNil))))
    (wSet 2 (wOp fMul (wVar 2) (wVar 3))))))
    (wRet (wVar 1)))))
theorem j_primes_for {P : Program} {w : World} {K : PySem.W.Frag} {mg : Str → Option Value} {base : Heap} {k : Nat} {f : Addr} {cdv : Value} {A : Around} {outer : List Env} {s : Shared} {H : Hp} {E : XK} (hr : Room k (A.deeper (envOfC "primes_for" (defScope s_primes_for) s.heap.objs.size f cdv))) {u_FIRST : Tok} (m_FIRST : mg "FIRST" = some (.int 32768 u_FIRST)) {a_next_prime : ASp} (c_next_prime : Cal P w K mg base k "next_prime" a_next_prime) :
    ∃ t, JSs (cxOf (L2.CX P w) P w K mg base ["m", "found", "product", "p"] "primes_for" (defScope s_primes_for) f cdv A outer s H E) E (defBody s_primes_for) t (w_primes_for a_next_prime) := by
  have hx : Passes (L2.CX P w) (cxOf (L2.CX P w) P w K mg base ["m", "found", "product", "p"] "primes_for" (defScope s_primes_for) f cdv A outer s H E) E := px_of (x := "primes_for")
  have hp := po_of (P := P) (w := w) (K := K) (mg := mg) (base := base) (x := "primes_for") (qual := "primes_for") (sc := defScope s_primes_for) (f := f) (cdv := cdv) (A := A) (outer := outer) (s := s) (H := H) (E := E) (N := ["m", "found", "product", "p"])
  have hu := Room.units hr
  have nd := sc_primes_for.nd
  exact ⟨_, jss_cons (js_set (i := 1) nd rfl (Or.inl rfl) (je_lstR (ja_nil)))
    (jss_cons (js_set (i := 2) nd rfl (Or.inl rfl) (je_int))
    (jss_cons (js_set (i := 3) nd rfl (Or.inl rfl) (je_globI m_FIRST))
    (jss_cons (js_while hp (jt_le (je_var 2) (je_var 0))
    (jss_cons (js_set (i := 3) nd rfl (Or.inl rfl) (je_call (K := K) c_next_prime hr hx (ja_cons (je_var 3) (ja_nil))))
    (jss_cons (js_expr (je_append (K := K) (je_var 1) (ja_cons (je_var 3) (ja_nil))))
    (jss_one (js_set (i := 2) nd rfl (Or.inl rfl) (je_mul (je_var 2) (je_var 3)))))))
    (jss_one (js_ret (je_var 1))))))⟩
/-! ### _law_start -/
abbrev s__law_start : Stmt := topS 17
theorem sc__law_start : FnScope ["script", "cell"] ["script"] (defScope s__law_start) := ⟨rfl, rfl, rfl, by decide +kernel, rfl, by decide +kernel, by decide +kernel⟩
def w__law_start : WS :=
  wRet (wLstR (wCons (wLcA (wiItems (wSl (wVar 0) (wNoPart) (wPart (wC (.int 63))))) (wgName 1) (wYes) (wCB gInt (wCons (wVar 1) (wNil))) [1] finF) (wCons (wC (.int 0)) (wCons (wC (.int 0)) (wCons (wC (.int 0)) (wNil))))))
theorem j__law_start {P : Program} {w : World} {K : PySem.W.Frag} {mg : Str → Option Value} {base : Heap} {k : Nat} {f : Addr} {cdv : Value} {A : Around} {outer : List Env} {s : Shared} {H : Hp} {E : XK} (hr : Room k (A.deeper (envOfC "_law_start" (defScope s__law_start) s.heap.objs.size f cdv))) (m_int : mg "int" = none) :
    ∃ t, JSs (cxOf (L2.CX P w) P w K mg base ["script", "cell"] "_law_start" (defScope s__law_start) f cdv A outer s H E) E (defBody s__law_start) t (w__law_start) := by
  have hx : Passes (L2.CX P w) (cxOf (L2.CX P w) P w K mg base ["script", "cell"] "_law_start" (defScope s__law_start) f cdv A outer s H E) E := px_of (x := "_law_start")
  have hp := po_of (P := P) (w := w) (K := K) (mg := mg) (base := base) (x := "_law_start") (qual := "_law_start") (sc := defScope s__law_start) (f := f) (cdv := cdv) (A := A) (outer := outer) (s := s) (H := H) (E := E) (N := ["script", "cell"])
  have hu := Room.units hr
  have nd := sc__law_start.nd
  exact ⟨_, jss_one (js_ret (je_lstR (ja_cons (je_lcA (own := [("cell", 1)]) fin_fl rfl nd (ji_items (K := K) (je_slice (K := K) (je_var 0) (jo_none) (jo_some (je_int)))) (blkOk_by (N := ["script", "cell"]) (sc := defScope s__law_start) (own := [("cell", 1)]) (by decide +kernel)) (fun _ _ _ _ _ => jg_name 1 nd rfl (by first | exact Or.inl rfl | exact Or.inr rfl)) (fun _ _ _ _ _ => jts_nil) (fun _ _ _ _ _ => je_intC m_int (ja_cons (je_var 1) (ja_nil))) s) (ja_cons (je_int) (ja_cons (je_int) (ja_cons (je_int) (ja_nil)))))))⟩
/-! ### _law_fill -/
abbrev s__law_fill : Stmt := topS 18
theorem sc__law_fill : FnScope ["c", "number"] ["c"] (defScope s__law_fill) := ⟨rfl, rfl, rfl, by decide +kernel, rfl, by decide +kernel, by decide +kernel⟩
def w__law_fill : WS :=
  wSeq (wAsg (wOp fAdd (wOp fIx (wVar 0) (wC (.int 3))) (wC (.int 1))) (wgSub (wVar 0) (wC (.int 3))))
    (wSeq (wSet 1 (wOp fAdd (wOp fMul (wOp fIx (wVar 0) (wC (.int 3))) (wC (.int 69621))) (wC (.int 12345))))
    (wSeq (wIfS (wTest (wOp fLt (wOp fIx (wVar 0) (wC (.int 1))) (wCB gLen (wCons (wOp fIx (wVar 0) (wC (.int 0))) (wNil)))))
    (wSeq (wSet 1 (wOp fIx (wOp fIx (wVar 0) (wC (.int 0))) (wOp fIx (wVar 0) (wC (.int 1)))))
    (wSeq (wAsg (wOp fAdd (wOp fIx (wVar 0) (wC (.int 1))) (wC (.int 1))) (wgSub (wVar 0) (wC (.int 1))))
    (wSeq (wIfS (wTest (wOp fLt (wVar 1) (wC (.int 0))))
    (wSet 1 (wOp fSub (wOp fSub (wC (.int 0)) (wC (.int 1))) (wVar 1)))
    (wNext))
    (wIfS (wTest (wOp fGe (wVar 1) (wOp fPow (wC (.int 10)) (wC (.int 18)))))
    (wRet (wVar 1))
    (wNext)))))
    (wNext))
    (wSeq (wIfS (wAnd (wTruA (wOp fIx (wVar 0) (wC (.int 0)))) (wTest (wOp fGe (wOp fIx (wVar 0) (wC (.int 1))) (wCB gLen (wCons (wOp fIx (wVar 0) (wC (.int 0))) (wNil))))))
    (wSet 1 (wOp fAdd (wVar 1) (wOp fMod (wCB gInt (wCons (wOp fIx (wOp fIx (wVar 0) (wC (.int 0))) (wNeg (wC (.int 1)))) (wNil))) (wC (.int 1000003)))))
    (wNext))
    (wSeq (wSet 1 (wOp fMod (wCB gInt (wCons (wOp fAdd (wOp fMul (wVar 1) (wC (.int 48271))) (wOp fMul (wOp fIx (wVar 0) (wC (.int 3))) (wC (.int 69621)))) (wNil))) (wC (.int 2147483647))))
    (wRet (wOp fAdd (wOp fMod (wCB gInt (wCons (wOp fAdd (wOp fAdd (wOp fMul (wVar 1) (wVar 1)) (wOp fMul (wOp fIx (wVar 0) (wC (.int 3))) (wC (.int 7919)))) (wC (.int 11))) (wNil))) (wC (.int 2305843009213693951))) (wC (.int 2305843009213693951))))))))
theorem j__law_fill {P : Program} {w : World} {K : PySem.W.Frag} {mg : Str → Option Value} {base : Heap} {k : Nat} {f : Addr} {cdv : Value} {A : Around} {outer : List Env} {s : Shared} {H : Hp} {E : XK} (hr : Room k (A.deeper (envOfC "_law_fill" (defScope s__law_fill) s.heap.objs.size f cdv))) (m_len : mg "len" = none) (m_int : mg "int" = none) :
    ∃ t, JSs (cxOf (L2.CX P w) P w K mg base ["c", "number"] "_law_fill" (defScope s__law_fill) f cdv A outer s H E) E (defBody s__law_fill) t (w__law_fill) := by
  have hx : Passes (L2.CX P w) (cxOf (L2.CX P w) P w K mg base ["c", "number"] "_law_fill" (defScope s__law_fill) f cdv A outer s H E) E := px_of (x := "_law_fill")
  have hp := po_of (P := P) (w := w) (K := K) (mg := mg) (base := base) (x := "_law_fill") (qual := "_law_fill") (sc := defScope s__law_fill) (f := f) (cdv := cdv) (A := A) (outer := outer) (s := s) (H := H) (E := E) (N := ["c", "number"])
  have hu := Room.units hr
  have nd := sc__law_fill.nd
  exact ⟨_, jss_cons (js_asg (vs := []) (je_add (K := K) (je_ix (K := K) (je_var 0) (je_int)) (je_int)) (jg_sub (je_var 0) (je_int)))
    (jss_cons (js_set (i := 1) nd rfl (Or.inl rfl) (je_add (K := K) (je_mul (je_ix (K := K) (je_var 0) (je_int)) (je_int)) (je_int)))
    (jss_cons (js_if (jt_lt (je_ix (K := K) (je_var 0) (je_int)) (je_len (K := K) m_len (ja_cons (je_ix (K := K) (je_var 0) (je_int)) (ja_nil))))
    (jss_cons (js_set (i := 1) nd rfl (Or.inl rfl) (je_ix (K := K) (je_ix (K := K) (je_var 0) (je_int)) (je_ix (K := K) (je_var 0) (je_int))))
    (jss_cons (js_asg (vs := []) (je_add (K := K) (je_ix (K := K) (je_var 0) (je_int)) (je_int)) (jg_sub (je_var 0) (je_int)))
    (jss_cons (js_if (jt_lt (je_var 1) (je_int))
    (jss_one (js_set (i := 1) nd rfl (Or.inl rfl) (je_sub (je_sub (je_int) (je_int)) (je_var 1))))
    (jss_nil))
    (jss_one (js_if (jt_ge (je_var 1) (je_pow (je_int) (je_int)))
    (jss_one (js_ret (je_var 1)))
    (jss_nil))))))
    (jss_nil))
    (jss_cons (js_if ((jw_and (jt_tru (K := K) (je_ix (K := K) (je_var 0) (je_int))) (jw_and1 (jt_ge (je_ix (K := K) (je_var 0) (je_int)) (je_len (K := K) m_len (ja_cons (je_ix (K := K) (je_var 0) (je_int)) (ja_nil)))))).jt)
    (jss_one (js_set (i := 1) nd rfl (Or.inl rfl) (je_add (K := K) (je_var 1) (je_mod (je_intC m_int (ja_cons (je_ix (K := K) (je_ix (K := K) (je_var 0) (je_int)) (je_neg (je_int))) (ja_nil))) (je_int)))))
    (jss_nil))
    (jss_cons (js_set (i := 1) nd rfl (Or.inl rfl) (je_mod (je_intC m_int (ja_cons (je_add (K := K) (je_mul (je_var 1) (je_int)) (je_mul (je_ix (K := K) (je_var 0) (je_int)) (je_int))) (ja_nil))) (je_int)))
    (jss_one (js_ret (je_add (K := K) (je_mod (je_intC m_int (ja_cons (je_add (K := K) (je_add (K := K) (je_mul (je_var 1) (je_var 1)) (je_mul (je_ix (K := K) (je_var 0) (je_int)) (je_int))) (je_int)) (ja_nil))) (je_int)) (je_int))))))))⟩
/-! ### _law_take -/
abbrev s__law_take : Stmt := topS 19
theorem sc__law_take : FnScope ["c", "many", "digit"] ["c", "many"] (defScope s__law_take) := ⟨rfl, rfl, rfl, by decide +kernel, rfl, by decide +kernel, by decide +kernel⟩
def w__law_take (a__law_fill : ASp) : WS :=
  wSeq (wIfS (wTest (wOp fLt (wOp fIx (wVar 0) (wC (.int 2))) (wVar 1)))
    (wAsg (wCB a__law_fill (wCons (wVar 0) (wNil))) (wgSub (wVar 0) (wC (.int 2))))
    (wNext))
    (wSeq (wSet 2 (wOp fMod (wCB gInt (wCons (wOp fIx (wVar 0) (wC (.int 2))) (wNil))) (wVar 1)))
    (wSeq (wAsg (wOp fDiv (wOp fIx (wVar 0) (wC (.int 2))) (wVar 1)) (wgSub (wVar 0) (wC (.int 2))))
    (wRet (wVar 2))))
theorem j__law_take {P : Program} {w : World} {K : PySem.W.Frag} {mg : Str → Option Value} {base : Heap} {k : Nat} {f : Addr} {cdv : Value} {A : Around} {outer : List Env} {s : Shared} {H : Hp} {E : XK} (hr : Room k (A.deeper (envOfC "_law_take" (defScope s__law_take) s.heap.objs.size f cdv))) (m_int : mg "int" = none) {a__law_fill : ASp} (c__law_fill : Cal P w K mg base k "_law_fill" a__law_fill) :
    ∃ t, JSs (cxOf (L2.CX P w) P w K mg base ["c", "many", "digit"] "_law_take" (defScope s__law_take) f cdv A outer s H E) E (defBody s__law_take) t (w__law_take a__law_fill) := by
  have hx : Passes (L2.CX P w) (cxOf (L2.CX P w) P w K mg base ["c", "many", "digit"] "_law_take" (defScope s__law_take) f cdv A outer s H E) E := px_of (x := "_law_take")
  have hp := po_of (P := P) (w := w) (K := K) (mg := mg) (base := base) (x := "_law_take") (qual := "_law_take") (sc := defScope s__law_take) (f := f) (cdv := cdv) (A := A) (outer := outer) (s := s) (H := H) (E := E) (N := ["c", "many", "digit"])
  have hu := Room.units hr
  have nd := sc__law_take.nd
  exact ⟨_, jss_cons (js_if (jt_lt (je_ix (K := K) (je_var 0) (je_int)) (je_var 1))
    (jss_one (js_asg (vs := []) (je_call (K := K) c__law_fill hr hx (ja_cons (je_var 0) (ja_nil))) (jg_sub (je_var 0) (je_int))))
    (jss_nil))
    (jss_cons (js_set (i := 2) nd rfl (Or.inl rfl) (je_mod (je_intC m_int (ja_cons (je_ix (K := K) (je_var 0) (je_int)) (ja_nil))) (je_var 1)))
    (jss_cons (js_asg (vs := []) (je_div (je_ix (K := K) (je_var 0) (je_int)) (je_var 1)) (jg_sub (je_var 0) (je_int)))
    (jss_one (js_ret (je_var 2)))))⟩
/-! ### _law_raised -/
abbrev s__law_raised : Stmt := topS 20
theorem sc__law_raised : FnScope ["b", "k", "found", "j"] ["b", "k"] (defScope s__law_raised) := ⟨rfl, rfl, rfl, by decide +kernel, rfl, by decide +kernel, by decide +kernel⟩
def w__law_raised : WS :=
  wSeq (wSet 2 (wC (.int 1)))
    (wSeq (wFor (wiRange1 (wCons (wVar 1) (wNil))) (wgName 3)
    (wSet 2 (wOp fMul (wVar 2) (wVar 0))))
    (wRet (wVar 2)))
theorem j__law_raised {P : Program} {w : World} {K : PySem.W.Frag} {mg : Str → Option Value} {base : Heap} {k : Nat} {f : Addr} {cdv : Value} {A : Around} {outer : List Env} {s : Shared} {H : Hp} {E : XK} (hr : Room k (A.deeper (envOfC "_law_raised" (defScope s__law_raised) s.heap.objs.size f cdv))) (m_range : mg "range" = none) :
    ∃ t, JSs (cxOf (L2.CX P w) P w K mg base ["b", "k", "found", "j"] "_law_raised" (defScope s__law_raised) f cdv A outer s H E) E (defBody s__law_raised) t (w__law_raised) := by
  have hx : Passes (L2.CX P w) (cxOf (L2.CX P w) P w K mg base ["b", "k", "found", "j"] "_law_raised" (defScope s__law_raised) f cdv A outer s H E) E := px_of (x := "_law_raised")
  have hp := po_of (P := P) (w := w) (K := K) (mg := mg) (base := base) (x := "_law_raised") (qual := "_law_raised") (sc := defScope s__law_raised) (f := f) (cdv := cdv) (A := A) (outer := outer) (s := s) (H := H) (E := E) (N := ["b", "k", "found", "j"])
  have hu := Room.units hr
  have nd := sc__law_raised.nd
  exact ⟨_, jss_cons (js_set (i := 2) nd rfl (Or.inl rfl) (je_int))
    (jss_cons (js_for (vs := [3]) hp rfl (ji_range1 m_range (ja_cons (je_var 1) (ja_nil))) (jg_name 3 nd rfl (by first | exact Or.inl rfl | exact Or.inr rfl))
    (jss_one (js_set (i := 2) nd rfl (Or.inl rfl) (je_mul (je_var 2) (je_var 0)))))
    (jss_one (js_ret (je_var 2))))⟩
/-! ### _law_common -/
abbrev s__law_common : Stmt := topS 21
theorem sc__law_common : FnScope ["a", "b", "rest"] ["a", "b"] (defScope s__law_common) := ⟨rfl, rfl, rfl, by decide +kernel, rfl, by decide +kernel, by decide +kernel⟩
def w__law_common : WS :=
  wSeq (wSet 0 (wCB gAbs (wCons (wVar 0) (wNil))))
    (wSeq (wSet 1 (wCB gAbs (wCons (wVar 1) (wNil))))
    (wSeq (wWhile (wTest (wOp fNe (wVar 1) (wC (.int 0))))
    (wSeq (wSet 2 (wOp fMod (wCB gInt (wCons (wVar 0) (wNil))) (wVar 1)))
    (wSeq (wSet 0 (wVar 1))
    (wSet 1 (wVar 2)))))
    (wRet (wVar 0))))
theorem j__law_common {P : Program} {w : World} {K : PySem.W.Frag} {mg : Str → Option Value} {base : Heap} {k : Nat} {f : Addr} {cdv : Value} {A : Around} {outer : List Env} {s : Shared} {H : Hp} {E : XK} (hr : Room k (A.deeper (envOfC "_law_common" (defScope s__law_common) s.heap.objs.size f cdv))) (m_abs : mg "abs" = none) (m_int : mg "int" = none) :
    ∃ t, JSs (cxOf (L2.CX P w) P w K mg base ["a", "b", "rest"] "_law_common" (defScope s__law_common) f cdv A outer s H E) E (defBody s__law_common) t (w__law_common) := by
  have hx : Passes (L2.CX P w) (cxOf (L2.CX P w) P w K mg base ["a", "b", "rest"] "_law_common" (defScope s__law_common) f cdv A outer s H E) E := px_of (x := "_law_common")
  have hp := po_of (P := P) (w := w) (K := K) (mg := mg) (base := base) (x := "_law_common") (qual := "_law_common") (sc := defScope s__law_common) (f := f) (cdv := cdv) (A := A) (outer := outer) (s := s) (H := H) (E := E) (N := ["a", "b", "rest"])
  have hu := Room.units hr
  have nd := sc__law_common.nd
  exact ⟨_, jss_cons (js_set (i := 0) nd rfl (Or.inl rfl) (je_abs m_abs (ja_cons (je_var 0) (ja_nil))))
    (jss_cons (js_set (i := 1) nd rfl (Or.inl rfl) (je_abs m_abs (ja_cons (je_var 1) (ja_nil))))
    (jss_cons (js_while hp (jt_ne (K := K) hu (je_var 1) (je_int))
    (jss_cons (js_set (i := 2) nd rfl (Or.inl rfl) (je_mod (je_intC m_int (ja_cons (je_var 0) (ja_nil))) (je_var 1)))
    (jss_cons (js_set (i := 0) nd rfl (Or.inl rfl) (je_var 1))
    (jss_one (js_set (i := 1) nd rfl (Or.inl rfl) (je_var 2))))))
    (jss_one (js_ret (je_var 0)))))⟩
/-! ### _law_fraction -/
abbrev s__law_fraction : Stmt := topS 22
theorem sc__law_fraction : FnScope ["n", "m", "g"] ["n", "m"] (defScope s__law_fraction) := ⟨rfl, rfl, rfl, by decide +kernel, rfl, by decide +kernel, by decide +kernel⟩
def w__law_fraction (a__law_common : ASp) : WS :=
  wSeq (wSet 2 (wCB a__law_common (wCons (wVar 0) (wCons (wVar 1) (wNil)))))
    (wSeq (wIfS (wTest (wOp fLt (wVar 1) (wC (.int 0))))
    (wSet 2 (wOp fSub (wC (.int 0)) (wVar 2)))
    (wNext))
    (wRet (wTup (wCons (wOp fDivX (wVar 0) (wVar 2)) (wCons (wOp fDivX (wVar 1) (wVar 2)) (wNil))))))
theorem j__law_fraction {P : Program} {w : World} {K : PySem.W.Frag} {mg : Str → Option Value} {base : Heap} {k : Nat} {f : Addr} {cdv : Value} {A : Around} {outer : List Env} {s : Shared} {H : Hp} {E : XK} (hr : Room k (A.deeper (envOfC "_law_fraction" (defScope s__law_fraction) s.heap.objs.size f cdv))) {a__law_common : ASp} (c__law_common : Cal P w K mg base k "_law_common" a__law_common) (sb : base.NoSeer) (tr : P.given.tree = none) (kb : 33 ≤ k) :
    ∃ t, JSs (cxOf (L2.CX P w) P w K mg base ["n", "m", "g"] "_law_fraction" (defScope s__law_fraction) f cdv A outer s H E) E (defBody s__law_fraction) t (w__law_fraction a__law_common) := by
  have hx : Passes (L2.CX P w) (cxOf (L2.CX P w) P w K mg base ["n", "m", "g"] "_law_fraction" (defScope s__law_fraction) f cdv A outer s H E) E := px_of (x := "_law_fraction")
  have hp := po_of (P := P) (w := w) (K := K) (mg := mg) (base := base) (x := "_law_fraction") (qual := "_law_fraction") (sc := defScope s__law_fraction) (f := f) (cdv := cdv) (A := A) (outer := outer) (s := s) (H := H) (E := E) (N := ["n", "m", "g"])
  have hu := Room.units hr
  have nd := sc__law_fraction.nd
  have bo := big_of (w := w) (K := K) (mg := mg) (N := ["n", "m", "g"]) (cdv := cdv) (outer := outer) (H := H) (E := E) sb tr hr kb rfl rfl
  exact ⟨_, jss_cons (js_set (i := 2) nd rfl (Or.inl rfl) (je_call (K := K) c__law_common hr hx (ja_cons (je_var 0) (ja_cons (je_var 1) (ja_nil)))))
    (jss_cons (js_if (jt_lt (je_var 1) (je_int))
    (jss_one (js_set (i := 2) nd rfl (Or.inl rfl) (je_sub (je_int) (je_var 2))))
    (jss_nil))
    (jss_one (js_ret (je_tup (ja_cons (je_divX bo (je_var 0) (je_var 2)) (ja_cons (je_divX bo (je_var 1) (je_var 2)) (ja_nil)))))))⟩
/-! ### _law_zero -/
abbrev s__law_zero : Stmt := topS 23
theorem sc__law_zero : FnScope ["d"] ["d"] (defScope s__law_zero) := ⟨rfl, rfl, rfl, by decide +kernel, rfl, by decide +kernel, by decide +kernel⟩
def w__law_zero : WS :=
  wSeq (wIfS (wTest (wOp fEq (wOp fIx (wVar 0) (wC (.int 0))) (wC (.str "Q"))))
    (wRet (wTup (wCons (wC (.int 0)) (wCons (wC (.int 1)) (wNil)))))
    (wNext))
    (wSeq (wIfS (wTest (wOp fEq (wOp fIx (wVar 0) (wC (.int 0))) (wC (.str "P"))))
    (wRet (wTup (wNil)))
    (wNext))
    (wRet (wC (.int 0))))
theorem j__law_zero {P : Program} {w : World} {K : PySem.W.Frag} {mg : Str → Option Value} {base : Heap} {k : Nat} {f : Addr} {cdv : Value} {A : Around} {outer : List Env} {s : Shared} {H : Hp} {E : XK} (hr : Room k (A.deeper (envOfC "_law_zero" (defScope s__law_zero) s.heap.objs.size f cdv))) :
    ∃ t, JSs (cxOf (L2.CX P w) P w K mg base ["d"] "_law_zero" (defScope s__law_zero) f cdv A outer s H E) E (defBody s__law_zero) t (w__law_zero) := by
  have hx : Passes (L2.CX P w) (cxOf (L2.CX P w) P w K mg base ["d"] "_law_zero" (defScope s__law_zero) f cdv A outer s H E) E := px_of (x := "_law_zero")
  have hp := po_of (P := P) (w := w) (K := K) (mg := mg) (base := base) (x := "_law_zero") (qual := "_law_zero") (sc := defScope s__law_zero) (f := f) (cdv := cdv) (A := A) (outer := outer) (s := s) (H := H) (E := E) (N := ["d"])
  have hu := Room.units hr
  have nd := sc__law_zero.nd
  exact ⟨_, jss_cons (js_if (jt_eq (K := K) hu (je_ix (K := K) (je_var 0) (je_int)) (je_str))
    (jss_one (js_ret (je_tup (ja_cons (je_int) (ja_cons (je_int) (ja_nil))))))
    (jss_nil))
    (jss_cons (js_if (jt_eq (K := K) hu (je_ix (K := K) (je_var 0) (je_int)) (je_str))
    (jss_one (js_ret (je_tup (ja_nil))))
    (jss_nil))
    (jss_one (js_ret (je_int))))⟩
/-! ### _law_strip -/
abbrev s__law_strip : Stmt := topS 24
theorem sc__law_strip : FnScope ["f", "parts", "many"] ["f", "parts"] (defScope s__law_strip) := ⟨rfl, rfl, rfl, by decide +kernel, rfl, by decide +kernel, by decide +kernel⟩
def w__law_strip (a__law_zero : ASp) : WS :=
  wSeq (wSet 2 (wCB gLen (wCons (wVar 1) (wNil))))
    (wSeq (wWhile (wAnd (wTest (wOp fGt (wVar 2) (wC (.int 0)))) (wTest (wOp fEq (wOp fIx (wVar 1) (wOp fSub (wVar 2) (wC (.int 1)))) (wCB a__law_zero (wCons (wVar 0) (wNil))))))
    (wSet 2 (wOp fSub (wVar 2) (wC (.int 1)))))
    (wRet (wCB gTuple (wCons (wSl (wVar 1) (wNoPart) (wPart (wVar 2))) (wNil)))))
theorem j__law_strip {P : Program} {w : World} {K : PySem.W.Frag} {mg : Str → Option Value} {base : Heap} {k : Nat} {f : Addr} {cdv : Value} {A : Around} {outer : List Env} {s : Shared} {H : Hp} {E : XK} (hr : Room k (A.deeper (envOfC "_law_strip" (defScope s__law_strip) s.heap.objs.size f cdv))) (m_len : mg "len" = none) (m_tuple : mg "tuple" = none) {a__law_zero : ASp} (c__law_zero : Cal P w K mg base k "_law_zero" a__law_zero) :
    ∃ t, JSs (cxOf (L2.CX P w) P w K mg base ["f", "parts", "many"] "_law_strip" (defScope s__law_strip) f cdv A outer s H E) E (defBody s__law_strip) t (w__law_strip a__law_zero) := by
  have hx : Passes (L2.CX P w) (cxOf (L2.CX P w) P w K mg base ["f", "parts", "many"] "_law_strip" (defScope s__law_strip) f cdv A outer s H E) E := px_of (x := "_law_strip")
  have hp := po_of (P := P) (w := w) (K := K) (mg := mg) (base := base) (x := "_law_strip") (qual := "_law_strip") (sc := defScope s__law_strip) (f := f) (cdv := cdv) (A := A) (outer := outer) (s := s) (H := H) (E := E) (N := ["f", "parts", "many"])
  have hu := Room.units hr
  have nd := sc__law_strip.nd
  exact ⟨_, jss_cons (js_set (i := 2) nd rfl (Or.inl rfl) (je_len (K := K) m_len (ja_cons (je_var 1) (ja_nil))))
    (jss_cons (js_while hp ((jw_and (jt_gt (je_var 2) (je_int)) (jw_and1 (jt_eq (K := K) hu (je_ix (K := K) (je_var 1) (je_sub (je_var 2) (je_int))) (je_call (K := K) c__law_zero hr hx (ja_cons (je_var 0) (ja_nil)))))).jt)
    (jss_one (js_set (i := 2) nd rfl (Or.inl rfl) (je_sub (je_var 2) (je_int)))))
    (jss_one (js_ret (je_tuple (K := K) m_tuple (ja_cons (je_slice (K := K) (je_var 1) (jo_none) (jo_some (je_var 2))) (ja_nil))))))⟩
/-! ### _law_number -/
abbrev s__law_number : Stmt := topS 25
theorem sc__law_number : FnScope ["d", "n"] ["d", "n"] (defScope s__law_number) := ⟨rfl, rfl, rfl, by decide +kernel, rfl, by decide +kernel, by decide +kernel⟩
def w__law_number (a__law_strip : ASp) (a__law_number : ASp) : WS :=
  wSeq (wIfS (wTest (wOp fEq (wOp fIx (wVar 0) (wC (.int 0))) (wC (.str "Q"))))
    (wRet (wTup (wCons (wVar 1) (wCons (wC (.int 1)) (wNil)))))
    (wNext))
    (wSeq (wIfS (wTest (wOp fEq (wOp fIx (wVar 0) (wC (.int 0))) (wC (.str "F"))))
    (wRet (wOp fMod (wCB gInt (wCons (wVar 1) (wNil))) (wOp fIx (wVar 0) (wC (.int 1)))))
    (wNext))
    (wSeq (wIfS (wTest (wOp fEq (wOp fIx (wVar 0) (wC (.int 0))) (wC (.str "P"))))
    (wRet (wCB a__law_strip (wCons (wOp fIx (wVar 0) (wC (.int 1))) (wCons (wLst (wCons (wCB a__law_number (wCons (wOp fIx (wVar 0) (wC (.int 1))) (wCons (wVar 1) (wNil)))) (wNil))) (wNil)))))
    (wNext))
    (wRet (wVar 1))))
theorem j__law_number {P : Program} {w : World} {K : PySem.W.Frag} {mg : Str → Option Value} {base : Heap} {k : Nat} {f : Addr} {cdv : Value} {A : Around} {outer : List Env} {s : Shared} {H : Hp} {E : XK} (hr : Room k (A.deeper (envOfC "_law_number" (defScope s__law_number) s.heap.objs.size f cdv))) (m_int : mg "int" = none) {a__law_strip : ASp} (c__law_strip : Cal P w K mg base k "_law_strip" a__law_strip) {a__law_number : ASp} (c__law_number : Cal P w K mg base k "_law_number" a__law_number) :
    ∃ t, JSs (cxOf (L2.CX P w) P w K mg base ["d", "n"] "_law_number" (defScope s__law_number) f cdv A outer s H E) E (defBody s__law_number) t (w__law_number a__law_strip a__law_number) := by
  have hx : Passes (L2.CX P w) (cxOf (L2.CX P w) P w K mg base ["d", "n"] "_law_number" (defScope s__law_number) f cdv A outer s H E) E := px_of (x := "_law_number")
  have hp := po_of (P := P) (w := w) (K := K) (mg := mg) (base := base) (x := "_law_number") (qual := "_law_number") (sc := defScope s__law_number) (f := f) (cdv := cdv) (A := A) (outer := outer) (s := s) (H := H) (E := E) (N := ["d", "n"])
  have hu := Room.units hr
  have nd := sc__law_number.nd
  exact ⟨_, jss_cons (js_if (jt_eq (K := K) hu (je_ix (K := K) (je_var 0) (je_int)) (je_str))
    (jss_one (js_ret (je_tup (ja_cons (je_var 1) (ja_cons (je_int) (ja_nil))))))
    (jss_nil))
    (jss_cons (js_if (jt_eq (K := K) hu (je_ix (K := K) (je_var 0) (je_int)) (je_str))
    (jss_one (js_ret (je_mod (je_intC m_int (ja_cons (je_var 1) (ja_nil))) (je_ix (K := K) (je_var 0) (je_int)))))
    (jss_nil))
    (jss_cons (js_if (jt_eq (K := K) hu (je_ix (K := K) (je_var 0) (je_int)) (je_str))
    (jss_one (js_ret (je_call (K := K) c__law_strip hr hx (ja_cons (je_ix (K := K) (je_var 0) (je_int)) (ja_cons (je_lst (ja_cons (je_call (K := K) c__law_number hr hx (ja_cons (je_ix (K := K) (je_var 0) (je_int)) (ja_cons (je_var 1) (ja_nil)))) (ja_nil))) (ja_nil))))))
    (jss_nil))
    (jss_one (js_ret (je_var 1)))))⟩
/-! ### _law_part -/
abbrev s__law_part : Stmt := topS 26
theorem sc__law_part : FnScope ["d", "x", "k"] ["d", "x", "k"] (defScope s__law_part) := ⟨rfl, rfl, rfl, by decide +kernel, rfl, by decide +kernel, by decide +kernel⟩
def w__law_part (a__law_zero : ASp) : WS :=
  wSeq (wIfS (wTest (wOp fLt (wVar 2) (wCB gLen (wCons (wVar 1) (wNil)))))
    (wRet (wOp fIx (wVar 1) (wVar 2)))
    (wNext))
    (wRet (wCB a__law_zero (wCons (wVar 0) (wNil))))
theorem j__law_part {P : Program} {w : World} {K : PySem.W.Frag} {mg : Str → Option Value} {base : Heap} {k : Nat} {f : Addr} {cdv : Value} {A : Around} {outer : List Env} {s : Shared} {H : Hp} {E : XK} (hr : Room k (A.deeper (envOfC "_law_part" (defScope s__law_part) s.heap.objs.size f cdv))) (m_len : mg "len" = none) {a__law_zero : ASp} (c__law_zero : Cal P w K mg base k "_law_zero" a__law_zero) :
    ∃ t, JSs (cxOf (L2.CX P w) P w K mg base ["d", "x", "k"] "_law_part" (defScope s__law_part) f cdv A outer s H E) E (defBody s__law_part) t (w__law_part a__law_zero) := by
  have hx : Passes (L2.CX P w) (cxOf (L2.CX P w) P w K mg base ["d", "x", "k"] "_law_part" (defScope s__law_part) f cdv A outer s H E) E := px_of (x := "_law_part")
  have hp := po_of (P := P) (w := w) (K := K) (mg := mg) (base := base) (x := "_law_part") (qual := "_law_part") (sc := defScope s__law_part) (f := f) (cdv := cdv) (A := A) (outer := outer) (s := s) (H := H) (E := E) (N := ["d", "x", "k"])
  have hu := Room.units hr
  have nd := sc__law_part.nd
  exact ⟨_, jss_cons (js_if (jt_lt (je_var 2) (je_len (K := K) m_len (ja_cons (je_var 1) (ja_nil))))
    (jss_one (js_ret (je_ix (K := K) (je_var 1) (je_var 2))))
    (jss_nil))
    (jss_one (js_ret (je_call (K := K) c__law_zero hr hx (ja_cons (je_var 0) (ja_nil)))))⟩
/-! ### _law_add -/
abbrev s__law_add : Stmt := topS 27
theorem sc__law_add : FnScope ["d", "x", "y", "long", "k"] ["d", "x", "y"] (defScope s__law_add) := ⟨rfl, rfl, rfl, by decide +kernel, rfl, by decide +kernel, by decide +kernel⟩
def w__law_add (a__law_fraction : ASp) (a__law_strip : ASp) (a__law_add : ASp) (a__law_part : ASp) : WS :=
  wSeq (wIfS (wTest (wOp fEq (wOp fIx (wVar 0) (wC (.int 0))) (wC (.str "Q"))))
    (wRet (wCB a__law_fraction (wCons (wOp fAdd (wOp fMul (wOp fIx (wVar 1) (wC (.int 0))) (wOp fIx (wVar 2) (wC (.int 1)))) (wOp fMul (wOp fIx (wVar 2) (wC (.int 0))) (wOp fIx (wVar 1) (wC (.int 1))))) (wCons (wOp fMul (wOp fIx (wVar 1) (wC (.int 1))) (wOp fIx (wVar 2) (wC (.int 1)))) (wNil)))))
    (wNext))
    (wSeq (wIfS (wTest (wOp fEq (wOp fIx (wVar 0) (wC (.int 0))) (wC (.str "F"))))
    (wRet (wOp fMod (wCB gInt (wCons (wOp fAdd (wVar 1) (wVar 2)) (wNil))) (wOp fIx (wVar 0) (wC (.int 1)))))
    (wNext))
    (wSeq (wIfS (wTest (wOp fEq (wOp fIx (wVar 0) (wC (.int 0))) (wC (.str "P"))))
    (wSeq (wSet 3 (wCB gMax (wCons (wCB gLen (wCons (wVar 1) (wNil))) (wCons (wCB gLen (wCons (wVar 2) (wNil))) (wNil)))))
    (wRet (wCB a__law_strip (wCons (wOp fIx (wVar 0) (wC (.int 1))) (wCons (wLcA (wiRange1 (wCons (wVar 3) (wNil))) (wgName 4) (wYes) (wCB a__law_add (wCons (wOp fIx (wVar 0) (wC (.int 1))) (wCons (wCB a__law_part (wCons (wOp fIx (wVar 0) (wC (.int 1))) (wCons (wVar 1) (wCons (wVar 4) (wNil))))) (wCons (wCB a__law_part (wCons (wOp fIx (wVar 0) (wC (.int 1))) (wCons (wVar 2) (wCons (wVar 4) (wNil))))) (wNil))))) [4] finF) (wNil))))))
    (wNext))
    (wRet (wOp fAdd (wVar 1) (wVar 2)))))
theorem j__law_add {P : Program} {w : World} {K : PySem.W.Frag} {mg : Str → Option Value} {base : Heap} {k : Nat} {f : Addr} {cdv : Value} {A : Around} {outer : List Env} {s : Shared} {H : Hp} {E : XK} (hr : Room k (A.deeper (envOfC "_law_add" (defScope s__law_add) s.heap.objs.size f cdv))) (m_int : mg "int" = none) (m_max : mg "max" = none) (m_len : mg "len" = none) (m_range : mg "range" = none) {a__law_fraction : ASp} (c__law_fraction : Cal P w K mg base k "_law_fraction" a__law_fraction) {a__law_strip : ASp} (c__law_strip : Cal P w K mg base k "_law_strip" a__law_strip) {a__law_add : ASp} (c__law_add : Cal P w K mg base k "_law_add" a__law_add) {a__law_part : ASp} (c__law_part : Cal P w K mg base k "_law_part" a__law_part) :
    ∃ t, JSs (cxOf (L2.CX P w) P w K mg base ["d", "x", "y", "long", "k"] "_law_add" (defScope s__law_add) f cdv A outer s H E) E (defBody s__law_add) t (w__law_add a__law_fraction a__law_strip a__law_add a__law_part) := by
  have hx : Passes (L2.CX P w) (cxOf (L2.CX P w) P w K mg base ["d", "x", "y", "long", "k"] "_law_add" (defScope s__law_add) f cdv A outer s H E) E := px_of (x := "_law_add")
  have hp := po_of (P := P) (w := w) (K := K) (mg := mg) (base := base) (x := "_law_add") (qual := "_law_add") (sc := defScope s__law_add) (f := f) (cdv := cdv) (A := A) (outer := outer) (s := s) (H := H) (E := E) (N := ["d", "x", "y", "long", "k"])
  have hu := Room.units hr
  have nd := sc__law_add.nd
  exact ⟨_, jss_cons (js_if (jt_eq (K := K) hu (je_ix (K := K) (je_var 0) (je_int)) (je_str))
    (jss_one (js_ret (je_call (K := K) c__law_fraction hr hx (ja_cons (je_add (K := K) (je_mul (je_ix (K := K) (je_var 1) (je_int)) (je_ix (K := K) (je_var 2) (je_int))) (je_mul (je_ix (K := K) (je_var 2) (je_int)) (je_ix (K := K) (je_var 1) (je_int)))) (ja_cons (je_mul (je_ix (K := K) (je_var 1) (je_int)) (je_ix (K := K) (je_var 2) (je_int))) (ja_nil))))))
    (jss_nil))
    (jss_cons (js_if (jt_eq (K := K) hu (je_ix (K := K) (je_var 0) (je_int)) (je_str))
    (jss_one (js_ret (je_mod (je_intC m_int (ja_cons (je_add (K := K) (je_var 1) (je_var 2)) (ja_nil))) (je_ix (K := K) (je_var 0) (je_int)))))
    (jss_nil))
    (jss_cons (js_if (jt_eq (K := K) hu (je_ix (K := K) (je_var 0) (je_int)) (je_str))
    (jss_cons (js_set (i := 3) nd rfl (Or.inl rfl) (je_max (K := K) rfl m_max (ja_cons (je_len (K := K) m_len (ja_cons (je_var 1) (ja_nil))) (ja_cons (je_len (K := K) m_len (ja_cons (je_var 2) (ja_nil))) (ja_nil)))))
    (jss_one (js_ret (je_call (K := K) c__law_strip hr hx (ja_cons (je_ix (K := K) (je_var 0) (je_int)) (ja_cons (je_lcA (own := [("k", 4)]) fin_fl rfl nd (ji_range1 m_range (ja_cons (je_var 3) (ja_nil))) (blkOk_by (N := ["d", "x", "y", "long", "k"]) (sc := defScope s__law_add) (own := [("k", 4)]) (by decide +kernel)) (fun _ _ _ _ _ => jg_name 4 nd rfl (by first | exact Or.inl rfl | exact Or.inr rfl)) (fun _ _ _ _ _ => jts_nil) (fun _ _ _ _ _ => je_call (K := K) c__law_add hr passL (ja_cons (je_ix (K := K) (je_var 0) (je_int)) (ja_cons (je_call (K := K) c__law_part hr passL (ja_cons (je_ix (K := K) (je_var 0) (je_int)) (ja_cons (je_var 1) (ja_cons (je_var 4) (ja_nil))))) (ja_cons (je_call (K := K) c__law_part hr passL (ja_cons (je_ix (K := K) (je_var 0) (je_int)) (ja_cons (je_var 2) (ja_cons (je_var 4) (ja_nil))))) (ja_nil))))) s) (ja_nil)))))))
    (jss_nil))
    (jss_one (js_ret (je_add (K := K) (je_var 1) (je_var 2))))))⟩
/-! ### _law_multiply -/
abbrev s__law_multiply : Stmt := topS 28
theorem sc__law_multiply : FnScope ["d", "x", "y", "parts", "i", "j"] ["d", "x", "y"] (defScope s__law_multiply) := ⟨rfl, rfl, rfl, by decide +kernel, rfl, by decide +kernel, by decide +kernel⟩
def w__law_multiply (a__law_fraction : ASp) (a__law_zero : ASp) (a__law_add : ASp) (a__law_multiply : ASp) (a__law_strip : ASp) : WS :=
  wSeq (wIfS (wTest (wOp fEq (wOp fIx (wVar 0) (wC (.int 0))) (wC (.str "Q"))))
    (wRet (wCB a__law_fraction (wCons (wOp fMul (wOp fIx (wVar 1) (wC (.int 0))) (wOp fIx (wVar 2) (wC (.int 0)))) (wCons (wOp fMul (wOp fIx (wVar 1) (wC (.int 1))) (wOp fIx (wVar 2) (wC (.int 1)))) (wNil)))))
    (wNext))
    (wSeq (wIfS (wTest (wOp fEq (wOp fIx (wVar 0) (wC (.int 0))) (wC (.str "F"))))
    (wRet (wOp fMod (wCB gInt (wCons (wOp fMul (wVar 1) (wVar 2)) (wNil))) (wOp fIx (wVar 0) (wC (.int 1)))))
    (wNext))
    (wSeq (wIfS (wTest (wOp fEq (wOp fIx (wVar 0) (wC (.int 0))) (wC (.str "P"))))
    (wSeq (wSet 3 (wOp fMulR (wLst (wCons (wCB a__law_zero (wCons (wOp fIx (wVar 0) (wC (.int 1))) (wNil))) (wNil))) (wOp fAdd (wCB gLen (wCons (wVar 1) (wNil))) (wCB gLen (wCons (wVar 2) (wNil))))))
    (wSeq (wFor (wiRange1 (wCons (wCB gLen (wCons (wVar 1) (wNil))) (wNil))) (wgName 4)
    (wFor (wiRange1 (wCons (wCB gLen (wCons (wVar 2) (wNil))) (wNil))) (wgName 5)
    (wAsg (wCB a__law_add (wCons (wOp fIx (wVar 0) (wC (.int 1))) (wCons (wOp fIx (wVar 3) (wOp fAdd (wVar 4) (wVar 5))) (wCons (wCB a__law_multiply (wCons (wOp fIx (wVar 0) (wC (.int 1))) (wCons (wOp fIx (wVar 1) (wVar 4)) (wCons (wOp fIx (wVar 2) (wVar 5)) (wNil))))) (wNil))))) (wgSub (wVar 3) (wOp fAdd (wVar 4) (wVar 5))))))
    (wRet (wCB a__law_strip (wCons (wOp fIx (wVar 0) (wC (.int 1))) (wCons (wVar 3) (wNil)))))))
    (wNext))
    (wRet (wOp fMul (wVar 1) (wVar 2)))))
theorem j__law_multiply {P : Program} {w : World} {K : PySem.W.Frag} {mg : Str → Option Value} {base : Heap} {k : Nat} {f : Addr} {cdv : Value} {A : Around} {outer : List Env} {s : Shared} {H : Hp} {E : XK} (hr : Room k (A.deeper (envOfC "_law_multiply" (defScope s__law_multiply) s.heap.objs.size f cdv))) (m_int : mg "int" = none) (m_len : mg "len" = none) (m_range : mg "range" = none) {a__law_fraction : ASp} (c__law_fraction : Cal P w K mg base k "_law_fraction" a__law_fraction) {a__law_zero : ASp} (c__law_zero : Cal P w K mg base k "_law_zero" a__law_zero) {a__law_add : ASp} (c__law_add : Cal P w K mg base k "_law_add" a__law_add) {a__law_multiply : ASp} (c__law_multiply : Cal P w K mg base k "_law_multiply" a__law_multiply) {a__law_strip : ASp} (c__law_strip : Cal P w K mg base k "_law_strip" a__law_strip) :
    ∃ t, JSs (cxOf (L2.CX P w) P w K mg base ["d", "x", "y", "parts", "i", "j"] "_law_multiply" (defScope s__law_multiply) f cdv A outer s H E) E (defBody s__law_multiply) t (w__law_multiply a__law_fraction a__law_zero a__law_add a__law_multiply a__law_strip) := by
  have hx : Passes (L2.CX P w) (cxOf (L2.CX P w) P w K mg base ["d", "x", "y", "parts", "i", "j"] "_law_multiply" (defScope s__law_multiply) f cdv A outer s H E) E := px_of (x := "_law_multiply")
  have hp := po_of (P := P) (w := w) (K := K) (mg := mg) (base := base) (x := "_law_multiply") (qual := "_law_multiply") (sc := defScope s__law_multiply) (f := f) (cdv := cdv) (A := A) (outer := outer) (s := s) (H := H) (E := E) (N := ["d", "x", "y", "parts", "i", "j"])
  have hu := Room.units hr
  have nd := sc__law_multiply.nd
  exact ⟨_, jss_cons (js_if (jt_eq (K := K) hu (je_ix (K := K) (je_var 0) (je_int)) (je_str))
    (jss_one (js_ret (je_call (K := K) c__law_fraction hr hx (ja_cons (je_mul (je_ix (K := K) (je_var 1) (je_int)) (je_ix (K := K) (je_var 2) (je_int))) (ja_cons (je_mul (je_ix (K := K) (je_var 1) (je_int)) (je_ix (K := K) (je_var 2) (je_int))) (ja_nil))))))
    (jss_nil))
    (jss_cons (js_if (jt_eq (K := K) hu (je_ix (K := K) (je_var 0) (je_int)) (je_str))
    (jss_one (js_ret (je_mod (je_intC m_int (ja_cons (je_mul (je_var 1) (je_var 2)) (ja_nil))) (je_ix (K := K) (je_var 0) (je_int)))))
    (jss_nil))
    (jss_cons (js_if (jt_eq (K := K) hu (je_ix (K := K) (je_var 0) (je_int)) (je_str))
    (jss_cons (js_set (i := 3) nd rfl (Or.inl rfl) (je_mulR (je_lst (ja_cons (je_call (K := K) c__law_zero hr hx (ja_cons (je_ix (K := K) (je_var 0) (je_int)) (ja_nil))) (ja_nil))) (je_add (K := K) (je_len (K := K) m_len (ja_cons (je_var 1) (ja_nil))) (je_len (K := K) m_len (ja_cons (je_var 2) (ja_nil))))))
    (jss_cons (js_for (vs := [4]) hp rfl (ji_range1 m_range (ja_cons (je_len (K := K) m_len (ja_cons (je_var 1) (ja_nil))) (ja_nil))) (jg_name 4 nd rfl (by first | exact Or.inl rfl | exact Or.inr rfl))
    (jss_one (js_for (vs := [5]) hp rfl (ji_range1 m_range (ja_cons (je_len (K := K) m_len (ja_cons (je_var 2) (ja_nil))) (ja_nil))) (jg_name 5 nd rfl (by first | exact Or.inl rfl | exact Or.inr rfl))
    (jss_one (js_asg (vs := []) (je_call (K := K) c__law_add hr hx (ja_cons (je_ix (K := K) (je_var 0) (je_int)) (ja_cons (je_ix (K := K) (je_var 3) (je_add (K := K) (je_var 4) (je_var 5))) (ja_cons (je_call (K := K) c__law_multiply hr hx (ja_cons (je_ix (K := K) (je_var 0) (je_int)) (ja_cons (je_ix (K := K) (je_var 1) (je_var 4)) (ja_cons (je_ix (K := K) (je_var 2) (je_var 5)) (ja_nil))))) (ja_nil))))) (jg_sub (je_var 3) (je_add (K := K) (je_var 4) (je_var 5))))))))
    (jss_one (js_ret (je_call (K := K) c__law_strip hr hx (ja_cons (je_ix (K := K) (je_var 0) (je_int)) (ja_cons (je_var 3) (ja_nil))))))))
    (jss_nil))
    (jss_one (js_ret (je_mul (je_var 1) (je_var 2))))))⟩
/-! ### _law_subtract -/
abbrev s__law_subtract : Stmt := topS 29
theorem sc__law_subtract : FnScope ["d", "x", "y"] ["d", "x", "y"] (defScope s__law_subtract) := ⟨rfl, rfl, rfl, by decide +kernel, rfl, by decide +kernel, by decide +kernel⟩
def w__law_subtract (a__law_add : ASp) (a__law_multiply : ASp) (a__law_number : ASp) : WS :=
  wRet (wCB a__law_add (wCons (wVar 0) (wCons (wVar 1) (wCons (wCB a__law_multiply (wCons (wVar 0) (wCons (wCB a__law_number (wCons (wVar 0) (wCons (wOp fSub (wC (.int 0)) (wC (.int 1))) (wNil)))) (wCons (wVar 2) (wNil))))) (wNil)))))
theorem j__law_subtract {P : Program} {w : World} {K : PySem.W.Frag} {mg : Str → Option Value} {base : Heap} {k : Nat} {f : Addr} {cdv : Value} {A : Around} {outer : List Env} {s : Shared} {H : Hp} {E : XK} (hr : Room k (A.deeper (envOfC "_law_subtract" (defScope s__law_subtract) s.heap.objs.size f cdv))) {a__law_add : ASp} (c__law_add : Cal P w K mg base k "_law_add" a__law_add) {a__law_multiply : ASp} (c__law_multiply : Cal P w K mg base k "_law_multiply" a__law_multiply) {a__law_number : ASp} (c__law_number : Cal P w K mg base k "_law_number" a__law_number) :
    ∃ t, JSs (cxOf (L2.CX P w) P w K mg base ["d", "x", "y"] "_law_subtract" (defScope s__law_subtract) f cdv A outer s H E) E (defBody s__law_subtract) t (w__law_subtract a__law_add a__law_multiply a__law_number) := by
  have hx : Passes (L2.CX P w) (cxOf (L2.CX P w) P w K mg base ["d", "x", "y"] "_law_subtract" (defScope s__law_subtract) f cdv A outer s H E) E := px_of (x := "_law_subtract")
  have hp := po_of (P := P) (w := w) (K := K) (mg := mg) (base := base) (x := "_law_subtract") (qual := "_law_subtract") (sc := defScope s__law_subtract) (f := f) (cdv := cdv) (A := A) (outer := outer) (s := s) (H := H) (E := E) (N := ["d", "x", "y"])
  have hu := Room.units hr
  have nd := sc__law_subtract.nd
  exact ⟨_, jss_one (js_ret (je_call (K := K) c__law_add hr hx (ja_cons (je_var 0) (ja_cons (je_var 1) (ja_cons (je_call (K := K) c__law_multiply hr hx (ja_cons (je_var 0) (ja_cons (je_call (K := K) c__law_number hr hx (ja_cons (je_var 0) (ja_cons (je_sub (je_int) (je_int)) (ja_nil)))) (ja_cons (je_var 2) (ja_nil))))) (ja_nil))))))⟩
/-! ### _law_power -/
abbrev s__law_power : Stmt := topS 30
theorem sc__law_power : FnScope ["d", "x", "k", "result"] ["d", "x", "k"] (defScope s__law_power) := ⟨rfl, rfl, rfl, by decide +kernel, rfl, by decide +kernel, by decide +kernel⟩
def w__law_power (a__law_number : ASp) (a__law_multiply : ASp) : WS :=
  wSeq (wSet 3 (wCB a__law_number (wCons (wVar 0) (wCons (wC (.int 1)) (wNil)))))
    (wSeq (wWhile (wTest (wOp fGt (wVar 2) (wC (.int 0))))
    (wSeq (wIfS (wTest (wOp fEq (wOp fMod (wCB gInt (wCons (wVar 2) (wNil))) (wC (.int 2))) (wC (.int 1))))
    (wSet 3 (wCB a__law_multiply (wCons (wVar 0) (wCons (wVar 3) (wCons (wVar 1) (wNil))))))
    (wNext))
    (wSeq (wSet 1 (wCB a__law_multiply (wCons (wVar 0) (wCons (wVar 1) (wCons (wVar 1) (wNil))))))
    (wSet 2 (wOp fDiv (wVar 2) (wC (.int 2)))))))
    (wRet (wVar 3)))
theorem j__law_power {P : Program} {w : World} {K : PySem.W.Frag} {mg : Str → Option Value} {base : Heap} {k : Nat} {f : Addr} {cdv : Value} {A : Around} {outer : List Env} {s : Shared} {H : Hp} {E : XK} (hr : Room k (A.deeper (envOfC "_law_power" (defScope s__law_power) s.heap.objs.size f cdv))) (m_int : mg "int" = none) {a__law_number : ASp} (c__law_number : Cal P w K mg base k "_law_number" a__law_number) {a__law_multiply : ASp} (c__law_multiply : Cal P w K mg base k "_law_multiply" a__law_multiply) :
    ∃ t, JSs (cxOf (L2.CX P w) P w K mg base ["d", "x", "k", "result"] "_law_power" (defScope s__law_power) f cdv A outer s H E) E (defBody s__law_power) t (w__law_power a__law_number a__law_multiply) := by
  have hx : Passes (L2.CX P w) (cxOf (L2.CX P w) P w K mg base ["d", "x", "k", "result"] "_law_power" (defScope s__law_power) f cdv A outer s H E) E := px_of (x := "_law_power")
  have hp := po_of (P := P) (w := w) (K := K) (mg := mg) (base := base) (x := "_law_power") (qual := "_law_power") (sc := defScope s__law_power) (f := f) (cdv := cdv) (A := A) (outer := outer) (s := s) (H := H) (E := E) (N := ["d", "x", "k", "result"])
  have hu := Room.units hr
  have nd := sc__law_power.nd
  exact ⟨_, jss_cons (js_set (i := 3) nd rfl (Or.inl rfl) (je_call (K := K) c__law_number hr hx (ja_cons (je_var 0) (ja_cons (je_int) (ja_nil)))))
    (jss_cons (js_while hp (jt_gt (je_var 2) (je_int))
    (jss_cons (js_if (jt_eq (K := K) hu (je_mod (je_intC m_int (ja_cons (je_var 2) (ja_nil))) (je_int)) (je_int))
    (jss_one (js_set (i := 3) nd rfl (Or.inl rfl) (je_call (K := K) c__law_multiply hr hx (ja_cons (je_var 0) (ja_cons (je_var 3) (ja_cons (je_var 1) (ja_nil)))))))
    (jss_nil))
    (jss_cons (js_set (i := 1) nd rfl (Or.inl rfl) (je_call (K := K) c__law_multiply hr hx (ja_cons (je_var 0) (ja_cons (je_var 1) (ja_cons (je_var 1) (ja_nil))))))
    (jss_one (js_set (i := 2) nd rfl (Or.inl rfl) (je_div (je_var 2) (je_int)))))))
    (jss_one (js_ret (je_var 3))))⟩
/-! ### _law_inverse -/
abbrev s__law_inverse : Stmt := topS 31
theorem sc__law_inverse : FnScope ["f", "x"] ["f", "x"] (defScope s__law_inverse) := ⟨rfl, rfl, rfl, by decide +kernel, rfl, by decide +kernel, by decide +kernel⟩
def w__law_inverse (a__law_fraction : ASp) (a__law_power : ASp) : WS :=
  wSeq (wIfS (wTest (wOp fEq (wOp fIx (wVar 0) (wC (.int 0))) (wC (.str "Q"))))
    (wRet (wCB a__law_fraction (wCons (wOp fIx (wVar 1) (wC (.int 1))) (wCons (wOp fIx (wVar 1) (wC (.int 0))) (wNil)))))
    (wNext))
    (wRet (wCB a__law_power (wCons (wVar 0) (wCons (wVar 1) (wCons (wOp fSub (wOp fIx (wVar 0) (wC (.int 1))) (wC (.int 2))) (wNil))))))
theorem j__law_inverse {P : Program} {w : World} {K : PySem.W.Frag} {mg : Str → Option Value} {base : Heap} {k : Nat} {f : Addr} {cdv : Value} {A : Around} {outer : List Env} {s : Shared} {H : Hp} {E : XK} (hr : Room k (A.deeper (envOfC "_law_inverse" (defScope s__law_inverse) s.heap.objs.size f cdv))) {a__law_fraction : ASp} (c__law_fraction : Cal P w K mg base k "_law_fraction" a__law_fraction) {a__law_power : ASp} (c__law_power : Cal P w K mg base k "_law_power" a__law_power) :
    ∃ t, JSs (cxOf (L2.CX P w) P w K mg base ["f", "x"] "_law_inverse" (defScope s__law_inverse) f cdv A outer s H E) E (defBody s__law_inverse) t (w__law_inverse a__law_fraction a__law_power) := by
  have hx : Passes (L2.CX P w) (cxOf (L2.CX P w) P w K mg base ["f", "x"] "_law_inverse" (defScope s__law_inverse) f cdv A outer s H E) E := px_of (x := "_law_inverse")
  have hp := po_of (P := P) (w := w) (K := K) (mg := mg) (base := base) (x := "_law_inverse") (qual := "_law_inverse") (sc := defScope s__law_inverse) (f := f) (cdv := cdv) (A := A) (outer := outer) (s := s) (H := H) (E := E) (N := ["f", "x"])
  have hu := Room.units hr
  have nd := sc__law_inverse.nd
  exact ⟨_, jss_cons (js_if (jt_eq (K := K) hu (je_ix (K := K) (je_var 0) (je_int)) (je_str))
    (jss_one (js_ret (je_call (K := K) c__law_fraction hr hx (ja_cons (je_ix (K := K) (je_var 1) (je_int)) (ja_cons (je_ix (K := K) (je_var 1) (je_int)) (ja_nil))))))
    (jss_nil))
    (jss_one (js_ret (je_call (K := K) c__law_power hr hx (ja_cons (je_var 0) (ja_cons (je_var 1) (ja_cons (je_sub (je_ix (K := K) (je_var 0) (je_int)) (je_int)) (ja_nil)))))))⟩
/-! ### _law_some_prime -/
abbrev s__law_some_prime : Stmt := topS 32
theorem sc__law_some_prime : FnScope ["c", "p", "k"] ["c"] (defScope s__law_some_prime) := ⟨rfl, rfl, rfl, by decide +kernel, rfl, by decide +kernel, by decide +kernel⟩
def w__law_some_prime (a__law_take : ASp) : WS :=
  wSeq (wSet 1 (wOp fAdd (wC (.int 2)) (wCB a__law_take (wCons (wVar 0) (wCons (wC (.int 65520)) (wNil))))))
    (wSeq (wWhile (wTruA (wCB gAny (wCons (wLcA (wiRange2 (wCons (wC (.int 2)) (wCons (wC (.int 257)) (wNil)))) (wgName 2) (wTest (wOp fLe (wOp fMul (wVar 2) (wVar 2)) (wVar 1))) (wOp fEq (wOp fMod (wCB gInt (wCons (wVar 1) (wNil))) (wVar 2)) (wC (.int 0))) [2] finF) (wNil))))
    (wSet 1 (wOp fAdd (wVar 1) (wC (.int 1)))))
    (wRet (wVar 1)))
theorem j__law_some_prime {P : Program} {w : World} {K : PySem.W.Frag} {mg : Str → Option Value} {base : Heap} {k : Nat} {f : Addr} {cdv : Value} {A : Around} {outer : List Env} {s : Shared} {H : Hp} {E : XK} (hr : Room k (A.deeper (envOfC "_law_some_prime" (defScope s__law_some_prime) s.heap.objs.size f cdv))) (m_any : mg "any" = none) (m_range : mg "range" = none) (m_int : mg "int" = none) {a__law_take : ASp} (c__law_take : Cal P w K mg base k "_law_take" a__law_take) :
    ∃ t, JSs (cxOf (L2.CX P w) P w K mg base ["c", "p", "k"] "_law_some_prime" (defScope s__law_some_prime) f cdv A outer s H E) E (defBody s__law_some_prime) t (w__law_some_prime a__law_take) := by
  have hx : Passes (L2.CX P w) (cxOf (L2.CX P w) P w K mg base ["c", "p", "k"] "_law_some_prime" (defScope s__law_some_prime) f cdv A outer s H E) E := px_of (x := "_law_some_prime")
  have hp := po_of (P := P) (w := w) (K := K) (mg := mg) (base := base) (x := "_law_some_prime") (qual := "_law_some_prime") (sc := defScope s__law_some_prime) (f := f) (cdv := cdv) (A := A) (outer := outer) (s := s) (H := H) (E := E) (N := ["c", "p", "k"])
  have hu := Room.units hr
  have nd := sc__law_some_prime.nd
  exact ⟨_, jss_cons (js_set (i := 1) nd rfl (Or.inr rfl) (je_add (K := K) (je_int) (je_call (K := K) c__law_take hr hx (ja_cons (je_var 0) (ja_cons (je_int) (ja_nil))))))
    (jss_cons (js_while hp (jt_tru (K := K) (je_any (K := K) rfl m_any (ja_cons (je_lcA (own := [("k", 2)]) fin_fl rfl nd (ji_range2 m_range (ja_cons (je_int) (ja_cons (je_int) (ja_nil)))) (blkOk_by (N := ["c", "p", "k"]) (sc := defScope s__law_some_prime) (own := [("k", 2)]) (by decide +kernel)) (fun _ _ _ _ _ => jg_name 2 nd rfl (by first | exact Or.inl rfl | exact Or.inr rfl)) (fun _ _ _ _ _ => jts_one (jt_le (je_mul (je_var 2) (je_var 2)) (je_var 1))) (fun _ _ _ _ _ => je_eq (K := K) hu (je_mod (je_intC m_int (ja_cons (je_var 1) (ja_nil))) (je_var 2)) (je_int)) s) (ja_nil))))
    (jss_one (js_set (i := 1) nd rfl (Or.inr rfl) (je_add (K := K) (je_var 1) (je_int)))))
    (jss_one (js_ret (je_var 1))))⟩
/-! ### _law_field -/
abbrev s__law_field : Stmt := topS 33
theorem sc__law_field : FnScope ["c", "primes", "k"] ["c"] (defScope s__law_field) := ⟨rfl, rfl, rfl, by decide +kernel, rfl, by decide +kernel, by decide +kernel⟩
def w__law_field (a__law_take : ASp) (a__law_some_prime : ASp) : WS :=
  wSeq (wSet 1 (wLst (wCons (wC (.int 2)) (wCons (wC (.int 3)) (wCons (wC (.int 5)) (wCons (wC (.int 7)) (wCons (wC (.int 11)) (wCons (wC (.int 101)) (wCons (wC (.int 65521)) (wNil))))))))))
    (wSeq (wSet 2 (wCB a__law_take (wCons (wVar 0) (wCons (wC (.int 14)) (wNil)))))
    (wSeq (wIfS (wTest (wOp fLt (wVar 2) (wC (.int 4))))
    (wRet (wTup (wCons (wC (.str "Q")) (wNil))))
    (wNext))
    (wSeq (wIfS (wTest (wOp fGt (wVar 2) (wC (.int 10))))
    (wRet (wTup (wCons (wC (.str "F")) (wCons (wCB a__law_some_prime (wCons (wVar 0) (wNil))) (wNil)))))
    (wNext))
    (wRet (wTup (wCons (wC (.str "F")) (wCons (wOp fIx (wVar 1) (wOp fSub (wVar 2) (wC (.int 4)))) (wNil))))))))
theorem j__law_field {P : Program} {w : World} {K : PySem.W.Frag} {mg : Str → Option Value} {base : Heap} {k : Nat} {f : Addr} {cdv : Value} {A : Around} {outer : List Env} {s : Shared} {H : Hp} {E : XK} (hr : Room k (A.deeper (envOfC "_law_field" (defScope s__law_field) s.heap.objs.size f cdv))) {a__law_take : ASp} (c__law_take : Cal P w K mg base k "_law_take" a__law_take) {a__law_some_prime : ASp} (c__law_some_prime : Cal P w K mg base k "_law_some_prime" a__law_some_prime) :
    ∃ t, JSs (cxOf (L2.CX P w) P w K mg base ["c", "primes", "k"] "_law_field" (defScope s__law_field) f cdv A outer s H E) E (defBody s__law_field) t (w__law_field a__law_take a__law_some_prime) := by
  have hx : Passes (L2.CX P w) (cxOf (L2.CX P w) P w K mg base ["c", "primes", "k"] "_law_field" (defScope s__law_field) f cdv A outer s H E) E := px_of (x := "_law_field")
  have hp := po_of (P := P) (w := w) (K := K) (mg := mg) (base := base) (x := "_law_field") (qual := "_law_field") (sc := defScope s__law_field) (f := f) (cdv := cdv) (A := A) (outer := outer) (s := s) (H := H) (E := E) (N := ["c", "primes", "k"])
  have hu := Room.units hr
  have nd := sc__law_field.nd
  exact ⟨_, jss_cons (js_set (i := 1) nd rfl (Or.inl rfl) (je_lst (ja_cons (je_int) (ja_cons (je_int) (ja_cons (je_int) (ja_cons (je_int) (ja_cons (je_int) (ja_cons (je_int) (ja_cons (je_int) (ja_nil))))))))))
    (jss_cons (js_set (i := 2) nd rfl (Or.inl rfl) (je_call (K := K) c__law_take hr hx (ja_cons (je_var 0) (ja_cons (je_int) (ja_nil)))))
    (jss_cons (js_if (jt_lt (je_var 2) (je_int))
    (jss_one (js_ret (je_tup (ja_cons (je_str) (ja_nil)))))
    (jss_nil))
    (jss_cons (js_if (jt_gt (je_var 2) (je_int))
    (jss_one (js_ret (je_tup (ja_cons (je_str) (ja_cons (je_call (K := K) c__law_some_prime hr hx (ja_cons (je_var 0) (ja_nil))) (ja_nil))))))
    (jss_nil))
    (jss_one (js_ret (je_tup (ja_cons (je_str) (ja_cons (je_ix (K := K) (je_var 1) (je_sub (je_var 2) (je_int))) (ja_nil)))))))))⟩
/-! ### _law_domain -/
abbrev s__law_domain : Stmt := topS 34
theorem sc__law_domain : FnScope ["c", "k"] ["c"] (defScope s__law_domain) := ⟨rfl, rfl, rfl, by decide +kernel, rfl, by decide +kernel, by decide +kernel⟩
def w__law_domain (a__law_take : ASp) (a__law_field : ASp) : WS :=
  wSeq (wSet 1 (wCB a__law_take (wCons (wVar 0) (wCons (wC (.int 6)) (wNil)))))
    (wSeq (wIfS (wTest (wOp fEq (wVar 1) (wC (.int 0))))
    (wRet (wTup (wCons (wC (.str "Z")) (wNil))))
    (wNext))
    (wSeq (wIfS (wTest (wOp fGt (wVar 1) (wC (.int 3))))
    (wRet (wTup (wCons (wC (.str "P")) (wCons (wCB a__law_field (wCons (wVar 0) (wNil))) (wNil)))))
    (wNext))
    (wRet (wCB a__law_field (wCons (wVar 0) (wNil))))))
theorem j__law_domain {P : Program} {w : World} {K : PySem.W.Frag} {mg : Str → Option Value} {base : Heap} {k : Nat} {f : Addr} {cdv : Value} {A : Around} {outer : List Env} {s : Shared} {H : Hp} {E : XK} (hr : Room k (A.deeper (envOfC "_law_domain" (defScope s__law_domain) s.heap.objs.size f cdv))) {a__law_take : ASp} (c__law_take : Cal P w K mg base k "_law_take" a__law_take) {a__law_field : ASp} (c__law_field : Cal P w K mg base k "_law_field" a__law_field) :
    ∃ t, JSs (cxOf (L2.CX P w) P w K mg base ["c", "k"] "_law_domain" (defScope s__law_domain) f cdv A outer s H E) E (defBody s__law_domain) t (w__law_domain a__law_take a__law_field) := by
  have hx : Passes (L2.CX P w) (cxOf (L2.CX P w) P w K mg base ["c", "k"] "_law_domain" (defScope s__law_domain) f cdv A outer s H E) E := px_of (x := "_law_domain")
  have hp := po_of (P := P) (w := w) (K := K) (mg := mg) (base := base) (x := "_law_domain") (qual := "_law_domain") (sc := defScope s__law_domain) (f := f) (cdv := cdv) (A := A) (outer := outer) (s := s) (H := H) (E := E) (N := ["c", "k"])
  have hu := Room.units hr
  have nd := sc__law_domain.nd
  exact ⟨_, jss_cons (js_set (i := 1) nd rfl (Or.inl rfl) (je_call (K := K) c__law_take hr hx (ja_cons (je_var 0) (ja_cons (je_int) (ja_nil)))))
    (jss_cons (js_if (jt_eq (K := K) hu (je_var 1) (je_int))
    (jss_one (js_ret (je_tup (ja_cons (je_str) (ja_nil)))))
    (jss_nil))
    (jss_cons (js_if (jt_gt (je_var 1) (je_int))
    (jss_one (js_ret (je_tup (ja_cons (je_str) (ja_cons (je_call (K := K) c__law_field hr hx (ja_cons (je_var 0) (ja_nil))) (ja_nil))))))
    (jss_nil))
    (jss_one (js_ret (je_call (K := K) c__law_field hr hx (ja_cons (je_var 0) (ja_nil)))))))⟩
/-! ### _law_integer -/
abbrev s__law_integer : Stmt := topS 35
theorem sc__law_integer : FnScope ["c", "k", "n"] ["c"] (defScope s__law_integer) := ⟨rfl, rfl, rfl, by decide +kernel, rfl, by decide +kernel, by decide +kernel⟩
def w__law_integer (a__law_take : ASp) (a__law_raised : ASp) : WS :=
  wSeq (wSet 1 (wCB a__law_take (wCons (wVar 0) (wCons (wC (.int 8)) (wNil)))))
    (wSeq (wSet 2 (wOp fIx (wLst (wCons (wCB a__law_take (wCons (wVar 0) (wCons (wC (.int 3)) (wNil)))) (wCons (wCB a__law_take (wCons (wVar 0) (wCons (wC (.int 12)) (wNil)))) (wCons (wCB a__law_take (wCons (wVar 0) (wCons (wC (.int 200)) (wNil)))) (wCons (wOp fAdd (wOp fPow (wC (.int 10)) (wC (.int 9))) (wCB a__law_take (wCons (wVar 0) (wCons (wC (.int 99)) (wNil))))) (wCons (wC (.int 0)) (wCons (wC (.int 1)) (wCons (wC (.int 2)) (wCons (wC (.int 5)) (wNil)))))))))) (wVar 1)))
    (wSeq (wIfS (wTest (wOp fEq (wCB a__law_take (wCons (wVar 0) (wCons (wC (.int 40)) (wNil)))) (wC (.int 0))))
    (wSet 2 (wOp fSub (wCB a__law_raised (wCons (wC (.int 10)) (wCons (wOp fAdd (wC (.int 10)) (wCB a__law_take (wCons (wVar 0) (wCons (wC (.int 30)) (wNil))))) (wNil)))) (wCB a__law_take (wCons (wVar 0) (wCons (wC (.int 1000)) (wNil))))))
    (wNext))
    (wSeq (wIfS (wTest (wOp fEq (wCB a__law_take (wCons (wVar 0) (wCons (wC (.int 2)) (wNil)))) (wC (.int 0))))
    (wRet (wOp fSub (wC (.int 0)) (wVar 2)))
    (wNext))
    (wRet (wVar 2)))))
theorem j__law_integer {P : Program} {w : World} {K : PySem.W.Frag} {mg : Str → Option Value} {base : Heap} {k : Nat} {f : Addr} {cdv : Value} {A : Around} {outer : List Env} {s : Shared} {H : Hp} {E : XK} (hr : Room k (A.deeper (envOfC "_law_integer" (defScope s__law_integer) s.heap.objs.size f cdv))) {a__law_take : ASp} (c__law_take : Cal P w K mg base k "_law_take" a__law_take) {a__law_raised : ASp} (c__law_raised : Cal P w K mg base k "_law_raised" a__law_raised) :
    ∃ t, JSs (cxOf (L2.CX P w) P w K mg base ["c", "k", "n"] "_law_integer" (defScope s__law_integer) f cdv A outer s H E) E (defBody s__law_integer) t (w__law_integer a__law_take a__law_raised) := by
  have hx : Passes (L2.CX P w) (cxOf (L2.CX P w) P w K mg base ["c", "k", "n"] "_law_integer" (defScope s__law_integer) f cdv A outer s H E) E := px_of (x := "_law_integer")
  have hp := po_of (P := P) (w := w) (K := K) (mg := mg) (base := base) (x := "_law_integer") (qual := "_law_integer") (sc := defScope s__law_integer) (f := f) (cdv := cdv) (A := A) (outer := outer) (s := s) (H := H) (E := E) (N := ["c", "k", "n"])
  have hu := Room.units hr
  have nd := sc__law_integer.nd
  exact ⟨_, jss_cons (js_set (i := 1) nd rfl (Or.inl rfl) (je_call (K := K) c__law_take hr hx (ja_cons (je_var 0) (ja_cons (je_int) (ja_nil)))))
    (jss_cons (js_set (i := 2) nd rfl (Or.inl rfl) (je_ix (K := K) (je_lst (ja_cons (je_call (K := K) c__law_take hr hx (ja_cons (je_var 0) (ja_cons (je_int) (ja_nil)))) (ja_cons (je_call (K := K) c__law_take hr hx (ja_cons (je_var 0) (ja_cons (je_int) (ja_nil)))) (ja_cons (je_call (K := K) c__law_take hr hx (ja_cons (je_var 0) (ja_cons (je_int) (ja_nil)))) (ja_cons (je_add (K := K) (je_pow (je_int) (je_int)) (je_call (K := K) c__law_take hr hx (ja_cons (je_var 0) (ja_cons (je_int) (ja_nil))))) (ja_cons (je_int) (ja_cons (je_int) (ja_cons (je_int) (ja_cons (je_int) (ja_nil)))))))))) (je_var 1)))
    (jss_cons (js_if (jt_eq (K := K) hu (je_call (K := K) c__law_take hr hx (ja_cons (je_var 0) (ja_cons (je_int) (ja_nil)))) (je_int))
    (jss_one (js_set (i := 2) nd rfl (Or.inl rfl) (je_sub (je_call (K := K) c__law_raised hr hx (ja_cons (je_int) (ja_cons (je_add (K := K) (je_int) (je_call (K := K) c__law_take hr hx (ja_cons (je_var 0) (ja_cons (je_int) (ja_nil))))) (ja_nil)))) (je_call (K := K) c__law_take hr hx (ja_cons (je_var 0) (ja_cons (je_int) (ja_nil)))))))
    (jss_nil))
    (jss_cons (js_if (jt_eq (K := K) hu (je_call (K := K) c__law_take hr hx (ja_cons (je_var 0) (ja_cons (je_int) (ja_nil)))) (je_int))
    (jss_one (js_ret (je_sub (je_int) (je_var 2))))
    (jss_nil))
    (jss_one (js_ret (je_var 2))))))⟩
/-! ### _law_element -/
abbrev s__law_element : Stmt := topS 36
theorem sc__law_element : FnScope ["c", "d", "n", "k"] ["c", "d"] (defScope s__law_element) := ⟨rfl, rfl, rfl, by decide +kernel, rfl, by decide +kernel, by decide +kernel⟩
def w__law_element (a__law_integer : ASp) (a__law_take : ASp) (a__law_fraction : ASp) (a__law_strip : ASp) (a__law_small : ASp) : WS :=
  wSeq (wSet 2 (wCB a__law_integer (wCons (wVar 0) (wNil))))
    (wSeq (wIfS (wTest (wOp fGt (wCB gAbs (wCons (wVar 2) (wNil))) (wOp fPow (wC (.int 10)) (wC (.int 12)))))
    (wSet 2 (wOp fMul (wOp fMod (wCB gInt (wCons (wVar 2) (wNil))) (wOp fPow (wC (.int 10)) (wC (.int 12)))) (wOp fIx (wLst (wCons (wC (.int 1)) (wCons (wOp fSub (wC (.int 0)) (wC (.int 1))) (wNil)))) (wCB a__law_take (wCons (wVar 0) (wCons (wC (.int 2)) (wNil)))))))
    (wNext))
    (wSeq (wIfS (wTest (wOp fEq (wOp fIx (wVar 1) (wC (.int 0))) (wC (.str "F"))))
    (wRet (wOp fMod (wCB gInt (wCons (wCB a__law_take (wCons (wVar 0) (wCons (wC (.int 65536)) (wNil)))) (wNil))) (wOp fIx (wVar 1) (wC (.int 1)))))
    (wNext))
    (wSeq (wIfS (wTest (wOp fEq (wOp fIx (wVar 1) (wC (.int 0))) (wC (.str "Q"))))
    (wRet (wCB a__law_fraction (wCons (wVar 2) (wCons (wOp fIx (wLst (wCons (wC (.int 1)) (wCons (wC (.int 1)) (wCons (wC (.int 2)) (wCons (wC (.int 3)) (wCons (wOp fAdd (wC (.int 1)) (wCB a__law_take (wCons (wVar 0) (wCons (wC (.int 50)) (wNil))))) (wNil))))))) (wCB a__law_take (wCons (wVar 0) (wCons (wC (.int 5)) (wNil))))) (wNil)))))
    (wNext))
    (wSeq (wIfS (wTest (wOp fEq (wOp fIx (wVar 1) (wC (.int 0))) (wC (.str "P"))))
    (wRet (wCB a__law_strip (wCons (wOp fIx (wVar 1) (wC (.int 1))) (wCons (wLcA (wiRange1 (wCons (wCB a__law_take (wCons (wVar 0) (wCons (wC (.int 5)) (wNil)))) (wNil))) (wgName 3) (wYes) (wCB a__law_small (wCons (wVar 0) (wCons (wOp fIx (wVar 1) (wC (.int 1))) (wNil)))) [3] finF) (wNil)))))
    (wNext))
    (wRet (wVar 2))))))
theorem j__law_element {P : Program} {w : World} {K : PySem.W.Frag} {mg : Str → Option Value} {base : Heap} {k : Nat} {f : Addr} {cdv : Value} {A : Around} {outer : List Env} {s : Shared} {H : Hp} {E : XK} (hr : Room k (A.deeper (envOfC "_law_element" (defScope s__law_element) s.heap.objs.size f cdv))) (m_abs : mg "abs" = none) (m_int : mg "int" = none) (m_range : mg "range" = none) {a__law_integer : ASp} (c__law_integer : Cal P w K mg base k "_law_integer" a__law_integer) {a__law_take : ASp} (c__law_take : Cal P w K mg base k "_law_take" a__law_take) {a__law_fraction : ASp} (c__law_fraction : Cal P w K mg base k "_law_fraction" a__law_fraction) {a__law_strip : ASp} (c__law_strip : Cal P w K mg base k "_law_strip" a__law_strip) {a__law_small : ASp} (c__law_small : Cal P w K mg base k "_law_small" a__law_small) :
    ∃ t, JSs (cxOf (L2.CX P w) P w K mg base ["c", "d", "n", "k"] "_law_element" (defScope s__law_element) f cdv A outer s H E) E (defBody s__law_element) t (w__law_element a__law_integer a__law_take a__law_fraction a__law_strip a__law_small) := by
  have hx : Passes (L2.CX P w) (cxOf (L2.CX P w) P w K mg base ["c", "d", "n", "k"] "_law_element" (defScope s__law_element) f cdv A outer s H E) E := px_of (x := "_law_element")
  have hp := po_of (P := P) (w := w) (K := K) (mg := mg) (base := base) (x := "_law_element") (qual := "_law_element") (sc := defScope s__law_element) (f := f) (cdv := cdv) (A := A) (outer := outer) (s := s) (H := H) (E := E) (N := ["c", "d", "n", "k"])
  have hu := Room.units hr
  have nd := sc__law_element.nd
  exact ⟨_, jss_cons (js_set (i := 2) nd rfl (Or.inl rfl) (je_call (K := K) c__law_integer hr hx (ja_cons (je_var 0) (ja_nil))))
    (jss_cons (js_if (jt_gt (je_abs m_abs (ja_cons (je_var 2) (ja_nil))) (je_pow (je_int) (je_int)))
    (jss_one (js_set (i := 2) nd rfl (Or.inl rfl) (je_mul (je_mod (je_intC m_int (ja_cons (je_var 2) (ja_nil))) (je_pow (je_int) (je_int))) (je_ix (K := K) (je_lst (ja_cons (je_int) (ja_cons (je_sub (je_int) (je_int)) (ja_nil)))) (je_call (K := K) c__law_take hr hx (ja_cons (je_var 0) (ja_cons (je_int) (ja_nil))))))))
    (jss_nil))
    (jss_cons (js_if (jt_eq (K := K) hu (je_ix (K := K) (je_var 1) (je_int)) (je_str))
    (jss_one (js_ret (je_mod (je_intC m_int (ja_cons (je_call (K := K) c__law_take hr hx (ja_cons (je_var 0) (ja_cons (je_int) (ja_nil)))) (ja_nil))) (je_ix (K := K) (je_var 1) (je_int)))))
    (jss_nil))
    (jss_cons (js_if (jt_eq (K := K) hu (je_ix (K := K) (je_var 1) (je_int)) (je_str))
    (jss_one (js_ret (je_call (K := K) c__law_fraction hr hx (ja_cons (je_var 2) (ja_cons (je_ix (K := K) (je_lst (ja_cons (je_int) (ja_cons (je_int) (ja_cons (je_int) (ja_cons (je_int) (ja_cons (je_add (K := K) (je_int) (je_call (K := K) c__law_take hr hx (ja_cons (je_var 0) (ja_cons (je_int) (ja_nil))))) (ja_nil))))))) (je_call (K := K) c__law_take hr hx (ja_cons (je_var 0) (ja_cons (je_int) (ja_nil))))) (ja_nil))))))
    (jss_nil))
    (jss_cons (js_if (jt_eq (K := K) hu (je_ix (K := K) (je_var 1) (je_int)) (je_str))
    (jss_one (js_ret (je_call (K := K) c__law_strip hr hx (ja_cons (je_ix (K := K) (je_var 1) (je_int)) (ja_cons (je_lcA (own := [("k", 3)]) fin_fl rfl nd (ji_range1 m_range (ja_cons (je_call (K := K) c__law_take hr hx (ja_cons (je_var 0) (ja_cons (je_int) (ja_nil)))) (ja_nil))) (blkOk_by (N := ["c", "d", "n", "k"]) (sc := defScope s__law_element) (own := [("k", 3)]) (by decide +kernel)) (fun _ _ _ _ _ => jg_name 3 nd rfl (by first | exact Or.inl rfl | exact Or.inr rfl)) (fun _ _ _ _ _ => jts_nil) (fun _ _ _ _ _ => je_call (K := K) c__law_small hr passL (ja_cons (je_var 0) (ja_cons (je_ix (K := K) (je_var 1) (je_int)) (ja_nil)))) s) (ja_nil))))))
    (jss_nil))
    (jss_one (js_ret (je_var 2)))))))⟩
/-! ### _law_small -/
abbrev s__law_small : Stmt := topS 37
theorem sc__law_small : FnScope ["c", "d", "k"] ["c", "d"] (defScope s__law_small) := ⟨rfl, rfl, rfl, by decide +kernel, rfl, by decide +kernel, by decide +kernel⟩
def w__law_small (a__law_take : ASp) (a__law_fraction : ASp) (a__law_strip : ASp) (a__law_small : ASp) : WS :=
  wSeq (wIfS (wTest (wOp fEq (wOp fIx (wVar 1) (wC (.int 0))) (wC (.str "F"))))
    (wRet (wOp fMod (wCB gInt (wCons (wCB a__law_take (wCons (wVar 0) (wCons (wC (.int 65536)) (wNil)))) (wNil))) (wOp fIx (wVar 1) (wC (.int 1)))))
    (wNext))
    (wSeq (wIfS (wTest (wOp fEq (wOp fIx (wVar 1) (wC (.int 0))) (wC (.str "Q"))))
    (wRet (wCB a__law_fraction (wCons (wOp fSub (wCB a__law_take (wCons (wVar 0) (wCons (wC (.int 9)) (wNil)))) (wC (.int 4))) (wCons (wOp fAdd (wC (.int 1)) (wCB a__law_take (wCons (wVar 0) (wCons (wC (.int 3)) (wNil))))) (wNil)))))
    (wNext))
    (wSeq (wIfS (wTest (wOp fEq (wOp fIx (wVar 1) (wC (.int 0))) (wC (.str "P"))))
    (wRet (wCB a__law_strip (wCons (wOp fIx (wVar 1) (wC (.int 1))) (wCons (wLcA (wiRange1 (wCons (wCB a__law_take (wCons (wVar 0) (wCons (wC (.int 3)) (wNil)))) (wNil))) (wgName 2) (wYes) (wCB a__law_small (wCons (wVar 0) (wCons (wOp fIx (wVar 1) (wC (.int 1))) (wNil)))) [2] finF) (wNil)))))
    (wNext))
    (wRet (wOp fIx (wLst (wCons (wOp fSub (wCB a__law_take (wCons (wVar 0) (wCons (wC (.int 9)) (wNil)))) (wC (.int 4))) (wCons (wC (.int 0)) (wCons (wC (.int 0)) (wCons (wC (.int 1)) (wCons (wOp fSub (wCB a__law_take (wCons (wVar 0) (wCons (wC (.int 99)) (wNil)))) (wC (.int 49))) (wNil))))))) (wCB a__law_take (wCons (wVar 0) (wCons (wC (.int 5)) (wNil))))))))
theorem j__law_small {P : Program} {w : World} {K : PySem.W.Frag} {mg : Str → Option Value} {base : Heap} {k : Nat} {f : Addr} {cdv : Value} {A : Around} {outer : List Env} {s : Shared} {H : Hp} {E : XK} (hr : Room k (A.deeper (envOfC "_law_small" (defScope s__law_small) s.heap.objs.size f cdv))) (m_int : mg "int" = none) (m_range : mg "range" = none) {a__law_take : ASp} (c__law_take : Cal P w K mg base k "_law_take" a__law_take) {a__law_fraction : ASp} (c__law_fraction : Cal P w K mg base k "_law_fraction" a__law_fraction) {a__law_strip : ASp} (c__law_strip : Cal P w K mg base k "_law_strip" a__law_strip) {a__law_small : ASp} (c__law_small : Cal P w K mg base k "_law_small" a__law_small) :
    ∃ t, JSs (cxOf (L2.CX P w) P w K mg base ["c", "d", "k"] "_law_small" (defScope s__law_small) f cdv A outer s H E) E (defBody s__law_small) t (w__law_small a__law_take a__law_fraction a__law_strip a__law_small) := by
  have hx : Passes (L2.CX P w) (cxOf (L2.CX P w) P w K mg base ["c", "d", "k"] "_law_small" (defScope s__law_small) f cdv A outer s H E) E := px_of (x := "_law_small")
  have hp := po_of (P := P) (w := w) (K := K) (mg := mg) (base := base) (x := "_law_small") (qual := "_law_small") (sc := defScope s__law_small) (f := f) (cdv := cdv) (A := A) (outer := outer) (s := s) (H := H) (E := E) (N := ["c", "d", "k"])
  have hu := Room.units hr
  have nd := sc__law_small.nd
  exact ⟨_, jss_cons (js_if (jt_eq (K := K) hu (je_ix (K := K) (je_var 1) (je_int)) (je_str))
    (jss_one (js_ret (je_mod (je_intC m_int (ja_cons (je_call (K := K) c__law_take hr hx (ja_cons (je_var 0) (ja_cons (je_int) (ja_nil)))) (ja_nil))) (je_ix (K := K) (je_var 1) (je_int)))))
    (jss_nil))
    (jss_cons (js_if (jt_eq (K := K) hu (je_ix (K := K) (je_var 1) (je_int)) (je_str))
    (jss_one (js_ret (je_call (K := K) c__law_fraction hr hx (ja_cons (je_sub (je_call (K := K) c__law_take hr hx (ja_cons (je_var 0) (ja_cons (je_int) (ja_nil)))) (je_int)) (ja_cons (je_add (K := K) (je_int) (je_call (K := K) c__law_take hr hx (ja_cons (je_var 0) (ja_cons (je_int) (ja_nil))))) (ja_nil))))))
    (jss_nil))
    (jss_cons (js_if (jt_eq (K := K) hu (je_ix (K := K) (je_var 1) (je_int)) (je_str))
    (jss_one (js_ret (je_call (K := K) c__law_strip hr hx (ja_cons (je_ix (K := K) (je_var 1) (je_int)) (ja_cons (je_lcA (own := [("k", 2)]) fin_fl rfl nd (ji_range1 m_range (ja_cons (je_call (K := K) c__law_take hr hx (ja_cons (je_var 0) (ja_cons (je_int) (ja_nil)))) (ja_nil))) (blkOk_by (N := ["c", "d", "k"]) (sc := defScope s__law_small) (own := [("k", 2)]) (by decide +kernel)) (fun _ _ _ _ _ => jg_name 2 nd rfl (by first | exact Or.inl rfl | exact Or.inr rfl)) (fun _ _ _ _ _ => jts_nil) (fun _ _ _ _ _ => je_call (K := K) c__law_small hr passL (ja_cons (je_var 0) (ja_cons (je_ix (K := K) (je_var 1) (je_int)) (ja_nil)))) s) (ja_nil))))))
    (jss_nil))
    (jss_one (js_ret (je_ix (K := K) (je_lst (ja_cons (je_sub (je_call (K := K) c__law_take hr hx (ja_cons (je_var 0) (ja_cons (je_int) (ja_nil)))) (je_int)) (ja_cons (je_int) (ja_cons (je_int) (ja_cons (je_int) (ja_cons (je_sub (je_call (K := K) c__law_take hr hx (ja_cons (je_var 0) (ja_cons (je_int) (ja_nil)))) (je_int)) (ja_nil))))))) (je_call (K := K) c__law_take hr hx (ja_cons (je_var 0) (ja_cons (je_int) (ja_nil)))))))))⟩
/-! ### _law_matrix -/
abbrev s__law_matrix : Stmt := topS 38
theorem sc__law_matrix : FnScope ["c", "d", "m", "n", "i", "j"] ["c", "d", "m", "n"] (defScope s__law_matrix) := ⟨rfl, rfl, rfl, by decide +kernel, rfl, by decide +kernel, by decide +kernel⟩
def w__law_matrix (a__law_small : ASp) : WS :=
  wRet (wTup (wCons (wVar 2) (wCons (wVar 3) (wCons (wCB gTuple (wCons (wLcA (wiRange1 (wCons (wVar 2) (wNil))) (wgName 4) (wYes) (wCB gTuple (wCons (wLcA (wiRange1 (wCons (wVar 3) (wNil))) (wgName 5) (wYes) (wCB a__law_small (wCons (wVar 0) (wCons (wVar 1) (wNil)))) [5] finF) (wNil))) [4] finF) (wNil))) (wNil)))))
theorem j__law_matrix {P : Program} {w : World} {K : PySem.W.Frag} {mg : Str → Option Value} {base : Heap} {k : Nat} {f : Addr} {cdv : Value} {A : Around} {outer : List Env} {s : Shared} {H : Hp} {E : XK} (hr : Room k (A.deeper (envOfC "_law_matrix" (defScope s__law_matrix) s.heap.objs.size f cdv))) (m_tuple : mg "tuple" = none) (m_range : mg "range" = none) {a__law_small : ASp} (c__law_small : Cal P w K mg base k "_law_small" a__law_small) :
    ∃ t, JSs (cxOf (L2.CX P w) P w K mg base ["c", "d", "m", "n", "i", "j"] "_law_matrix" (defScope s__law_matrix) f cdv A outer s H E) E (defBody s__law_matrix) t (w__law_matrix a__law_small) := by
  have hx : Passes (L2.CX P w) (cxOf (L2.CX P w) P w K mg base ["c", "d", "m", "n", "i", "j"] "_law_matrix" (defScope s__law_matrix) f cdv A outer s H E) E := px_of (x := "_law_matrix")
  have hp := po_of (P := P) (w := w) (K := K) (mg := mg) (base := base) (x := "_law_matrix") (qual := "_law_matrix") (sc := defScope s__law_matrix) (f := f) (cdv := cdv) (A := A) (outer := outer) (s := s) (H := H) (E := E) (N := ["c", "d", "m", "n", "i", "j"])
  have hu := Room.units hr
  have nd := sc__law_matrix.nd
  exact ⟨_, jss_one (js_ret (je_tup (ja_cons (je_var 2) (ja_cons (je_var 3) (ja_cons (je_tuple (K := K) m_tuple (ja_cons (je_lcA (own := [("i", 4)]) fin_fl rfl nd (ji_range1 m_range (ja_cons (je_var 2) (ja_nil))) (blkOk_by (N := ["c", "d", "m", "n", "i", "j"]) (sc := defScope s__law_matrix) (own := [("i", 4)]) (by decide +kernel)) (fun _ _ _ _ _ => jg_name 4 nd rfl (by first | exact Or.inl rfl | exact Or.inr rfl)) (fun _ _ _ _ _ => jts_nil) (fun _ _ _ _ _ => je_tuple (K := K) m_tuple (ja_cons (je_lcA (own := [("j", 5)]) fin_fl rfl nd (ji_range1 m_range (ja_cons (je_var 3) (ja_nil))) (blkOk_by (N := ["c", "d", "m", "n", "i", "j"]) (own := [("j", 5)]) (by show blkC _ (relS _ (defScope s__law_matrix)) _ _ = true; decide +kernel)) (fun _ _ _ _ _ => jg_name 5 nd rfl (by first | exact Or.inl rfl | exact Or.inr rfl)) (fun _ _ _ _ _ => jts_nil) (fun _ _ _ _ _ => je_call (K := K) c__law_small hr passL (ja_cons (je_var 0) (ja_cons (je_var 1) (ja_nil)))) s) (ja_nil))) s) (ja_nil))) (ja_nil))))))⟩
/-! ### _law_dot -/
abbrev s__law_dot : Stmt := topS 39
theorem sc__law_dot : FnScope ["d", "u", "v", "total", "k"] ["d", "u", "v"] (defScope s__law_dot) := ⟨rfl, rfl, rfl, by decide +kernel, rfl, by decide +kernel, by decide +kernel⟩
def w__law_dot (a__law_zero : ASp) (a__law_add : ASp) (a__law_multiply : ASp) : WS :=
  wSeq (wSet 3 (wCB a__law_zero (wCons (wVar 0) (wNil))))
    (wSeq (wFor (wiRange1 (wCons (wCB gLen (wCons (wVar 1) (wNil))) (wNil))) (wgName 4)
    (wSet 3 (wCB a__law_add (wCons (wVar 0) (wCons (wVar 3) (wCons (wCB a__law_multiply (wCons (wVar 0) (wCons (wOp fIx (wVar 1) (wVar 4)) (wCons (wOp fIx (wVar 2) (wVar 4)) (wNil))))) (wNil)))))))
    (wRet (wVar 3)))
theorem j__law_dot {P : Program} {w : World} {K : PySem.W.Frag} {mg : Str → Option Value} {base : Heap} {k : Nat} {f : Addr} {cdv : Value} {A : Around} {outer : List Env} {s : Shared} {H : Hp} {E : XK} (hr : Room k (A.deeper (envOfC "_law_dot" (defScope s__law_dot) s.heap.objs.size f cdv))) (m_range : mg "range" = none) (m_len : mg "len" = none) {a__law_zero : ASp} (c__law_zero : Cal P w K mg base k "_law_zero" a__law_zero) {a__law_add : ASp} (c__law_add : Cal P w K mg base k "_law_add" a__law_add) {a__law_multiply : ASp} (c__law_multiply : Cal P w K mg base k "_law_multiply" a__law_multiply) :
    ∃ t, JSs (cxOf (L2.CX P w) P w K mg base ["d", "u", "v", "total", "k"] "_law_dot" (defScope s__law_dot) f cdv A outer s H E) E (defBody s__law_dot) t (w__law_dot a__law_zero a__law_add a__law_multiply) := by
  have hx : Passes (L2.CX P w) (cxOf (L2.CX P w) P w K mg base ["d", "u", "v", "total", "k"] "_law_dot" (defScope s__law_dot) f cdv A outer s H E) E := px_of (x := "_law_dot")
  have hp := po_of (P := P) (w := w) (K := K) (mg := mg) (base := base) (x := "_law_dot") (qual := "_law_dot") (sc := defScope s__law_dot) (f := f) (cdv := cdv) (A := A) (outer := outer) (s := s) (H := H) (E := E) (N := ["d", "u", "v", "total", "k"])
  have hu := Room.units hr
  have nd := sc__law_dot.nd
  exact ⟨_, jss_cons (js_set (i := 3) nd rfl (Or.inl rfl) (je_call (K := K) c__law_zero hr hx (ja_cons (je_var 0) (ja_nil))))
    (jss_cons (js_for (vs := [4]) hp rfl (ji_range1 m_range (ja_cons (je_len (K := K) m_len (ja_cons (je_var 1) (ja_nil))) (ja_nil))) (jg_name 4 nd rfl (by first | exact Or.inl rfl | exact Or.inr rfl))
    (jss_one (js_set (i := 3) nd rfl (Or.inl rfl) (je_call (K := K) c__law_add hr hx (ja_cons (je_var 0) (ja_cons (je_var 3) (ja_cons (je_call (K := K) c__law_multiply hr hx (ja_cons (je_var 0) (ja_cons (je_ix (K := K) (je_var 1) (je_var 4)) (ja_cons (je_ix (K := K) (je_var 2) (je_var 4)) (ja_nil))))) (ja_nil))))))))
    (jss_one (js_ret (je_var 3))))⟩
/-! ### _law_column -/
abbrev s__law_column : Stmt := topS 40
theorem sc__law_column : FnScope ["a", "j", "row"] ["a", "j"] (defScope s__law_column) := ⟨rfl, rfl, rfl, by decide +kernel, rfl, by decide +kernel, by decide +kernel⟩
def w__law_column : WS :=
  wRet (wCB gTuple (wCons (wLcA (wiItems (wOp fIx (wVar 0) (wC (.int 2)))) (wgName 2) (wYes) (wOp fIx (wVar 2) (wVar 1)) [2] finF) (wNil)))
theorem j__law_column {P : Program} {w : World} {K : PySem.W.Frag} {mg : Str → Option Value} {base : Heap} {k : Nat} {f : Addr} {cdv : Value} {A : Around} {outer : List Env} {s : Shared} {H : Hp} {E : XK} (hr : Room k (A.deeper (envOfC "_law_column" (defScope s__law_column) s.heap.objs.size f cdv))) (m_tuple : mg "tuple" = none) :
    ∃ t, JSs (cxOf (L2.CX P w) P w K mg base ["a", "j", "row"] "_law_column" (defScope s__law_column) f cdv A outer s H E) E (defBody s__law_column) t (w__law_column) := by
  have hx : Passes (L2.CX P w) (cxOf (L2.CX P w) P w K mg base ["a", "j", "row"] "_law_column" (defScope s__law_column) f cdv A outer s H E) E := px_of (x := "_law_column")
  have hp := po_of (P := P) (w := w) (K := K) (mg := mg) (base := base) (x := "_law_column") (qual := "_law_column") (sc := defScope s__law_column) (f := f) (cdv := cdv) (A := A) (outer := outer) (s := s) (H := H) (E := E) (N := ["a", "j", "row"])
  have hu := Room.units hr
  have nd := sc__law_column.nd
  exact ⟨_, jss_one (js_ret (je_tuple (K := K) m_tuple (ja_cons (je_lcA (own := [("row", 2)]) fin_fl rfl nd (ji_items (K := K) (je_ix (K := K) (je_var 0) (je_int))) (blkOk_by (N := ["a", "j", "row"]) (sc := defScope s__law_column) (own := [("row", 2)]) (by decide +kernel)) (fun _ _ _ _ _ => jg_name 2 nd rfl (by first | exact Or.inl rfl | exact Or.inr rfl)) (fun _ _ _ _ _ => jts_nil) (fun _ _ _ _ _ => je_ix (K := K) (je_var 2) (je_var 1)) s) (ja_nil))))⟩
/-! ### _law_product -/
abbrev s__law_product : Stmt := topS 41
theorem sc__law_product : FnScope ["d", "a", "b", "columns", "j", "row", "column"] ["d", "a", "b"] (defScope s__law_product) := ⟨rfl, rfl, rfl, by decide +kernel, rfl, by decide +kernel, by decide +kernel⟩
def w__law_product (a__law_column : ASp) (a__law_dot : ASp) : WS :=
  wSeq (wSet 3 (wLcA (wiRange1 (wCons (wOp fIx (wVar 2) (wC (.int 1))) (wNil))) (wgName 4) (wYes) (wCB a__law_column (wCons (wVar 2) (wCons (wVar 4) (wNil)))) [4] finF))
    (wRet (wTup (wCons (wOp fIx (wVar 1) (wC (.int 0))) (wCons (wOp fIx (wVar 2) (wC (.int 1))) (wCons (wCB gTuple (wCons (wLcA (wiItems (wOp fIx (wVar 1) (wC (.int 2)))) (wgName 5) (wYes) (wCB gTuple (wCons (wLcA (wiItems (wVar 3)) (wgName 6) (wYes) (wCB a__law_dot (wCons (wVar 0) (wCons (wVar 5) (wCons (wVar 6) (wNil))))) [6] finF) (wNil))) [5] finF) (wNil))) (wNil))))))
theorem j__law_product {P : Program} {w : World} {K : PySem.W.Frag} {mg : Str → Option Value} {base : Heap} {k : Nat} {f : Addr} {cdv : Value} {A : Around} {outer : List Env} {s : Shared} {H : Hp} {E : XK} (hr : Room k (A.deeper (envOfC "_law_product" (defScope s__law_product) s.heap.objs.size f cdv))) (m_range : mg "range" = none) (m_tuple : mg "tuple" = none) {a__law_column : ASp} (c__law_column : Cal P w K mg base k "_law_column" a__law_column) {a__law_dot : ASp} (c__law_dot : Cal P w K mg base k "_law_dot" a__law_dot) :
    ∃ t, JSs (cxOf (L2.CX P w) P w K mg base ["d", "a", "b", "columns", "j", "row", "column"] "_law_product" (defScope s__law_product) f cdv A outer s H E) E (defBody s__law_product) t (w__law_product a__law_column a__law_dot) := by
  have hx : Passes (L2.CX P w) (cxOf (L2.CX P w) P w K mg base ["d", "a", "b", "columns", "j", "row", "column"] "_law_product" (defScope s__law_product) f cdv A outer s H E) E := px_of (x := "_law_product")
  have hp := po_of (P := P) (w := w) (K := K) (mg := mg) (base := base) (x := "_law_product") (qual := "_law_product") (sc := defScope s__law_product) (f := f) (cdv := cdv) (A := A) (outer := outer) (s := s) (H := H) (E := E) (N := ["d", "a", "b", "columns", "j", "row", "column"])
  have hu := Room.units hr
  have nd := sc__law_product.nd
  exact ⟨_, jss_cons (js_set (i := 3) nd rfl (Or.inr rfl) (je_lcA (own := [("j", 4)]) fin_fl rfl nd (ji_range1 m_range (ja_cons (je_ix (K := K) (je_var 2) (je_int)) (ja_nil))) (blkOk_by (N := ["d", "a", "b", "columns", "j", "row", "column"]) (sc := defScope s__law_product) (own := [("j", 4)]) (by decide +kernel)) (fun _ _ _ _ _ => jg_name 4 nd rfl (by first | exact Or.inl rfl | exact Or.inr rfl)) (fun _ _ _ _ _ => jts_nil) (fun _ _ _ _ _ => je_call (K := K) c__law_column hr passL (ja_cons (je_var 2) (ja_cons (je_var 4) (ja_nil)))) s))
    (jss_one (js_ret (je_tup (ja_cons (je_ix (K := K) (je_var 1) (je_int)) (ja_cons (je_ix (K := K) (je_var 2) (je_int)) (ja_cons (je_tuple (K := K) m_tuple (ja_cons (je_lcA (own := [("row", 5)]) fin_fl rfl nd (ji_items (K := K) (je_ix (K := K) (je_var 1) (je_int))) (blkOk_by (N := ["d", "a", "b", "columns", "j", "row", "column"]) (sc := defScope s__law_product) (own := [("row", 5)]) (by decide +kernel)) (fun _ _ _ _ _ => jg_name 5 nd rfl (by first | exact Or.inl rfl | exact Or.inr rfl)) (fun _ _ _ _ _ => jts_nil) (fun _ _ _ _ _ => je_tuple (K := K) m_tuple (ja_cons (je_lcA (own := [("column", 6)]) fin_fl rfl nd (ji_items (K := K) (je_var 3)) (blkOk_by (N := ["d", "a", "b", "columns", "j", "row", "column"]) (own := [("column", 6)]) (by show blkC _ (relS _ (defScope s__law_product)) _ _ = true; decide +kernel)) (fun _ _ _ _ _ => jg_name 6 nd rfl (by first | exact Or.inl rfl | exact Or.inr rfl)) (fun _ _ _ _ _ => jts_nil) (fun _ _ _ _ _ => je_call (K := K) c__law_dot hr passL (ja_cons (je_var 0) (ja_cons (je_var 5) (ja_cons (je_var 6) (ja_nil))))) s) (ja_nil))) s) (ja_nil))) (ja_nil)))))))⟩
/-! ### _law_identity -/
abbrev s__law_identity : Stmt := topS 42
theorem sc__law_identity : FnScope ["d", "n", "units", "i", "j"] ["d", "n"] (defScope s__law_identity) := ⟨rfl, rfl, rfl, by decide +kernel, rfl, by decide +kernel, by decide +kernel⟩
def w__law_identity (a__law_number : ASp) : WS :=
  wSeq (wSet 2 (wLst (wCons (wCB a__law_number (wCons (wVar 0) (wCons (wC (.int 0)) (wNil)))) (wCons (wCB a__law_number (wCons (wVar 0) (wCons (wC (.int 1)) (wNil)))) (wNil)))))
    (wRet (wTup (wCons (wVar 1) (wCons (wVar 1) (wCons (wCB gTuple (wCons (wLcA (wiRange1 (wCons (wVar 1) (wNil))) (wgName 3) (wYes) (wCB gTuple (wCons (wLcA (wiRange1 (wCons (wVar 1) (wNil))) (wgName 4) (wYes) (wOp fIx (wVar 2) (wCB gInt (wCons (wOp fEq (wVar 3) (wVar 4)) (wNil)))) [4] finF) (wNil))) [3] finF) (wNil))) (wNil))))))
theorem j__law_identity {P : Program} {w : World} {K : PySem.W.Frag} {mg : Str → Option Value} {base : Heap} {k : Nat} {f : Addr} {cdv : Value} {A : Around} {outer : List Env} {s : Shared} {H : Hp} {E : XK} (hr : Room k (A.deeper (envOfC "_law_identity" (defScope s__law_identity) s.heap.objs.size f cdv))) (m_tuple : mg "tuple" = none) (m_range : mg "range" = none) (m_int : mg "int" = none) {a__law_number : ASp} (c__law_number : Cal P w K mg base k "_law_number" a__law_number) :
    ∃ t, JSs (cxOf (L2.CX P w) P w K mg base ["d", "n", "units", "i", "j"] "_law_identity" (defScope s__law_identity) f cdv A outer s H E) E (defBody s__law_identity) t (w__law_identity a__law_number) := by
  have hx : Passes (L2.CX P w) (cxOf (L2.CX P w) P w K mg base ["d", "n", "units", "i", "j"] "_law_identity" (defScope s__law_identity) f cdv A outer s H E) E := px_of (x := "_law_identity")
  have hp := po_of (P := P) (w := w) (K := K) (mg := mg) (base := base) (x := "_law_identity") (qual := "_law_identity") (sc := defScope s__law_identity) (f := f) (cdv := cdv) (A := A) (outer := outer) (s := s) (H := H) (E := E) (N := ["d", "n", "units", "i", "j"])
  have hu := Room.units hr
  have nd := sc__law_identity.nd
  exact ⟨_, jss_cons (js_set (i := 2) nd rfl (Or.inr rfl) (je_lst (ja_cons (je_call (K := K) c__law_number hr hx (ja_cons (je_var 0) (ja_cons (je_int) (ja_nil)))) (ja_cons (je_call (K := K) c__law_number hr hx (ja_cons (je_var 0) (ja_cons (je_int) (ja_nil)))) (ja_nil)))))
    (jss_one (js_ret (je_tup (ja_cons (je_var 1) (ja_cons (je_var 1) (ja_cons (je_tuple (K := K) m_tuple (ja_cons (je_lcA (own := [("i", 3)]) fin_fl rfl nd (ji_range1 m_range (ja_cons (je_var 1) (ja_nil))) (blkOk_by (N := ["d", "n", "units", "i", "j"]) (sc := defScope s__law_identity) (own := [("i", 3)]) (by decide +kernel)) (fun _ _ _ _ _ => jg_name 3 nd rfl (by first | exact Or.inl rfl | exact Or.inr rfl)) (fun _ _ _ _ _ => jts_nil) (fun _ _ _ _ _ => je_tuple (K := K) m_tuple (ja_cons (je_lcA (own := [("j", 4)]) fin_fl rfl nd (ji_range1 m_range (ja_cons (je_var 1) (ja_nil))) (blkOk_by (N := ["d", "n", "units", "i", "j"]) (own := [("j", 4)]) (by show blkC _ (relS _ (defScope s__law_identity)) _ _ = true; decide +kernel)) (fun _ _ _ _ _ => jg_name 4 nd rfl (by first | exact Or.inl rfl | exact Or.inr rfl)) (fun _ _ _ _ _ => jts_nil) (fun _ _ _ _ _ => je_ix (K := K) (je_var 2) (je_intC m_int (ja_cons (je_eq (K := K) hu (je_var 3) (je_var 4)) (ja_nil)))) s) (ja_nil))) s) (ja_nil))) (ja_nil)))))))⟩
/-! ### _law_low -/
abbrev s__law_low : Stmt := topS 43
theorem sc__law_low : FnScope ["c", "m", "n", "d", "k", "r"] ["c", "m", "n"] (defScope s__law_low) := ⟨rfl, rfl, rfl, by decide +kernel, rfl, by decide +kernel, by decide +kernel⟩
def w__law_low (a__law_take : ASp) (a__law_matrix : ASp) (a__law_product : ASp) : WS :=
  wSeq (wSet 3 (wTup (wCons (wC (.str "Z")) (wNil))))
    (wSeq (wSet 4 (wCB a__law_take (wCons (wVar 0) (wCons (wC (.int 5)) (wNil)))))
    (wSeq (wIfS (wOr (wTest (wOp fGt (wVar 4) (wC (.int 1)))) (wOr (wTest (wOp fLt (wVar 1) (wC (.int 1)))) (wTest (wOp fLt (wVar 2) (wC (.int 1))))))
    (wRet (wCB a__law_matrix (wCons (wVar 0) (wCons (wVar 3) (wCons (wVar 1) (wCons (wVar 2) (wNil)))))))
    (wNext))
    (wSeq (wSet 5 (wCB a__law_take (wCons (wVar 0) (wCons (wOp fAdd (wCB gMin (wCons (wVar 1) (wCons (wVar 2) (wNil)))) (wC (.int 1))) (wNil)))))
    (wRet (wCB a__law_product (wCons (wVar 3) (wCons (wCB a__law_matrix (wCons (wVar 0) (wCons (wVar 3) (wCons (wVar 1) (wCons (wVar 5) (wNil)))))) (wCons (wCB a__law_matrix (wCons (wVar 0) (wCons (wVar 3) (wCons (wVar 5) (wCons (wVar 2) (wNil)))))) (wNil)))))))))
theorem j__law_low {P : Program} {w : World} {K : PySem.W.Frag} {mg : Str → Option Value} {base : Heap} {k : Nat} {f : Addr} {cdv : Value} {A : Around} {outer : List Env} {s : Shared} {H : Hp} {E : XK} (hr : Room k (A.deeper (envOfC "_law_low" (defScope s__law_low) s.heap.objs.size f cdv))) (m_min : mg "min" = none) {a__law_take : ASp} (c__law_take : Cal P w K mg base k "_law_take" a__law_take) {a__law_matrix : ASp} (c__law_matrix : Cal P w K mg base k "_law_matrix" a__law_matrix) {a__law_product : ASp} (c__law_product : Cal P w K mg base k "_law_product" a__law_product) :
    ∃ t, JSs (cxOf (L2.CX P w) P w K mg base ["c", "m", "n", "d", "k", "r"] "_law_low" (defScope s__law_low) f cdv A outer s H E) E (defBody s__law_low) t (w__law_low a__law_take a__law_matrix a__law_product) := by
  have hx : Passes (L2.CX P w) (cxOf (L2.CX P w) P w K mg base ["c", "m", "n", "d", "k", "r"] "_law_low" (defScope s__law_low) f cdv A outer s H E) E := px_of (x := "_law_low")
  have hp := po_of (P := P) (w := w) (K := K) (mg := mg) (base := base) (x := "_law_low") (qual := "_law_low") (sc := defScope s__law_low) (f := f) (cdv := cdv) (A := A) (outer := outer) (s := s) (H := H) (E := E) (N := ["c", "m", "n", "d", "k", "r"])
  have hu := Room.units hr
  have nd := sc__law_low.nd
  exact ⟨_, jss_cons (js_set (i := 3) nd rfl (Or.inl rfl) (je_tup (ja_cons (je_str) (ja_nil))))
    (jss_cons (js_set (i := 4) nd rfl (Or.inl rfl) (je_call (K := K) c__law_take hr hx (ja_cons (je_var 0) (ja_cons (je_int) (ja_nil)))))
    (jss_cons (js_if ((jw_or (jt_gt (je_var 4) (je_int)) (jw_or (jt_lt (je_var 1) (je_int)) (jw_or1 (jt_lt (je_var 2) (je_int))))).jt)
    (jss_one (js_ret (je_call (K := K) c__law_matrix hr hx (ja_cons (je_var 0) (ja_cons (je_var 3) (ja_cons (je_var 1) (ja_cons (je_var 2) (ja_nil))))))))
    (jss_nil))
    (jss_cons (js_set (i := 5) nd rfl (Or.inl rfl) (je_call (K := K) c__law_take hr hx (ja_cons (je_var 0) (ja_cons (je_add (K := K) (je_min (K := K) rfl m_min (ja_cons (je_var 1) (ja_cons (je_var 2) (ja_nil)))) (je_int)) (ja_nil)))))
    (jss_one (js_ret (je_call (K := K) c__law_product hr hx (ja_cons (je_var 3) (ja_cons (je_call (K := K) c__law_matrix hr hx (ja_cons (je_var 0) (ja_cons (je_var 3) (ja_cons (je_var 1) (ja_cons (je_var 5) (ja_nil)))))) (ja_cons (je_call (K := K) c__law_matrix hr hx (ja_cons (je_var 0) (ja_cons (je_var 3) (ja_cons (je_var 5) (ja_cons (je_var 2) (ja_nil)))))) (ja_nil))))))))))⟩
/-! ### _law_normal -/
abbrev s__law_normal : Stmt := topS 44
theorem sc__law_normal : FnScope ["d", "x"] ["d", "x"] (defScope s__law_normal) := ⟨rfl, rfl, rfl, by decide +kernel, rfl, by decide +kernel, by decide +kernel⟩
def w__law_normal : WS :=
  wRet (wOp fGe (wVar 1) (wC (.int 0)))
theorem j__law_normal {P : Program} {w : World} {K : PySem.W.Frag} {mg : Str → Option Value} {base : Heap} {k : Nat} {f : Addr} {cdv : Value} {A : Around} {outer : List Env} {s : Shared} {H : Hp} {E : XK} (hr : Room k (A.deeper (envOfC "_law_normal" (defScope s__law_normal) s.heap.objs.size f cdv))) :
    ∃ t, JSs (cxOf (L2.CX P w) P w K mg base ["d", "x"] "_law_normal" (defScope s__law_normal) f cdv A outer s H E) E (defBody s__law_normal) t (w__law_normal) := by
  have hx : Passes (L2.CX P w) (cxOf (L2.CX P w) P w K mg base ["d", "x"] "_law_normal" (defScope s__law_normal) f cdv A outer s H E) E := px_of (x := "_law_normal")
  have hp := po_of (P := P) (w := w) (K := K) (mg := mg) (base := base) (x := "_law_normal") (qual := "_law_normal") (sc := defScope s__law_normal) (f := f) (cdv := cdv) (A := A) (outer := outer) (s := s) (H := H) (E := E) (N := ["d", "x"])
  have hu := Room.units hr
  have nd := sc__law_normal.nd
  exact ⟨_, jss_one (js_ret (je_ge (je_var 1) (je_int)))⟩
/-! ### _law_orders -/
abbrev s__law_orders : Stmt := topS 45
theorem sc__law_orders : FnScope ["n", "found", "k", "longer", "one", "i"] ["n"] (defScope s__law_orders) := ⟨rfl, rfl, rfl, by decide +kernel, rfl, by decide +kernel, by decide +kernel⟩
def w__law_orders : WS :=
  wSeq (wSet 1 (wLst (wCons (wLst (wNil)) (wNil))))
    (wSeq (wFor (wiRange1 (wCons (wVar 0) (wNil))) (wgName 2)
    (wSeq (wSet 3 (wLst (wNil)))
    (wSeq (wFor (wiItems (wVar 1)) (wgName 4)
    (wSet 3 (wOp fAdd (wVar 3) (wLcA (wiRange1 (wCons (wOp fAdd (wVar 2) (wC (.int 1))) (wNil))) (wgName 5) (wYes) (wOp fAdd (wOp fAdd (wSl (wVar 4) (wNoPart) (wPart (wVar 5))) (wLst (wCons (wVar 2) (wNil)))) (wSl (wVar 4) (wPart (wVar 5)) (wNoPart))) [5] finF))))
    (wSet 1 (wVar 3)))))
    (wRet (wVar 1)))
theorem j__law_orders {P : Program} {w : World} {K : PySem.W.Frag} {mg : Str → Option Value} {base : Heap} {k : Nat} {f : Addr} {cdv : Value} {A : Around} {outer : List Env} {s : Shared} {H : Hp} {E : XK} (hr : Room k (A.deeper (envOfC "_law_orders" (defScope s__law_orders) s.heap.objs.size f cdv))) (m_range : mg "range" = none) :
    ∃ t, JSs (cxOf (L2.CX P w) P w K mg base ["n", "found", "k", "longer", "one", "i"] "_law_orders" (defScope s__law_orders) f cdv A outer s H E) E (defBody s__law_orders) t (w__law_orders) := by
  have hx : Passes (L2.CX P w) (cxOf (L2.CX P w) P w K mg base ["n", "found", "k", "longer", "one", "i"] "_law_orders" (defScope s__law_orders) f cdv A outer s H E) E := px_of (x := "_law_orders")
  have hp := po_of (P := P) (w := w) (K := K) (mg := mg) (base := base) (x := "_law_orders") (qual := "_law_orders") (sc := defScope s__law_orders) (f := f) (cdv := cdv) (A := A) (outer := outer) (s := s) (H := H) (E := E) (N := ["n", "found", "k", "longer", "one", "i"])
  have hu := Room.units hr
  have nd := sc__law_orders.nd
  exact ⟨_, jss_cons (js_set (i := 1) nd rfl (Or.inl rfl) (je_lst (ja_cons (je_lst (ja_nil)) (ja_nil))))
    (jss_cons (js_for (vs := [2]) hp rfl (ji_range1 m_range (ja_cons (je_var 0) (ja_nil))) (jg_name 2 nd rfl (Or.inr rfl))
    (jss_cons (js_set (i := 3) nd rfl (Or.inl rfl) (je_lst (ja_nil)))
    (jss_cons (js_for (vs := [4]) hp rfl (ji_items (K := K) (je_var 1)) (jg_name 4 nd rfl (Or.inr rfl))
    (jss_one (js_set (i := 3) nd rfl (Or.inl rfl) (je_add (K := K) (je_var 3) (je_lcA (own := [("i", 5)]) fin_fl rfl nd (ji_range1 m_range (ja_cons (je_add (K := K) (je_var 2) (je_int)) (ja_nil))) (blkOk_by (N := ["n", "found", "k", "longer", "one", "i"]) (sc := defScope s__law_orders) (own := [("i", 5)]) (by decide +kernel)) (fun _ _ _ _ _ => jg_name 5 nd rfl (by first | exact Or.inl rfl | exact Or.inr rfl)) (fun _ _ _ _ _ => jts_nil) (fun _ _ _ _ _ => je_add (K := K) (je_add (K := K) (je_slice (K := K) (je_var 4) (jo_none) (jo_some (je_var 5))) (je_lst (ja_cons (je_var 2) (ja_nil)))) (je_slice (K := K) (je_var 4) (jo_some (je_var 5)) (jo_none))) s)))))
    (jss_one (js_set (i := 1) nd rfl (Or.inl rfl) (je_var 3))))))
    (jss_one (js_ret (je_var 1))))⟩
/-! ### _law_sign -/
abbrev s__law_sign : Stmt := topS 46
theorem sc__law_sign : FnScope ["order", "sign", "i", "j"] ["order"] (defScope s__law_sign) := ⟨rfl, rfl, rfl, by decide +kernel, rfl, by decide +kernel, by decide +kernel⟩
def w__law_sign : WS :=
  wSeq (wSet 1 (wC (.int 1)))
    (wSeq (wFor (wiRange1 (wCons (wCB gLen (wCons (wVar 0) (wNil))) (wNil))) (wgName 2)
    (wFor (wiRange1 (wCons (wVar 2) (wNil))) (wgName 3)
    (wIfS (wTest (wOp fGt (wOp fIx (wVar 0) (wVar 3)) (wOp fIx (wVar 0) (wVar 2))))
    (wSet 1 (wOp fSub (wC (.int 0)) (wVar 1)))
    (wNext))))
    (wRet (wVar 1)))
theorem j__law_sign {P : Program} {w : World} {K : PySem.W.Frag} {mg : Str → Option Value} {base : Heap} {k : Nat} {f : Addr} {cdv : Value} {A : Around} {outer : List Env} {s : Shared} {H : Hp} {E : XK} (hr : Room k (A.deeper (envOfC "_law_sign" (defScope s__law_sign) s.heap.objs.size f cdv))) (m_range : mg "range" = none) (m_len : mg "len" = none) :
    ∃ t, JSs (cxOf (L2.CX P w) P w K mg base ["order", "sign", "i", "j"] "_law_sign" (defScope s__law_sign) f cdv A outer s H E) E (defBody s__law_sign) t (w__law_sign) := by
  have hx : Passes (L2.CX P w) (cxOf (L2.CX P w) P w K mg base ["order", "sign", "i", "j"] "_law_sign" (defScope s__law_sign) f cdv A outer s H E) E := px_of (x := "_law_sign")
  have hp := po_of (P := P) (w := w) (K := K) (mg := mg) (base := base) (x := "_law_sign") (qual := "_law_sign") (sc := defScope s__law_sign) (f := f) (cdv := cdv) (A := A) (outer := outer) (s := s) (H := H) (E := E) (N := ["order", "sign", "i", "j"])
  have hu := Room.units hr
  have nd := sc__law_sign.nd
  exact ⟨_, jss_cons (js_set (i := 1) nd rfl (Or.inl rfl) (je_int))
    (jss_cons (js_for (vs := [2]) hp rfl (ji_range1 m_range (ja_cons (je_len (K := K) m_len (ja_cons (je_var 0) (ja_nil))) (ja_nil))) (jg_name 2 nd rfl (by first | exact Or.inl rfl | exact Or.inr rfl))
    (jss_one (js_for (vs := [3]) hp rfl (ji_range1 m_range (ja_cons (je_var 2) (ja_nil))) (jg_name 3 nd rfl (by first | exact Or.inl rfl | exact Or.inr rfl))
    (jss_one (js_if (jt_gt (je_ix (K := K) (je_var 0) (je_var 3)) (je_ix (K := K) (je_var 0) (je_var 2)))
    (jss_one (js_set (i := 1) nd rfl (Or.inl rfl) (je_sub (je_int) (je_var 1))))
    (jss_nil))))))
    (jss_one (js_ret (je_var 1))))⟩
/-! ### _law_determinant -/
abbrev s__law_determinant : Stmt := topS 47
theorem sc__law_determinant : FnScope ["d", "a", "total", "order", "term", "i"] ["d", "a"] (defScope s__law_determinant) := ⟨rfl, rfl, rfl, by decide +kernel, rfl, by decide +kernel, by decide +kernel⟩
def w__law_determinant (a__law_zero : ASp) (a__law_orders : ASp) (a__law_number : ASp) (a__law_sign : ASp) (a__law_multiply : ASp) (a__law_add : ASp) : WS :=
  wSeq (wSet 2 (wCB a__law_zero (wCons (wVar 0) (wNil))))
    (wSeq (wFor (wiItems (wCB a__law_orders (wCons (wOp fIx (wVar 1) (wC (.int 0))) (wNil)))) (wgName 3)
    (wSeq (wSet 4 (wCB a__law_number (wCons (wVar 0) (wCons (wCB a__law_sign (wCons (wVar 3) (wNil))) (wNil)))))
    (wSeq (wFor (wiRange1 (wCons (wOp fIx (wVar 1) (wC (.int 0))) (wNil))) (wgName 5)
    (wSet 4 (wCB a__law_multiply (wCons (wVar 0) (wCons (wVar 4) (wCons (wOp fIx (wOp fIx (wOp fIx (wVar 1) (wC (.int 2))) (wVar 5)) (wOp fIx (wVar 3) (wVar 5))) (wNil)))))))
    (wSet 2 (wCB a__law_add (wCons (wVar 0) (wCons (wVar 2) (wCons (wVar 4) (wNil)))))))))
    (wRet (wVar 2)))
theorem j__law_determinant {P : Program} {w : World} {K : PySem.W.Frag} {mg : Str → Option Value} {base : Heap} {k : Nat} {f : Addr} {cdv : Value} {A : Around} {outer : List Env} {s : Shared} {H : Hp} {E : XK} (hr : Room k (A.deeper (envOfC "_law_determinant" (defScope s__law_determinant) s.heap.objs.size f cdv))) (m_range : mg "range" = none) {a__law_zero : ASp} (c__law_zero : Cal P w K mg base k "_law_zero" a__law_zero) {a__law_orders : ASp} (c__law_orders : Cal P w K mg base k "_law_orders" a__law_orders) {a__law_number : ASp} (c__law_number : Cal P w K mg base k "_law_number" a__law_number) {a__law_sign : ASp} (c__law_sign : Cal P w K mg base k "_law_sign" a__law_sign) {a__law_multiply : ASp} (c__law_multiply : Cal P w K mg base k "_law_multiply" a__law_multiply) {a__law_add : ASp} (c__law_add : Cal P w K mg base k "_law_add" a__law_add) :
    ∃ t, JSs (cxOf (L2.CX P w) P w K mg base ["d", "a", "total", "order", "term", "i"] "_law_determinant" (defScope s__law_determinant) f cdv A outer s H E) E (defBody s__law_determinant) t (w__law_determinant a__law_zero a__law_orders a__law_number a__law_sign a__law_multiply a__law_add) := by
  have hx : Passes (L2.CX P w) (cxOf (L2.CX P w) P w K mg base ["d", "a", "total", "order", "term", "i"] "_law_determinant" (defScope s__law_determinant) f cdv A outer s H E) E := px_of (x := "_law_determinant")
  have hp := po_of (P := P) (w := w) (K := K) (mg := mg) (base := base) (x := "_law_determinant") (qual := "_law_determinant") (sc := defScope s__law_determinant) (f := f) (cdv := cdv) (A := A) (outer := outer) (s := s) (H := H) (E := E) (N := ["d", "a", "total", "order", "term", "i"])
  have hu := Room.units hr
  have nd := sc__law_determinant.nd
  exact ⟨_, jss_cons (js_set (i := 2) nd rfl (Or.inl rfl) (je_call (K := K) c__law_zero hr hx (ja_cons (je_var 0) (ja_nil))))
    (jss_cons (js_for (vs := [3]) hp rfl (ji_items (K := K) (je_call (K := K) c__law_orders hr hx (ja_cons (je_ix (K := K) (je_var 1) (je_int)) (ja_nil)))) (jg_name 3 nd rfl (by first | exact Or.inl rfl | exact Or.inr rfl))
    (jss_cons (js_set (i := 4) nd rfl (Or.inl rfl) (je_call (K := K) c__law_number hr hx (ja_cons (je_var 0) (ja_cons (je_call (K := K) c__law_sign hr hx (ja_cons (je_var 3) (ja_nil))) (ja_nil)))))
    (jss_cons (js_for (vs := [5]) hp rfl (ji_range1 m_range (ja_cons (je_ix (K := K) (je_var 1) (je_int)) (ja_nil))) (jg_name 5 nd rfl (by first | exact Or.inl rfl | exact Or.inr rfl))
    (jss_one (js_set (i := 4) nd rfl (Or.inl rfl) (je_call (K := K) c__law_multiply hr hx (ja_cons (je_var 0) (ja_cons (je_var 4) (ja_cons (je_ix (K := K) (je_ix (K := K) (je_ix (K := K) (je_var 1) (je_int)) (je_var 5)) (je_ix (K := K) (je_var 3) (je_var 5))) (ja_nil))))))))
    (jss_one (js_set (i := 2) nd rfl (Or.inl rfl) (je_call (K := K) c__law_add hr hx (ja_cons (je_var 0) (ja_cons (je_var 2) (ja_cons (je_var 4) (ja_nil))))))))))
    (jss_one (js_ret (je_var 2))))⟩
/-! ### _law_root -/
abbrev s__law_root : Stmt := topS 48
theorem sc__law_root : FnScope ["n", "low", "high", "middle"] ["n"] (defScope s__law_root) := ⟨rfl, rfl, rfl, by decide +kernel, rfl, by decide +kernel, by decide +kernel⟩
def w__law_root : WS :=
  wSeq (wSet 1 (wC (.int 0)))
    (wSeq (wSet 2 (wC (.int 1)))
    (wSeq (wWhile (wTest (wOp fLe (wOp fMul (wVar 2) (wVar 2)) (wVar 0)))
    (wSet 2 (wOp fMul (wC (.int 2)) (wVar 2))))
    (wSeq (wWhile (wTest (wOp fGt (wOp fSub (wVar 2) (wVar 1)) (wC (.int 1))))
    (wSeq (wSet 3 (wOp fDiv (wOp fAdd (wVar 1) (wVar 2)) (wC (.int 2))))
    (wIfS (wTest (wOp fLe (wOp fMul (wVar 3) (wVar 3)) (wVar 0)))
    (wSet 1 (wVar 3))
    (wSet 2 (wVar 3)))))
    (wRet (wVar 1)))))
theorem j__law_root {P : Program} {w : World} {K : PySem.W.Frag} {mg : Str → Option Value} {base : Heap} {k : Nat} {f : Addr} {cdv : Value} {A : Around} {outer : List Env} {s : Shared} {H : Hp} {E : XK} (hr : Room k (A.deeper (envOfC "_law_root" (defScope s__law_root) s.heap.objs.size f cdv))) :
    ∃ t, JSs (cxOf (L2.CX P w) P w K mg base ["n", "low", "high", "middle"] "_law_root" (defScope s__law_root) f cdv A outer s H E) E (defBody s__law_root) t (w__law_root) := by
  have hx : Passes (L2.CX P w) (cxOf (L2.CX P w) P w K mg base ["n", "low", "high", "middle"] "_law_root" (defScope s__law_root) f cdv A outer s H E) E := px_of (x := "_law_root")
  have hp := po_of (P := P) (w := w) (K := K) (mg := mg) (base := base) (x := "_law_root") (qual := "_law_root") (sc := defScope s__law_root) (f := f) (cdv := cdv) (A := A) (outer := outer) (s := s) (H := H) (E := E) (N := ["n", "low", "high", "middle"])
  have hu := Room.units hr
  have nd := sc__law_root.nd
  exact ⟨_, jss_cons (js_set (i := 1) nd rfl (Or.inl rfl) (je_int))
    (jss_cons (js_set (i := 2) nd rfl (Or.inl rfl) (je_int))
    (jss_cons (js_while hp (jt_le (je_mul (je_var 2) (je_var 2)) (je_var 0))
    (jss_one (js_set (i := 2) nd rfl (Or.inl rfl) (je_mul (je_int) (je_var 2)))))
    (jss_cons (js_while hp (jt_gt (je_sub (je_var 2) (je_var 1)) (je_int))
    (jss_cons (js_set (i := 3) nd rfl (Or.inl rfl) (je_div (je_add (K := K) (je_var 1) (je_var 2)) (je_int)))
    (jss_one (js_if (jt_le (je_mul (je_var 3) (je_var 3)) (je_var 0))
    (jss_one (js_set (i := 1) nd rfl (Or.inl rfl) (je_var 3)))
    (jss_one (js_set (i := 2) nd rfl (Or.inl rfl) (je_var 3)))))))
    (jss_one (js_ret (je_var 1))))))⟩
/-! ### _law_bound -/
abbrev s__law_bound : Stmt := topS 49
theorem sc__law_bound : FnScope ["rows", "more", "total", "row", "x"] ["rows", "more"] (defScope s__law_bound) := ⟨rfl, rfl, rfl, by decide +kernel, rfl, by decide +kernel, by decide +kernel⟩
def w__law_bound (a__law_root : ASp) : WS :=
  wSeq (wSet 2 (wC (.int 1)))
    (wSeq (wFor (wiItems (wVar 0)) (wgName 3)
    (wSet 2 (wOp fMul (wVar 2) (wOp fAdd (wCB a__law_root (wCons (wCB gSum (wCons (wLcA (wiItems (wVar 3)) (wgName 4) (wYes) (wOp fMul (wVar 4) (wVar 4)) [4] finF) (wNil))) (wNil))) (wVar 1)))))
    (wRet (wVar 2)))
theorem j__law_bound {P : Program} {w : World} {K : PySem.W.Frag} {mg : Str → Option Value} {base : Heap} {k : Nat} {f : Addr} {cdv : Value} {A : Around} {outer : List Env} {s : Shared} {H : Hp} {E : XK} (hr : Room k (A.deeper (envOfC "_law_bound" (defScope s__law_bound) s.heap.objs.size f cdv))) (m_sum : mg "sum" = none) {a__law_root : ASp} (c__law_root : Cal P w K mg base k "_law_root" a__law_root) :
    ∃ t, JSs (cxOf (L2.CX P w) P w K mg base ["rows", "more", "total", "row", "x"] "_law_bound" (defScope s__law_bound) f cdv A outer s H E) E (defBody s__law_bound) t (w__law_bound a__law_root) := by
  have hx : Passes (L2.CX P w) (cxOf (L2.CX P w) P w K mg base ["rows", "more", "total", "row", "x"] "_law_bound" (defScope s__law_bound) f cdv A outer s H E) E := px_of (x := "_law_bound")
  have hp := po_of (P := P) (w := w) (K := K) (mg := mg) (base := base) (x := "_law_bound") (qual := "_law_bound") (sc := defScope s__law_bound) (f := f) (cdv := cdv) (A := A) (outer := outer) (s := s) (H := H) (E := E) (N := ["rows", "more", "total", "row", "x"])
  have hu := Room.units hr
  have nd := sc__law_bound.nd
  exact ⟨_, jss_cons (js_set (i := 2) nd rfl (Or.inl rfl) (je_int))
    (jss_cons (js_for (vs := [3]) hp rfl (ji_items (K := K) (je_var 0)) (jg_name 3 nd rfl (by first | exact Or.inl rfl | exact Or.inr rfl))
    (jss_one (js_set (i := 2) nd rfl (Or.inl rfl) (je_mul (je_var 2) (je_add (K := K) (je_call (K := K) c__law_root hr hx (ja_cons (je_sum (K := K) rfl m_sum (ja_cons (je_lcA (own := [("x", 4)]) fin_fl rfl nd (ji_items (K := K) (je_var 3)) (blkOk_by (N := ["rows", "more", "total", "row", "x"]) (sc := defScope s__law_bound) (own := [("x", 4)]) (by decide +kernel)) (fun _ _ _ _ _ => jg_name 4 nd rfl (by first | exact Or.inl rfl | exact Or.inr rfl)) (fun _ _ _ _ _ => jts_nil) (fun _ _ _ _ _ => je_mul (je_var 4) (je_var 4)) s) (ja_nil))) (ja_nil))) (je_var 1))))))
    (jss_one (js_ret (je_var 2))))⟩
/-! ### _law_is_prime -/
abbrev s__law_is_prime : Stmt := topS 50
theorem sc__law_is_prime : FnScope ["n", "k"] ["n"] (defScope s__law_is_prime) := ⟨rfl, rfl, rfl, by decide +kernel, rfl, by decide +kernel, by decide +kernel⟩
def w__law_is_prime : WS :=
  wSeq (wIfS (wTest (wOp fLt (wVar 0) (wC (.int 2))))
    (wRet (wC (.bl false)))
    (wNext))
    (wSeq (wSet 1 (wC (.int 2)))
    (wSeq (wWhile (wTest (wOp fLe (wOp fMul (wVar 1) (wVar 1)) (wVar 0)))
    (wSeq (wIfS (wTest (wOp fEq (wOp fMod (wCB gInt (wCons (wVar 0) (wNil))) (wVar 1)) (wC (.int 0))))
    (wRet (wC (.bl false)))
    (wNext))
    (wSet 1 (wOp fAdd (wVar 1) (wC (.int 1))))))
    (wRet (wC (.bl true)))))
theorem j__law_is_prime {P : Program} {w : World} {K : PySem.W.Frag} {mg : Str → Option Value} {base : Heap} {k : Nat} {f : Addr} {cdv : Value} {A : Around} {outer : List Env} {s : Shared} {H : Hp} {E : XK} (hr : Room k (A.deeper (envOfC "_law_is_prime" (defScope s__law_is_prime) s.heap.objs.size f cdv))) (m_int : mg "int" = none) :
    ∃ t, JSs (cxOf (L2.CX P w) P w K mg base ["n", "k"] "_law_is_prime" (defScope s__law_is_prime) f cdv A outer s H E) E (defBody s__law_is_prime) t (w__law_is_prime) := by
  have hx : Passes (L2.CX P w) (cxOf (L2.CX P w) P w K mg base ["n", "k"] "_law_is_prime" (defScope s__law_is_prime) f cdv A outer s H E) E := px_of (x := "_law_is_prime")
  have hp := po_of (P := P) (w := w) (K := K) (mg := mg) (base := base) (x := "_law_is_prime") (qual := "_law_is_prime") (sc := defScope s__law_is_prime) (f := f) (cdv := cdv) (A := A) (outer := outer) (s := s) (H := H) (E := E) (N := ["n", "k"])
  have hu := Room.units hr
  have nd := sc__law_is_prime.nd
  exact ⟨_, jss_cons (js_if (jt_lt (je_var 0) (je_int))
    (jss_one (js_ret (je_bl)))
    (jss_nil))
    (jss_cons (js_set (i := 1) nd rfl (Or.inl rfl) (je_int))
    (jss_cons (js_while hp (jt_le (je_mul (je_var 1) (je_var 1)) (je_var 0))
    (jss_cons (js_if (jt_eq (K := K) hu (je_mod (je_intC m_int (ja_cons (je_var 0) (ja_nil))) (je_var 1)) (je_int))
    (jss_one (js_ret (je_bl)))
    (jss_nil))
    (jss_one (js_set (i := 1) nd rfl (Or.inl rfl) (je_add (K := K) (je_var 1) (je_int))))))
    (jss_one (js_ret (je_bl)))))⟩
/-! ### _law_primes -/
abbrev s__law_primes : Stmt := topS 51
theorem sc__law_primes : FnScope ["m", "found", "product", "n"] ["m"] (defScope s__law_primes) := ⟨rfl, rfl, rfl, by decide +kernel, rfl, by decide +kernel, by decide +kernel⟩
def w__law_primes (a__law_is_prime : ASp) : WS :=
  wSeq (wSet 1 (wLstR (wNil)))
    (wSeq (wSet 2 (wC (.int 1)))
    (wSeq (wSet 3 (wC (.int 32769)))
    (wSeq (wWhile (wTest (wOp fLe (wVar 2) (wVar 0)))
    (wSeq (wIfS (wTruA (wCB a__law_is_prime (wCons (wVar 3) (wNil))))
    (wSeq (wDrop (wApp (wVar 1) (wCons (wVar 3) (wNil))))
    (wSet 2 (wOp fMul (wVar 2) (wVar 3))))
    (wNext))
    (wSet 3 (wOp fAdd (wVar 3) (wC (.int 2))))))
    (wRet (wVar 1)))))
theorem j__law_primes {P : Program} {w : World} {K : PySem.W.Frag} {mg : Str → Option Value} {base : Heap} {k : Nat} {f : Addr} {cdv : Value} {A : Around} {outer : List Env} {s : Shared} {H : Hp} {E : XK} (hr : Room k (A.deeper (envOfC "_law_primes" (defScope s__law_primes) s.heap.objs.size f cdv))) {a__law_is_prime : ASp} (c__law_is_prime : Cal P w K mg base k "_law_is_prime" a__law_is_prime) :
    ∃ t, JSs (cxOf (L2.CX P w) P w K mg base ["m", "found", "product", "n"] "_law_primes" (defScope s__law_primes) f cdv A outer s H E) E (defBody s__law_primes) t (w__law_primes a__law_is_prime) := by
  have hx : Passes (L2.CX P w) (cxOf (L2.CX P w) P w K mg base ["m", "found", "product", "n"] "_law_primes" (defScope s__law_primes) f cdv A outer s H E) E := px_of (x := "_law_primes")
  have hp := po_of (P := P) (w := w) (K := K) (mg := mg) (base := base) (x := "_law_primes") (qual := "_law_primes") (sc := defScope s__law_primes) (f := f) (cdv := cdv) (A := A) (outer := outer) (s := s) (H := H) (E := E) (N := ["m", "found", "product", "n"])
  have hu := Room.units hr
  have nd := sc__law_primes.nd
  exact ⟨_, jss_cons (js_set (i := 1) nd rfl (Or.inl rfl) (je_lstR (ja_nil)))
    (jss_cons (js_set (i := 2) nd rfl (Or.inl rfl) (je_int))
    (jss_cons (js_set (i := 3) nd rfl (Or.inl rfl) (je_int))
    (jss_cons (js_while hp (jt_le (je_var 2) (je_var 0))
    (jss_cons (js_if (jt_tru (K := K) (je_call (K := K) c__law_is_prime hr hx (ja_cons (je_var 3) (ja_nil))))
    (jss_cons (js_expr (je_append (K := K) (je_var 1) (ja_cons (je_var 3) (ja_nil))))
    (jss_one (js_set (i := 2) nd rfl (Or.inl rfl) (je_mul (je_var 2) (je_var 3)))))
    (jss_nil))
    (jss_one (js_set (i := 3) nd rfl (Or.inl rfl) (je_add (K := K) (je_var 3) (je_int))))))
    (jss_one (js_ret (je_var 1))))))⟩
/-! ### law -/
abbrev s_law : Stmt := topS 52
theorem sc_law : FnScope ["script", "c", "n", "a", "bound", "m"] ["script"] (defScope s_law) := ⟨rfl, rfl, rfl, by decide +kernel, rfl, by decide +kernel, by decide +kernel⟩
def w_law (a__law_start : ASp) (a__law_take : ASp) (a__law_low : ASp) (a_determinant_bound : ASp) (a__law_bound : ASp) (a_coefficient_bound : ASp) (a__law_determinant : ASp) (a__law_raised : ASp) (a_primes_for : ASp) (a__law_primes : ASp) : WS :=
  wSeq (wSet 1 (wCB a__law_start (wCons (wVar 0) (wNil))))
    (wSeq (wSet 2 (wCB a__law_take (wCons (wVar 1) (wCons (wC (.int 5)) (wNil)))))
    (wSeq (wSet 3 (wCB a__law_low (wCons (wVar 1) (wCons (wVar 2) (wCons (wVar 2) (wNil))))))
    (wSeq (wSet 4 (wCB a_determinant_bound (wCons (wVar 3) (wNil))))
    (wSeq (wIfS (wOr (wTest (wOp fNe (wVar 4) (wCB a__law_bound (wCons (wOp fIx (wVar 3) (wC (.int 2))) (wCons (wC (.int 1)) (wNil)))))) (wTest (wOp fNe (wCB a_coefficient_bound (wCons (wVar 3) (wNil))) (wCB a__law_bound (wCons (wOp fIx (wVar 3) (wC (.int 2))) (wCons (wC (.int 2)) (wNil)))))))
    (wRet (wC (.bl false)))
    (wNext))
    (wSeq (wIfS (wTest (wOp fGt (wCB gAbs (wCons (wCB a__law_determinant (wCons (wTup (wCons (wC (.str "Z")) (wNil))) (wCons (wVar 3) (wNil)))) (wNil))) (wVar 4)))
    (wRet (wC (.bl false)))
    (wNext))
    (wSeq (wSet 5 (wOp fIx (wLst (wCons (wCB a__law_take (wCons (wVar 1) (wCons (wC (.int 40000)) (wNil)))) (wCons (wC (.int 32771)) (wCons (wC (.int 32770)) (wCons (wOp fSub (wOp fMul (wC (.int 32771)) (wC (.int 32779))) (wCB a__law_take (wCons (wVar 1) (wCons (wC (.int 3)) (wNil))))) (wCons (wCB a__law_raised (wCons (wC (.int 10)) (wCons (wCB a__law_take (wCons (wVar 1) (wCons (wC (.int 40)) (wNil)))) (wNil)))) (wCons (wC (.int 0)) (wNil)))))))) (wCB a__law_take (wCons (wVar 1) (wCons (wC (.int 6)) (wNil))))))
    (wRet (wOp fEq (wCB a_primes_for (wCons (wVar 5) (wNil))) (wCB a__law_primes (wCons (wVar 5) (wNil)))))))))))
theorem j_law {P : Program} {w : World} {K : PySem.W.Frag} {mg : Str → Option Value} {base : Heap} {k : Nat} {f : Addr} {cdv : Value} {A : Around} {outer : List Env} {s : Shared} {H : Hp} {E : XK} (hr : Room k (A.deeper (envOfC "law" (defScope s_law) s.heap.objs.size f cdv))) (m_abs : mg "abs" = none) {a__law_start : ASp} (c__law_start : Cal P w K mg base k "_law_start" a__law_start) {a__law_take : ASp} (c__law_take : Cal P w K mg base k "_law_take" a__law_take) {a__law_low : ASp} (c__law_low : Cal P w K mg base k "_law_low" a__law_low) {a_determinant_bound : ASp} (c_determinant_bound : Cal P w K mg base k "determinant_bound" a_determinant_bound) {a__law_bound : ASp} (c__law_bound : Cal P w K mg base k "_law_bound" a__law_bound) {a_coefficient_bound : ASp} (c_coefficient_bound : Cal P w K mg base k "coefficient_bound" a_coefficient_bound) {a__law_determinant : ASp} (c__law_determinant : Cal P w K mg base k "_law_determinant" a__law_determinant) {a__law_raised : ASp} (c__law_raised : Cal P w K mg base k "_law_raised" a__law_raised) {a_primes_for : ASp} (c_primes_for : Cal P w K mg base k "primes_for" a_primes_for) {a__law_primes : ASp} (c__law_primes : Cal P w K mg base k "_law_primes" a__law_primes) :
    ∃ t, JSs (cxOf (L2.CX P w) P w K mg base ["script", "c", "n", "a", "bound", "m"] "law" (defScope s_law) f cdv A outer s H E) E (defBody s_law) t (w_law a__law_start a__law_take a__law_low a_determinant_bound a__law_bound a_coefficient_bound a__law_determinant a__law_raised a_primes_for a__law_primes) := by
  have hx : Passes (L2.CX P w) (cxOf (L2.CX P w) P w K mg base ["script", "c", "n", "a", "bound", "m"] "law" (defScope s_law) f cdv A outer s H E) E := px_of (x := "law")
  have hp := po_of (P := P) (w := w) (K := K) (mg := mg) (base := base) (x := "law") (qual := "law") (sc := defScope s_law) (f := f) (cdv := cdv) (A := A) (outer := outer) (s := s) (H := H) (E := E) (N := ["script", "c", "n", "a", "bound", "m"])
  have hu := Room.units hr
  have nd := sc_law.nd
  exact ⟨_, jss_cons (js_set (i := 1) nd rfl (Or.inl rfl) (je_call (K := K) c__law_start hr hx (ja_cons (je_var 0) (ja_nil))))
    (jss_cons (js_set (i := 2) nd rfl (Or.inl rfl) (je_call (K := K) c__law_take hr hx (ja_cons (je_var 1) (ja_cons (je_int) (ja_nil)))))
    (jss_cons (js_set (i := 3) nd rfl (Or.inl rfl) (je_call (K := K) c__law_low hr hx (ja_cons (je_var 1) (ja_cons (je_var 2) (ja_cons (je_var 2) (ja_nil))))))
    (jss_cons (js_set (i := 4) nd rfl (Or.inl rfl) (je_call (K := K) c_determinant_bound hr hx (ja_cons (je_var 3) (ja_nil))))
    (jss_cons (js_if ((jw_or (jt_ne (K := K) hu (je_var 4) (je_call (K := K) c__law_bound hr hx (ja_cons (je_ix (K := K) (je_var 3) (je_int)) (ja_cons (je_int) (ja_nil))))) (jw_or1 (jt_ne (K := K) hu (je_call (K := K) c_coefficient_bound hr hx (ja_cons (je_var 3) (ja_nil))) (je_call (K := K) c__law_bound hr hx (ja_cons (je_ix (K := K) (je_var 3) (je_int)) (ja_cons (je_int) (ja_nil))))))).jt)
    (jss_one (js_ret (je_bl)))
    (jss_nil))
    (jss_cons (js_if (jt_gt (je_abs m_abs (ja_cons (je_call (K := K) c__law_determinant hr hx (ja_cons (je_tup (ja_cons (je_str) (ja_nil))) (ja_cons (je_var 3) (ja_nil)))) (ja_nil))) (je_var 4))
    (jss_one (js_ret (je_bl)))
    (jss_nil))
    (jss_cons (js_set (i := 5) nd rfl (Or.inl rfl) (je_ix (K := K) (je_lst (ja_cons (je_call (K := K) c__law_take hr hx (ja_cons (je_var 1) (ja_cons (je_int) (ja_nil)))) (ja_cons (je_int) (ja_cons (je_int) (ja_cons (je_sub (je_mul (je_int) (je_int)) (je_call (K := K) c__law_take hr hx (ja_cons (je_var 1) (ja_cons (je_int) (ja_nil))))) (ja_cons (je_call (K := K) c__law_raised hr hx (ja_cons (je_int) (ja_cons (je_call (K := K) c__law_take hr hx (ja_cons (je_var 1) (ja_cons (je_int) (ja_nil)))) (ja_nil)))) (ja_cons (je_int) (ja_nil)))))))) (je_call (K := K) c__law_take hr hx (ja_cons (je_var 1) (ja_cons (je_int) (ja_nil))))))
    (jss_one (js_ret (je_eq (K := K) hu (je_call (K := K) c_primes_for hr hx (ja_cons (je_var 5) (ja_nil))) (je_call (K := K) c__law_primes hr hx (ja_cons (je_var 5) (ja_nil))))))))))))⟩
end My
namespace My
open PySem AW
local macro_rules | `(tactic| walk_at "aw") => `(tactic| try simp only [X0, wVar, wC, itemsL, items, wOp, wTest, wChain, fAdd, fSub, fMul, fDiv, fDivX, fMod, fPow, fShl, fCmpI, fLt, fLe, fGt, fGe, wNeg, fEqB, fEq, fNe, fTru, wTruA, wAnd, wOr, wNotA, wAndV, wOrV, wNotV, wIf, isNon, wIsN, wNil, wCons, wTup, wLst, wLstR, fIx, wNoPart, wPart, fSl, wSl, wCB, gAbs, gInt, gLen, gTuple, gList, gListR, gSum, gAny, gAll, gMax, gMin, isTN, wIsi, wNext, wSeq, wBreak, wCont, wDrop, wRet, wRetN, wIfS, wNever, wSet, wPar, wAug, fIAdd, wgName, wgNil, wgCons, wgTup, fPut, wgSub, wAsg, wiItems, wiRange1, wiRange2, wFor, wipeD, wYes, lcTurn, wLcA, finF, finR, endOf, fInB, wBits, fApp, wApp, z_map_cons, z_map_nil, z_len_cons, z_len_nil, z_cons_append, z_nil_append, z_rep0, z_rep, z_get0, z_get, z_set0, z_set, z_set_set, z_len_set, z_true_and, z_and_true, z_if_f, z_if_t, z_not_t, z_not_f, z_if_dec, z_if_ndec, z_some_eq, z_if_T, z_if_F, z_cast0, z_cast1, Int.cast_ofNat_Int, at0, at1, at2, at3, at4, at5, at6, at7, atI_last1, ix41, ix42, ix43, startD, Nat.reduceAdd, Nat.reduceSub, L2.CPow, Int.reduceLE, Int.reduceLT, Int.reduceAbs, Int.reduceToNat, Int.reducePow, Int.reduceSub, Int.reduceAdd, Int.reduceMul, Int.reduceNeg, Int.reduceEq, Nat.reducePow, Nat.reduceLT, Nat.reduceLeDiff, Nat.reduceMul, ne_eq, not_false_eq_true, not_true_eq_false, reduceCtorEq, sizeLine_eq, see_non, see_bl, see_int, see_str, see_tup, see_fl, see_scr])
local macro_rules | `(tactic| walk_at "ax") => `(tactic| ((try (with_reducible refine lz_open ?_)); (try simp (config := { dsimp := false }) only [↓ax_xv0, ↓ax_xv1, ↓ax_xv2, ↓ax_xv3, ↓ax_xv4, ↓ax_xv5, ↓ax_xv6, ↓ax_xv7, ↓ax_xv8, ↓ax_xv9, ↓ax_xv10, ↓ax_xv11, ↓ax_xv12, ↓ax_xv13, ↓ax_xv14, ↓ax_xv15, ↓ax_xv16, ↓ax_xv17, ↓ax_xv18, ↓ax_xv19, ↓ax_xv20, ↓ax_xv21, ↓ax_xv22, ↓ax_xv23, ↓ax_xv24, ↓ax_xv25, ↓ax_xv26, ↓ax_xv27, ↓ax_xv28, ↓ax_xv29, ↓ax_xv30, ↓ax_xv31, ↓ax_xv32, ↓ax_xv33, ↓ax_xv34, ↓ax_xv35, ↓ax_xc, ↓ax_xop, ↓ax_xcb, ↓ax_xnil, ↓ax_xcons, ↓ax_xtup, ↓ax_xlst, ↓ax_xlstr, ↓ax_xtest, ↓ax_xts, ↓ax_xtrua, ↓ax_xand, ↓ax_xor, ↓ax_xnota, ↓ax_xandv, ↓ax_xorv, ↓ax_xnotv, ↓ax_xif, ↓ax_xisn, ↓ax_xin_non, ↓ax_xin_bl, ↓ax_xin_int, ↓ax_xin_str, ↓ax_xin_tup, ↓ax_xin_fl, ↓ax_xin_scr, ↓ax_xin_ref, ↓ax_xtr_non, ↓ax_xtr_bl, ↓ax_xtr_int, ↓ax_xtr_str, ↓ax_xtr_tup, ↓ax_xtr_fl, ↓ax_xtr_scr, ↓ax_xadd_i, ↓ax_xadd_s, ↓ax_xadd_t, ↓ax_xadd_f, ↓ax_xsub, ↓ax_xmul, ↓ax_xmul_f, ↓ax_xdiv, ↓ax_xmod, ↓ax_xpow, ↓ax_xshl, ↓ax_xlt, ↓ax_xle, ↓ax_xgt, ↓ax_xge, ↓ax_xiadd_i, ↓ax_xiadd_s, ↓ax_xneg, ↓ax_xng, ↓ax_xeq_ii, ↓ax_xeq_ss, ↓ax_xeq_non_non, ↓ax_xeq_non_bl, ↓ax_xeq_non_int, ↓ax_xeq_non_str, ↓ax_xeq_non_tup, ↓ax_xeq_non_fl, ↓ax_xeq_non_scr, ↓ax_xeq_bl_non, ↓ax_xeq_bl_bl, ↓ax_xeq_bl_int, ↓ax_xeq_bl_str, ↓ax_xeq_bl_tup, ↓ax_xeq_bl_fl, ↓ax_xeq_bl_scr, ↓ax_xeq_int_non, ↓ax_xeq_int_bl, ↓ax_xeq_int_str, ↓ax_xeq_int_tup, ↓ax_xeq_int_fl, ↓ax_xeq_int_scr, ↓ax_xeq_str_non, ↓ax_xeq_str_bl, ↓ax_xeq_str_int, ↓ax_xeq_str_tup, ↓ax_xeq_str_fl, ↓ax_xeq_str_scr, ↓ax_xeq_tup_non, ↓ax_xeq_tup_bl, ↓ax_xeq_tup_int, ↓ax_xeq_tup_str, ↓ax_xeq_tup_tup, ↓ax_xeq_tup_fl, ↓ax_xeq_tup_scr, ↓ax_xeq_fl_non, ↓ax_xeq_fl_bl, ↓ax_xeq_fl_int, ↓ax_xeq_fl_str, ↓ax_xeq_fl_tup, ↓ax_xeq_fl_fl, ↓ax_xeq_fl_scr, ↓ax_xeq_scr_non, ↓ax_xeq_scr_bl, ↓ax_xeq_scr_int, ↓ax_xeq_scr_str, ↓ax_xeq_scr_tup, ↓ax_xeq_scr_fl, ↓ax_xeq_scr_scr, ↓ax_xne_ii, ↓ax_xne_ss, ↓ax_xne_non_non, ↓ax_xne_non_bl, ↓ax_xne_non_int, ↓ax_xne_non_str, ↓ax_xne_non_tup, ↓ax_xne_non_fl, ↓ax_xne_non_scr, ↓ax_xne_bl_non, ↓ax_xne_bl_bl, ↓ax_xne_bl_int, ↓ax_xne_bl_str, ↓ax_xne_bl_tup, ↓ax_xne_bl_fl, ↓ax_xne_bl_scr, ↓ax_xne_int_non, ↓ax_xne_int_bl, ↓ax_xne_int_str, ↓ax_xne_int_tup, ↓ax_xne_int_fl, ↓ax_xne_int_scr, ↓ax_xne_str_non, ↓ax_xne_str_bl, ↓ax_xne_str_int, ↓ax_xne_str_tup, ↓ax_xne_str_fl, ↓ax_xne_str_scr, ↓ax_xne_tup_non, ↓ax_xne_tup_bl, ↓ax_xne_tup_int, ↓ax_xne_tup_str, ↓ax_xne_tup_tup, ↓ax_xne_tup_fl, ↓ax_xne_tup_scr, ↓ax_xne_fl_non, ↓ax_xne_fl_bl, ↓ax_xne_fl_int, ↓ax_xne_fl_str, ↓ax_xne_fl_tup, ↓ax_xne_fl_fl, ↓ax_xne_fl_scr, ↓ax_xne_scr_non, ↓ax_xne_scr_bl, ↓ax_xne_scr_int, ↓ax_xne_scr_str, ↓ax_xne_scr_tup, ↓ax_xne_scr_fl, ↓ax_xne_scr_scr, ↓ax_xix_tup, ↓ax_xix_fl, ↓ax_xix_scr, ↓ax_xat0, ↓ax_xat1, ↓ax_xat2, ↓ax_xat3, ↓ax_xat4, ↓ax_xat5, ↓ax_xat6, ↓ax_xat7, ↓ax_xat8, ↓ax_xat9, ↓ax_xat10, ↓ax_xat11, ↓ax_xlast1, ↓ax_xlast2, ↓ax_xlast3, ↓ax_xlast4, ↓ax_xlast5, ↓ax_gabs, ↓ax_gint_i, ↓ax_gint_b, ↓ax_glen_s, ↓ax_glen_tup, ↓ax_gtuple_tup, ↓ax_glst_tup, ↓ax_glstr_tup, ↓ax_glen_fl, ↓ax_gtuple_fl, ↓ax_glst_fl, ↓ax_glstr_fl, ↓ax_glen_scr, ↓ax_gtuple_scr, ↓ax_glst_scr, ↓ax_glstr_scr, ↓ax_gall, ↓ax_gany, ↓ax_gsum, ↓ax_gmax, ↓ax_gmin, ↓ax_xisi, ↓ax_xis_int_non, ↓ax_xis_int_bl, ↓ax_xis_int_int, ↓ax_xis_int_str, ↓ax_xis_int_tup, ↓ax_xis_int_fl, ↓ax_xis_int_scr, ↓ax_xis_bool_non, ↓ax_xis_bool_bl, ↓ax_xis_bool_int, ↓ax_xis_bool_str, ↓ax_xis_bool_tup, ↓ax_xis_bool_fl, ↓ax_xis_bool_scr, ↓ax_xis_str_non, ↓ax_xis_str_bl, ↓ax_xis_str_int, ↓ax_xis_str_str, ↓ax_xis_str_tup, ↓ax_xis_str_fl, ↓ax_xis_str_scr, ↓ax_xis_tuple_non, ↓ax_xis_tuple_bl, ↓ax_xis_tuple_int, ↓ax_xis_tuple_str, ↓ax_xis_tuple_tup, ↓ax_xis_tuple_fl, ↓ax_xis_tuple_scr, ↓ax_xis_list_non, ↓ax_xis_list_bl, ↓ax_xis_list_int, ↓ax_xis_list_str, ↓ax_xis_list_tup, ↓ax_xis_list_fl, ↓ax_xis_list_scr, ↓ax_xinb_tup, ↓ax_xinb_fl, ↓ax_xinb_scr, ↓ax_xnop, ↓ax_xpart, ↓ax_xopq, ↓ax_xsl, ↓ax_xsl_t, ↓ax_xsl_f, ↓ax_xsl_s, ↓ax_xchain, ↓ax_xch, ↓ax_xbits, ↓ax_xbi, ↓ax_xapp, ↓ax_xnext, ↓ax_xseq, ↓ax_xbreak, ↓ax_xcont, ↓ax_xdrop, ↓ax_xret, ↓ax_xretn, ↓ax_xifs, ↓ax_xset, ↓ax_xpar, ↓ax_xpa, ↓ax_xaug, ↓ax_xasg, ↓ax_xgname, ↓ax_xgnil, ↓ax_xgcons, ↓ax_xgtup, ↓ax_xgsub, ↓ax_xnx, ↓ax_xrt, ↓ax_xbk, ↓ax_xct, ↓ax_xend_rt, ↓ax_xend_nx, ↓ax_xit, ↓ax_xit_t, ↓ax_xit_f, ↓ax_xr1, ↓ax_xr2, ↓ax_xr1q, ↓ax_xr2q, ↓ax_xfor, ↓ax_xfo_seq, ↓ax_xfo_cel, ↓ax_xfo_enc, ↓ax_xlc, ↓ax_xlc_seq, ↓ax_xlc_cel, ↓ax_xlc_enc, ↓ax_xlcl_nil, ↓ax_xlcl_cons, ↓ax_xyes, ↓ax_xturn, ↓ax_xfinf, ↓ax_xfinr, ↓ax_lz1, ↓ax_lzD, ↓ax_lzB, ↓ax_lzL, ↓ax_lzS, ↓ax_lzO, ↓ax_lzc, ↓ax_lzn, ↓ax_xitt, ↓ax_xitf, ↓ax_xidec, ↓ax_xindec, ↓ax_xinot, ↓ax_xnep, ↓ax_xemp_n, ↓ax_xemp_c, ↓ax_enum, ↓ax_en_t, ↓ax_en_f, ↓ax_mulr, ↓ax_xisb, ↓ax_isb, ↓ax_xr3, ↓ax_xr3q, ↓ax_xrev, ↓ax_rev_t, ↓ax_rev_f, ↓ax_xdivx, ↓ax_mult, ↓ax_addr, ↓ax_xlr1, ↓ax_xlr1r, ↓ax_xlr2, ↓ax_rgq, ax_xv0, ax_xv1, ax_xv2, ax_xv3, ax_xv4, ax_xv5, ax_xv6, ax_xv7, ax_xv8, ax_xv9, ax_xv10, ax_xv11, ax_xv12, ax_xv13, ax_xv14, ax_xv15, ax_xv16, ax_xv17, ax_xv18, ax_xv19, ax_xv20, ax_xv21, ax_xv22, ax_xv23, ax_xv24, ax_xv25, ax_xv26, ax_xv27, ax_xv28, ax_xv29, ax_xv30, ax_xv31, ax_xv32, ax_xv33, ax_xv34, ax_xv35, ax_xat0, ax_xat1, ax_xat2, ax_xat3, ax_xat4, ax_xat5, ax_xat6, ax_xat7, ax_xat8, ax_xat9, ax_xat10, ax_xat11, ax_xlast1, ax_xlast2, ax_xlast3, ax_xlast4, ax_xlast5, ax_xlcl_cons, ax_xwipe0, ax_xwipe1, ax_lzc, ax_lzn, ax_xitt, ax_xitf, ax_xiT, ax_xiF, ax_xidec, ax_xindec, ax_xinot, ax_xnep, ax_xemp_n, ax_xemp_c, z_map_cons, z_map_nil, z_len_cons, z_len_nil, z_cons_append, z_nil_append, z_rep0, z_rep, z_get0, z_get, z_set0, z_set, z_set_set, z_len_set, z_true_and, z_and_true, z_not_t, z_not_f, z_some_eq, z_cast0, z_cast1, Int.cast_ofNat_Int, Nat.reduceAdd, Nat.reduceSub, L2.CPow, Int.reduceLE, Int.reduceLT, Int.reduceAbs, Int.reduceToNat, Int.reducePow, Int.reduceSub, Int.reduceAdd, Int.reduceMul, Int.reduceNeg, Int.reduceEq, Nat.reducePow, Nat.reduceLT, Nat.reduceLeDiff, Nat.reduceMul, ne_eq, not_false_eq_true, not_true_eq_false, reduceCtorEq, sizeLine_eq, startD, List.length_map, decide_true, decide_false, str_eq, String.reduceEq])))

/-! ### the draws: what all laws begin with -/
abbrev dcell (xs : List Int) (i b k : Int) : Cel := .lst [.fl (xs.map .int), .int i, .int b, .int k]
def Dr (S : Sto) (n : Nat) : Prop := ∃ xs i b k, S[n]? = some (dcell xs i b k) ∧ 0 ≤ i ∧ 0 ≤ b ∧ 0 ≤ k
def DrTo (S : Sto) (n : Nat) (S' : Sto) : Prop := ∃ xs i b k, S' = S.set n (dcell xs i b k) ∧ 0 ≤ i ∧ 0 ≤ b ∧ 0 ≤ k
theorem Dr.to {S S' : Sto} {n : Nat} (h : Dr S n) (t : DrTo S n S') : Dr S' n := by
  obtain ⟨xs, i, b, k, e, _⟩ := h
  obtain ⟨xs', i', b', k', rfl, g⟩ := t
  exact ⟨xs', i', b', k', get_set e, g⟩
theorem DrTo.trans {S S1 S2 : Sto} {n : Nat} (a : DrTo S n S1) (b : DrTo S1 n S2) : DrTo S n S2 := by
  obtain ⟨xs, i, c, k, rfl, _⟩ := a
  obtain ⟨xs', i', b', k', rfl, g⟩ := b
  exact ⟨xs', i', b', k', by rw [List.set_set], g⟩
theorem DrTo.len {S S1 : Sto} {n : Nat} (a : DrTo S n S1) : S1.length = S.length := by
  obtain ⟨xs, i, c, k, rfl, _⟩ := a
  rw [List.length_set]
theorem DrTo.other {S S1 : Sto} {n m : Nat} (a : DrTo S n S1) (h : n ≠ m) : S1[m]? = S[m]? := by
  obtain ⟨xs, i, c, k, rfl, _⟩ := a
  rw [List.getElem?_set_ne h]
theorem Dr.app {S : Sto} {n : Nat} (h : Dr S n) (T : Sto) : Dr (S ++ T) n := by
  obtain ⟨xs, i, b, k, e, g⟩ := h
  exact ⟨xs, i, b, k, by rw [List.getElem?_append_left (List.getElem?_eq_some_iff.mp e).1]; exact e, g⟩
theorem Dr.set {S : Sto} {n m : Nat} (h : Dr S n) (hm : m ≠ n) (c : Cel) : Dr (S.set m c) n := by
  obtain ⟨xs, i, b, k, e, g⟩ := h
  exact ⟨xs, i, b, k, by rw [List.getElem?_set_ne hm]; exact e, g⟩
theorem Dr.self {S : Sto} {n : Nat} (h : Dr S n) : DrTo S n S := by
  obtain ⟨xs, i, b, k, e, g⟩ := h
  obtain ⟨hl, e⟩ := List.getElem?_eq_some_iff.mp e
  refine ⟨xs, i, b, k, ?_, g⟩
  rw [← e, List.set_getElem_self]
def a_start : ASp := fun ds S Q _ => ∃ ns : List Int, ns.length ≤ 63 ∧ (ds = [.scr (ns.map .int)] ∨ ds = [.fl (ns.map .int)]) ∧ S = [] ∧ ∀ S', S'.length = 1 → Dr S' 0 → Q (.ref 0) S'
def a_fill : ASp := fun ds S Q _ => ∃ n, ds = [.ref n] ∧ Dr S n ∧ ∀ r S', DrTo S n S' → 0 ≤ r → Q (.int r) S'
def a_take : ASp := fun ds S Q _ => ∃ n many, ds = [.ref n, .int many] ∧ Dr S n ∧ (0 < many ∧ many < 2 ^ 64) ∧ ∀ r S', DrTo S n S' → 0 ≤ r → r < many → Q (.int r) S'
theorem divOk_small {j : Int} (h0 : j ≠ 0) (h : j.natAbs < 2 ^ 64) : DivOk j := by
  refine ⟨h0, ?_⟩
  have hp : j.natAbs ≠ 0 := by omega
  have : j.natAbs.log2 < 64 := (Nat.log2_lt hp).mpr h
  omega
theorem mulOk_small {i j : Int} (h : i.natAbs < 2 ^ 64 ∨ j.natAbs < 2 ^ 64) : MulOk i j := intMulOk_small h
theorem len_start : ∀ ds S Q XX, a_start ds S Q XX → ds.length = 1 := by rintro ds S Q XX ⟨ns, _, h | h, _⟩ <;> (rw [h]; rfl)
theorem len_fill : ∀ ds S Q XX, a_fill ds S Q XX → ds.length = 1 := by rintro ds S Q XX ⟨n, rfl, _⟩; rfl
theorem len_take : ∀ ds S Q XX, a_take ds S Q XX → ds.length = 2 := by rintro ds S Q XX ⟨n, m, rfl, _⟩; rfl
theorem take_map {α β : Type} (f : α → β) (xs : List α) (lo hi : Option Int) : cutL (xs.map f) lo hi = (cutL xs lo hi).map f := by
  unfold cutL; rw [List.length_map, ← List.map_drop, ← List.map_take]
theorem cutL_len {α : Type} (xs : List α) (lo hi : Option Int) : (cutL xs lo hi).length ≤ xs.length := by
  unfold cutL; rw [List.length_take, List.length_drop]; omega
theorem small_line {n : Nat} (h : n ≤ 1000000) : n ≤ sizeLine := by rw [sizeLine_eq]; omega
/-- a comprehension of int(cell) -/
theorem lc_ints (σ : ASt) (Q : List D → Sto → Prop) (i : Nat) (hi : i < σ.length) : ∀ (ns : List Int) (acc : List D) (S : Sto), Q (acc ++ ns.map .int) S → lcL (wgName i) wYes (wCB gInt (wCons (wVar i) wNil)) σ Q (ns.map .int) acc S
  | [], acc, S, h => by
    unfold lcL
    simpa using h
  | n :: ns, acc, S, h => by
    rw [List.map_cons]
    unfold lcL lcTurn
    simp only [wgName, wYes, wCB, wCons, wVar, wNil, gInt, if_true, List.getElem?_set_self hi]
    refine lc_ints σ Q i hi ns _ S ?_
    rw [List.append_assoc]
    exact h
theorem p_start : ∀ ds S Q XX, Closed S → a_start ds S Q XX → w__law_start (endOf Q S.length) (startD ["script", "cell"] ds) S (GivesX XX S.length) := by
  rintro ds S Q XX hC ⟨ns, hl, hd, rfl, q⟩
  have fin : ∀ xs : List Int, AW.Gives Q 0 (.ref 0) [dcell xs 0 0 0] := fun xs => gives_now (q _ rfl ⟨xs, 0, 0, 0, rfl, by omega, by omega, by omega⟩)
  unfold w__law_start
  have step : (cutL (ns.map D.int) none (some 63)).length ≤ sizeLine ∧
      lcL (wgName 1) wYes (wCB gInt (wCons (wVar 1) wNil)) [some (ds.headD .non), none] (fun acc S2 => [D.fl acc, .int 0, .int 0, .int 0].length ≤ sizeLine ∧ AW.Gives Q 0 (.ref S2.length) (S2 ++ [.lst [D.fl acc, .int 0, .int 0, .int 0]])) (cutL (ns.map D.int) none (some 63)) [] [] := by
    rw [take_map]
    refine ⟨by rw [List.length_map]; exact small_line (by have := cutL_len ns none (some 63); omega), lc_ints _ _ _ (Nat.lt_succ_self 1) _ _ _ ⟨small_line (show 4 ≤ 1000000 by decide), fin _⟩⟩
  rcases hd with rfl | rfl <;> exact step
theorem p_take : ∀ ds S Q XX, Closed S → a_take ds S Q XX → w__law_take a_fill (endOf Q S.length) (startD ["c", "many", "digit"] ds) S (GivesX XX S.length) := by
  rintro ds S Q XX hC ⟨n, many, rfl, ⟨xs, i, b, k, hS, h1, h2, h3⟩, hm, q⟩
  have hn : n < S.length := (List.getElem?_eq_some_iff.mp hS).1
  have h0 : many ≠ 0 := by omega
  have hd : DivOk many := divOk_small h0 (by omega)
  have fin : ∀ (xs : List Int) (i b k : Int), 0 ≤ i → 0 ≤ b → 0 ≤ k → AW.Gives Q S.length (D.int (b.fmod many)) (S.set n (dcell xs i (b.fdiv many) k)) := by
    intro xs i b k h1 h2 h3
    refine gives_now (q _ _ ⟨xs, i, b.fdiv many, k, rfl, h1, ?_, h3⟩ ?_ ?_)
    · rw [Int.fdiv_eq_ediv_of_nonneg _ (by omega)]; exact Int.ediv_nonneg h2 (by omega)
    · rw [Int.fmod_eq_emod_of_nonneg _ (by omega)]; exact Int.emod_nonneg _ (by omega)
    · rw [Int.fmod_eq_emod_of_nonneg _ (by omega)]; exact Int.emod_lt_of_pos _ (by omega)
  unfold w__law_take
  walk_at "aw"
  simp only [hS]
  walk_at "aw"
  split
  · refine ⟨n, rfl, ⟨xs, i, b, k, hS, h1, h2, h3⟩, ?_⟩
    rintro r S' ⟨xs', i', b', k', rfl, g1, g2, g3⟩ hr
    simp only [gss hn]
    walk_at "aw"
    simp only [gss hn]
    walk_at "aw"
    exact ⟨h0, hd, fin xs' i' r k' g1 hr g3⟩
  · exact ⟨h0, hd, fin xs i b k h1 h2 h3⟩
theorem p_fill : ∀ ds S Q XX, Closed S → a_fill ds S Q XX → w__law_fill (endOf Q S.length) (startD ["c", "number"] ds) S (GivesX XX S.length) := by
  rintro ds S Q XX hC ⟨n, rfl, ⟨xs, i, b, k, hS, h1, h2, h3⟩, q⟩
  have hn : n < S.length := (List.getElem?_eq_some_iff.mp hS).1
  have m1 : ∀ x : Int, MulOk x 69621 := fun x => mulOk_small (.inr (by decide))
  have m2 : ∀ x : Int, MulOk x 48271 := fun x => mulOk_small (.inr (by decide))
  have m3 : ∀ x : Int, MulOk x 7919 := fun x => mulOk_small (.inr (by decide))
  have hp : L2.CPow 10 18 := ⟨by decide, by decide, by decide⟩
  have z1 : (2147483647 : Int) ≠ 0 := by decide
  have z2 : (2305843009213693951 : Int) ≠ 0 := by decide
  have z3 : (1000003 : Int) ≠ 0 := by decide
  -- the state between the statements: number may be missing
  let P : ASt → Sto → Prop := fun σ' S' => ∃ num i', σ' = [some (.ref n), some (.int num)] ∧ S' = S.set n (dcell xs i' b (k + 1)) ∧ 0 ≤ num ∧ 0 ≤ i'
  unfold w__law_fill
  refine seq_cut (fun σ' S' => σ' = [some (.ref n), none] ∧ S' = S.set n (dcell xs i b (k + 1))) ?_ ?_
  rotate_left
  · intro R hR
    walk_at "aw"
    simp only [hS]
    walk_at "aw"
    walk_at "aw"
    exact hR _ _ ⟨rfl, rfl⟩
  rintro _ _ ⟨rfl, rfl⟩
  refine seq_cut P ?_ ?_
  rotate_left
  · intro R hR
    walk_at "aw"
    simp only [gss hn]
    walk_at "aw"
    exact ⟨m1 _, hR _ _ ⟨_, i, rfl, rfl, by omega, h1⟩⟩
  rintro _ _ ⟨num, i', rfl, rfl, hnum, hi'⟩
  refine seq_cut P ?_ ?_
  rotate_left
  · intro R hR
    walk_at "aw"
    simp only [gss hn]
    walk_at "aw"
    split
    · rename_i hlt
      rw [List.length_map] at hlt
      have e : L2.atI (xs.map D.int) i' = some (.int xs[i'.toNat]) := atI_of hi' (by rw [List.getElem?_map, List.getElem?_eq_getElem (by omega)]; rfl)
      have fin : ∀ v : Int, 0 ≤ v → (if (1000000000000000000 : Int) ≤ v then AW.Gives Q S.length (.int v) (S.set n (dcell xs (i' + 1) b (k + 1))) else R [some (.ref n), some (.int v)] (S.set n (dcell xs (i' + 1) b (k + 1)))) := by
        intro v hv
        split
        · exact gives_now (q _ _ ⟨xs, i' + 1, b, k + 1, rfl, by omega, h2, by omega⟩ hv)
        · exact hR _ _ ⟨v, i' + 1, rfl, rfl, hv, by omega⟩
      walk_at "aw"
      simp only [e]
      walk_at "aw"
      split
      · exact fin _ (by omega)
      · exact fin _ (by omega)
    · exact hR _ _ ⟨num, i', rfl, rfl, hnum, hi'⟩
  clear hnum hi'
  rintro _ _ ⟨num, i', rfl, rfl, hnum, hi'⟩
  refine seq_cut P ?_ ?_
  rotate_left
  · intro R hR
    walk_at "aw"
    simp only [gss hn]
    walk_at "aw"
    have same := hR _ _ ⟨num, i', rfl, rfl, hnum, hi'⟩
    split
    · split
      · rename_i hne _
        rcases List.eq_nil_or_concat xs with hx | ⟨ys, y, hx⟩
        · rw [hx] at hne; cases hne
        · have e : (xs.map D.int).getLast? = some (.int y) := by rw [hx]; simp
          walk_at "aw"
          simp only [e]
          walk_at "aw"
          refine hR _ _ ⟨_, i', rfl, rfl, ?_, hi'⟩
          rw [Int.fmod_eq_emod_of_nonneg _ (by decide)]
          have := Int.emod_nonneg y (show (1000003 : Int) ≠ 0 by decide)
          omega
      · exact same
    · exact same
  rintro _ _ ⟨num, i', rfl, rfl, hnum, hi'⟩
  walk_at "aw"
  simp only [gss hn]
  walk_at "aw"
  refine ⟨m2 _, m1 _, ?_, m3 _, gives_now (q _ _ ⟨xs, i', b, k + 1, rfl, hi', h2, by omega⟩ ?_)⟩
  · refine mulOk_small (.inl ?_)
    rw [Int.fmod_eq_emod_of_nonneg _ (by decide)]
    have a := Int.emod_nonneg (num * 48271 + (k + 1) * 69621) (show (2147483647 : Int) ≠ 0 by decide)
    have b := Int.emod_lt_of_pos (num * 48271 + (k + 1) * 69621) (show (0 : Int) < 2147483647 by decide)
    omega
  · rw [Int.fmod_eq_emod_of_nonneg _ (by decide : (0 : Int) ≤ 2305843009213693951)]
    have a := Int.emod_nonneg ((num * 48271 + (k + 1) * 69621).fmod 2147483647 * (num * 48271 + (k + 1) * 69621).fmod 2147483647 + (k + 1) * 7919 + 11) (show (2305843009213693951 : Int) ≠ 0 by decide)
    omega
/-! ### powers and drawn integers -/
def a_raised : ASp := fun ds S Q _ => ∃ b k : Int, ds = [.int b, .int k] ∧ b.natAbs < 2 ^ 64 ∧ 0 ≤ k ∧ k < 2 ^ 62 ∧ Q (.int (b ^ k.toNat)) S
theorem len_raised : ∀ ds S Q XX, a_raised ds S Q XX → ds.length = 2 := by rintro ds S Q XX ⟨b, k, rfl, _⟩; rfl
theorem p_raised : ∀ ds S Q XX, Closed S → a_raised ds S Q XX → w__law_raised (endOf Q S.length) (startD ["b", "k", "found", "j"] ds) S (GivesX XX S.length) := by
  rintro ds S Q XX hC ⟨b, k, rfl, hb, h0, h1, q⟩
  unfold w__law_raised
  walk_at "aw"
  refine ⟨⟨by omega, h1⟩, ?_⟩
  refine range_cut 0 k.toNat (fun i σ S' => S' = S ∧ ∃ y, σ = [some (.int b), some (.int k), some (.int (b ^ i)), y]) ⟨rfl, none, by rw [Int.pow_zero]⟩ ?_ ?_
  · rintro i σ S' R hi ⟨rfl, y, rfl⟩ hR
    walk_at "aw"
    refine ⟨mulOk_small (.inr hb), hR _ _ ⟨rfl, some (.int (0 + (i : Nat))), ?_⟩⟩
    rw [Int.pow_succ]
  · rintro σ S' ⟨rfl, y, rfl⟩
    walk_at "aw"
    exact gives_now q
def a_integer : ASp := fun ds S Q _ => ∃ n, ds = [.ref n] ∧ Dr S n ∧ ∀ r S', DrTo S n S' → (-(10 ^ 40) < r ∧ r < 10 ^ 40) → Q (.int r) S'
theorem len_integer : ∀ ds S Q XX, a_integer ds S Q XX → ds.length = 1 := by rintro ds S Q XX ⟨n, rfl, _⟩; rfl
theorem pow10_le {k : Nat} (h : k ≤ 39) : (0 : Int) < 10 ^ k ∧ (10 : Int) ^ k ≤ 10 ^ 39 := by
  have e : ((10 : Nat) ^ k : Nat) ≤ 10 ^ 39 := Nat.pow_le_pow_right (by decide) h
  have p : 0 < (10 : Nat) ^ k := Nat.pow_pos (by decide)
  have c : ((10 : Int) ^ k) = (((10 : Nat) ^ k : Nat) : Int) := by rw [Int.natCast_pow]; rfl
  have c2 : ((10 : Int) ^ 39) = (((10 : Nat) ^ 39 : Nat) : Int) := by decide
  rw [c, c2]
  omega
theorem p_integer : ∀ ds S Q XX, Closed S → a_integer ds S Q XX → w__law_integer a_take a_raised (endOf Q S.length) (startD ["c", "k", "n"] ds) S (GivesX XX S.length) := by
  rintro ds S Q XX hC ⟨n, rfl, hS, q⟩
  unfold w__law_integer
  let P : ASt → Sto → Prop := fun σ' S' => DrTo S n S' ∧ ∃ k num, σ' = [some (.ref n), some (.int k), some (.int num)] ∧ (-(10 ^ 40) < num ∧ num < 10 ^ 40)
  refine seq_cut (fun σ' S' => DrTo S n S' ∧ ∃ k, σ' = [some (.ref n), some (.int k), none] ∧ 0 ≤ k ∧ k < 8) ?_ ?_
  rotate_left
  · intro R hR
    walk_at "aw"
    refine ⟨n, 8, rfl, hS, by omega, fun r S' t h0 h1 => ?_⟩
    exact hR _ _ ⟨t, r, rfl, h0, h1⟩
  rintro σ S1 ⟨t1, k, rfl, hk0, hk1⟩
  refine seq_cut P ?_ ?_
  rotate_left
  · intro R hR
    walk_at "aw"
    refine ⟨n, 3, rfl, hS.to t1, by omega, fun r1 S2 t2 a0 a1 => ?_⟩
    refine ⟨n, 12, rfl, (hS.to t1).to t2, by omega, fun r2 S3 t3 b0 b1 => ?_⟩
    refine ⟨n, 200, rfl, ((hS.to t1).to t2).to t3, by omega, fun r3 S4 t4 c0 c1 => ?_⟩
    refine ⟨n, 99, rfl, (((hS.to t1).to t2).to t3).to t4, by omega, fun r4 S5 t5 d0 d1 => ?_⟩
    obtain ⟨m, hm, e⟩ := at_ints [r1, r2, r3, 1000000000 + r4, 0, 1, 2, 5] hk0 hk1
    simp only [List.map_cons, List.map_nil] at e
    simp only [e]
    refine hR _ _ ⟨(((t1.trans t2).trans t3).trans t4).trans t5, k, m, rfl, ?_⟩
    simp only [List.mem_cons, List.not_mem_nil, or_false] at hm
    omega
  rintro σ S2 ⟨t2, k, num, rfl, hn⟩
  refine seq_cut P ?_ ?_
  rotate_left
  · intro R hR
    walk_at "aw"
    refine ⟨n, 40, rfl, hS.to t2, by omega, fun r1 S3 t3 a0 a1 => ?_⟩
    walk_at "aw"
    split
    · refine ⟨n, 30, rfl, (hS.to t2).to t3, by omega, fun r2 S4 t4 b0 b1 => ?_⟩
      refine ⟨10, 10 + r2, rfl, by decide, by omega, by omega, ?_⟩
      refine ⟨n, 1000, rfl, ((hS.to t2).to t3).to t4, by omega, fun r3 S5 t5 c0 c1 => ?_⟩
      have := pow10_le (k := (10 + r2).toNat) (by omega)
      exact hR _ _ ⟨((t2.trans t3).trans t4).trans t5, k, _, rfl, by omega⟩
    · exact hR _ _ ⟨t2.trans t3, k, num, rfl, hn⟩
  rintro σ S3 ⟨t3, k, num, rfl, hn⟩
  walk_at "aw"
  refine ⟨n, 2, rfl, hS.to t3, by omega, fun r1 S4 t4 a0 a1 => ?_⟩
  walk_at "aw"
  split
  · exact gives_now (q _ _ (t3.trans t4) (by omega))
  · exact gives_now (q _ _ (t3.trans t4) hn)
/-! ### numbers -/
theorem len_law : ∀ ds S Q XX, aspLaw ds S Q XX → ds.length = 1 := by rintro ds S Q XX ⟨ns, _, h | h, _⟩ <;> (rw [h]; rfl)
theorem abs_lt {a : Int} {n : Nat} (h : -(2 ^ n : Nat) < a) (h2 : a < (2 ^ n : Nat)) : a.natAbs < 2 ^ n := by
  generalize (2 : Nat) ^ n = z at *
  omega
theorem mul_lt {x y : Int} {m n : Nat} (hx : x.natAbs < 2 ^ m) (hy : y.natAbs < 2 ^ n) : (x * y).natAbs < 2 ^ (m + n) := by
  rw [Int.natAbs_mul, Nat.pow_add]
  exact Nat.mul_lt_mul'' hx hy
theorem lt_big {x : Int} {m n : Nat} (hx : x.natAbs < 2 ^ m) (h : m ≤ n := by decide) : x.natAbs < 2 ^ n := Nat.lt_of_lt_of_le hx (Nat.pow_le_pow_right (by decide) h)
theorem mod19 (r : Int) : (r.fmod 10000000000000000000).natAbs < 2 ^ 64 ∧ 0 ≤ r.fmod 10000000000000000000 := by
  rw [fmod_pos (by decide)]
  have := Int.emod_nonneg r (show (10000000000000000000 : Int) ≠ 0 by decide)
  have := Int.emod_lt_of_pos r (show (0 : Int) < 10000000000000000000 by decide)
  omega
/-! ### greatest common divisors and fractions -/
def a_gcd : ASp := fun ds S Q _ => match ds with
  | [.int a, .int b] => Q (.int (Int.gcd a b : Nat)) S
  | _ => False
theorem gcd_args {ds S Q XX} (q : a_gcd ds S Q XX) : ∃ a b : Int, ds = [.int a, .int b] ∧ Q (.int (Int.gcd a b : Nat)) S := by
  unfold a_gcd at q
  split at q
  · exact ⟨_, _, rfl, q⟩
  · exact q.elim
theorem len_divisor : ∀ ds S Q XX, a_gcd ds S Q XX → ds.length = 2 := by
  intro ds S Q XX h
  obtain ⟨a, b, rfl, _⟩ := gcd_args h
  rfl
theorem len_lcommon : ∀ ds S Q XX, a_gcd ds S Q XX → ds.length = 2 := len_divisor
theorem gcd_turn (a b : Int) : Int.gcd b (a % b) = Int.gcd a b := by
  rw [Int.gcd_comm b, Int.gcd_comm a]
  have h := Int.emod_add_mul_ediv a b
  have e : a = (a / b) * b + a % b := by rw [Int.mul_comm]; omega
  conv => rhs; rw [e]
  rw [Int.gcd_mul_right_add_right, Int.gcd_comm]
theorem p_lcommon : ∀ ds S Q XX, Closed S → a_gcd ds S Q XX → w__law_common (endOf Q S.length) (startD ["a", "b", "rest"] ds) S (GivesX XX S.length) := by
  intro ds S Q XX hC q0
  obtain ⟨a, b, rfl, q⟩ := gcd_args q0
  unfold w__law_common
  walk_at "aw"
  let P : Nat → ASt → Sto → Prop := fun m σ S' => S = S' ∧ ∃ x y : Int, ∃ z, 0 ≤ x ∧ 0 ≤ y ∧ Int.gcd x y = Int.gcd a b ∧ m = y.toNat ∧ σ = [some (.int x), some (.int y), z]
  refine while_cut P b.natAbs ⟨rfl, a.natAbs, b.natAbs, none, by omega, by omega, rfl, by omega, rfl⟩ ?_
  rintro m σ S' R2 ⟨rfl, x, y, z, hx, hy, hg, rfl, rfl⟩ hR2
  walk_at "aw"
  by_cases e : y = 0
  · subst e
    rw [if_pos rfl]
    rw [Int.gcd_zero_right] at hg
    rw [← hg] at q
    rw [show x = (x.natAbs : Int) by omega]
    exact gives_now q
  · rw [if_neg e]
    rw [fmod_pos hy]
    have m0 := Int.emod_nonneg x e
    have m1 := Int.emod_lt_of_pos x (show 0 < y by omega)
    exact ⟨e, hR2 _ _ _ (by omega) ⟨rfl, y, x % y, _, hy, m0, by rw [gcd_turn, hg], rfl, rfl⟩⟩

/-! ### power series: what polynomials are counted in -/
structure Ser (T : Type) where
  c : Nat → T
namespace Ser
open Lean.Grind
variable {T : Type}
theorem ext {f g : Ser T} (h : ∀ i, f.c i = g.c i) : f = g := by
  cases f; cases g
  congr
  funext i
  exact h i
variable [CommRing T]
def const (a : T) : Ser T := ⟨fun i => match i with
  | 0 => a
  | _ + 1 => 0⟩
def add (f g : Ser T) : Ser T := ⟨fun i => f.c i + g.c i⟩
def neg (f : Ser T) : Ser T := ⟨fun i => -f.c i⟩
def tl (f : Ser T) : Ser T := ⟨fun i => f.c (i + 1)⟩
def mulc : Nat → Ser T → Ser T → T
  | 0, f, g => f.c 0 * g.c 0
  | n + 1, f, g => f.c 0 * g.c (n + 1) + mulc n f.tl g
def mul (f g : Ser T) : Ser T := ⟨fun n => mulc n f g⟩
theorem mulc_add_left : ∀ (n : Nat) (f f' g : Ser T), mulc n (f.add f') g = mulc n f g + mulc n f' g
  | 0, f, f', g => by simp only [mulc, add]; grind
  | n + 1, f, f', g => by
    have e : (f.add f').tl = f.tl.add f'.tl := rfl
    simp only [mulc]
    rw [e, mulc_add_left n]
    simp only [add]
    grind
theorem mulc_add_right : ∀ (n : Nat) (f g g' : Ser T), mulc n f (g.add g') = mulc n f g + mulc n f g'
  | 0, f, g, g' => by simp only [mulc, add]; grind
  | n + 1, f, g, g' => by
    simp only [mulc]
    rw [mulc_add_right n]
    simp only [add]
    grind
theorem mulc_last : ∀ (n : Nat) (f g : Ser T), mulc (n + 1) f g = f.c (n + 1) * g.c 0 + mulc n f g.tl
  | 0, f, g => by simp only [mulc, tl]; grind
  | n + 1, f, g => by
    rw [mulc, mulc_last n f.tl g]
    simp only [mulc, tl]
    grind
theorem mulc_comm : ∀ (n : Nat) (f g : Ser T), mulc n f g = mulc n g f
  | 0, f, g => by simp only [mulc]; grind
  | n + 1, f, g => by
    rw [mulc_last, mulc, mulc_comm n f g.tl]
    grind
def smul (a : T) (f : Ser T) : Ser T := ⟨fun i => a * f.c i⟩
theorem mulc_smul : ∀ (n : Nat) (a : T) (f g : Ser T), mulc n (smul a f) g = a * mulc n f g
  | 0, a, f, g => by simp only [mulc, smul]; grind
  | n + 1, a, f, g => by
    have e : (smul a f).tl = smul a f.tl := rfl
    simp only [mulc]
    rw [e, mulc_smul n]
    simp only [smul]
    grind
theorem tl_mul (f g : Ser T) : (mul f g).tl = (smul (f.c 0) g.tl).add (mul f.tl g) := rfl
theorem mulc_assoc : ∀ (n : Nat) (f g h : Ser T), mulc n (mul f g) h = mulc n f (mul g h)
  | 0, f, g, h => by simp only [mulc, mul]; grind
  | n + 1, f, g, h => by
    have e : (mul f g).c 0 = f.c 0 * g.c 0 := rfl
    have e2 : (mul g h).c (n + 1) = g.c 0 * h.c (n + 1) + mulc n g.tl h := rfl
    rw [mulc, mulc, tl_mul, mulc_add_left, mulc_smul, mulc_assoc n, e, e2]
    grind
theorem mulc_const : ∀ (n : Nat) (a : T) (g : Ser T), mulc n (const a) g = a * g.c n
  | 0, a, g => rfl
  | n + 1, a, g => by
    have e : (const a : Ser T).tl = smul 0 (const 0) := by
      apply ext; intro i; simp only [tl, const, smul]; grind
    rw [mulc, e, mulc_smul]
    simp only [const]
    grind
def pw (f : Ser T) : Nat → Ser T
  | 0 => const 1
  | n + 1 => mul (pw f n) f
instance : CommRing (Ser T) where
  add := add
  mul := mul
  neg := neg
  sub f g := add f (neg g)
  natCast := ⟨fun n => const (OfNat.ofNat n)⟩
  ofNat n := ⟨const (OfNat.ofNat n)⟩
  nsmul := ⟨fun n f => mul (const (OfNat.ofNat n)) f⟩
  npow := ⟨pw⟩
  intCast := ⟨fun i => const (Ring.intCast.intCast i)⟩
  zsmul := ⟨fun i f => mul (const (Ring.intCast.intCast i)) f⟩
  add_zero f := ext fun i => by
    show f.c i + (const (OfNat.ofNat 0)).c i = f.c i
    cases i <;> simp only [const] <;> grind
  add_comm f g := ext fun i => by
    show f.c i + g.c i = g.c i + f.c i
    grind
  add_assoc f g h := ext fun i => by
    show f.c i + g.c i + h.c i = f.c i + (g.c i + h.c i)
    grind
  mul_assoc f g h := ext fun i => mulc_assoc i f g h
  mul_one f := ext fun i => by
    show mulc i f (const (OfNat.ofNat 1)) = f.c i
    rw [mulc_comm, mulc_const]
    grind
  one_mul f := ext fun i => by
    show mulc i (const (OfNat.ofNat 1)) f = f.c i
    rw [mulc_const]
    grind
  left_distrib f g h := ext fun i => mulc_add_right i f g h
  right_distrib f g h := ext fun i => mulc_add_left i f g h
  zero_mul f := ext fun i => by
    show mulc i (const (OfNat.ofNat 0)) f = (const (OfNat.ofNat 0)).c i
    rw [mulc_const]
    cases i <;> simp only [const] <;> grind
  mul_zero f := ext fun i => by
    show mulc i f (const (OfNat.ofNat 0)) = (const (OfNat.ofNat 0)).c i
    rw [mulc_comm, mulc_const]
    cases i <;> simp only [const] <;> grind
  pow_zero f := rfl
  pow_succ f n := rfl
  ofNat_succ n := ext fun i => by
    show (const (OfNat.ofNat (n + 1))).c i = (const (OfNat.ofNat n)).c i + (const (OfNat.ofNat 1)).c i
    cases i
    · exact Semiring.ofNat_succ n
    · simp only [const]; grind
  ofNat_eq_natCast n := rfl
  nsmul_eq_natCast_mul n f := rfl
  neg_add_cancel f := ext fun i => by
    show -f.c i + f.c i = (const (OfNat.ofNat 0)).c i
    cases i <;> simp only [const] <;> grind
  sub_eq_add_neg f g := rfl
  neg_zsmul i f := ext fun j => by
    show mulc j (const (Ring.intCast.intCast (-i))) f = -mulc j (const (Ring.intCast.intCast i)) f
    rw [mulc_const, mulc_const]
    have := Ring.intCast_neg (α := T) i
    have e : (Ring.intCast.intCast (-i) : T) = -(Ring.intCast.intCast i : T) := this
    rw [e]
    grind
  zsmul_natCast_eq_nsmul n f := ext fun j => by
    show mulc j (const (Ring.intCast.intCast (n : Int))) f = mulc j (const (OfNat.ofNat n)) f
    rw [show (Ring.intCast.intCast (n : Int) : T) = OfNat.ofNat n from Ring.intCast_ofNat n]
  intCast_ofNat n := by
    show const (Ring.intCast.intCast (OfNat.ofNat n : Int)) = const (OfNat.ofNat n)
    rw [show (Ring.intCast.intCast (OfNat.ofNat n : Int) : T) = OfNat.ofNat n from Ring.intCast_ofNat n]
  intCast_neg i := ext fun j => by
    show (const (Ring.intCast.intCast (-i))).c j = -(const (Ring.intCast.intCast i)).c j
    cases j
    · exact Ring.intCast_neg i
    · simp only [const]; grind
  mul_comm f g := ext fun i => mulc_comm i f g
theorem c_add (f g : Ser T) (i : Nat) : (f + g).c i = f.c i + g.c i := rfl
theorem c_neg (f : Ser T) (i : Nat) : (-f).c i = -f.c i := rfl
theorem c_sub (f g : Ser T) (i : Nat) : (f - g).c i = f.c i + -g.c i := rfl
theorem c_mul (f g : Ser T) (i : Nat) : (f * g).c i = mulc i f g := rfl
theorem c_zero (i : Nat) : (0 : Ser T).c i = 0 := by
  show (const (OfNat.ofNat 0)).c i = 0
  cases i <;> rfl
theorem c_one (i : Nat) : (1 : Ser T).c i = if i = 0 then 1 else 0 := by
  show (const (OfNat.ofNat 1)).c i = _
  cases i
  · rfl
  · rw [if_neg (by omega)]; rfl
/-! ### lists of coefficients -/
/-- the coefficients of a list -/
def cf (l : List T) (i : Nat) : T := (l[i]?).getD 0
def of (l : List T) : Ser T := ⟨cf l⟩
theorem cf_lt {l : List T} {i : Nat} {a : T} (h : l[i]? = some a) : cf l i = a := by unfold cf; rw [h]; rfl
theorem cf_ge {l : List T} {i : Nat} (h : l.length ≤ i) : cf l i = 0 := by unfold cf; rw [List.getElem?_eq_none h]; rfl
theorem of_nil : (of [] : Ser T) = 0 := ext fun i => by
  rw [c_zero]
  exact cf_ge (l := []) (i := i) (Nat.zero_le i)
variable [DecidableEq T]
/-- without the zeros at the end -/
def trim : List T → List T
  | [] => []
  | a :: l => match trim l with
    | [] => if a = 0 then [] else [a]
    | b :: r => a :: b :: r
theorem cf_cons (a : T) (l : List T) (i : Nat) : cf (a :: l) i = match i with
    | 0 => a
    | i + 1 => cf l i := by
  cases i <;> rfl
theorem cf_trim : ∀ (l : List T) (i : Nat), cf (trim l) i = cf l i
  | [], i => rfl
  | a :: l, i => by
    have ih := cf_trim l
    unfold trim
    cases e : trim l with
    | nil =>
      rw [e] at ih
      have z : ∀ j, cf l j = 0 := fun j => by rw [← ih j]; exact cf_ge (l := []) (Nat.zero_le _)
      simp only
      split
      · rename_i h
        rw [cf_cons, cf_ge (l := []) (Nat.zero_le _)]
        cases i
        · exact h.symm
        · exact (z _).symm
      · rw [cf_cons, cf_cons]
        cases i
        · rfl
        · show cf [] _ = cf l _
          rw [z, cf_ge (l := []) (Nat.zero_le _)]
    | cons b r =>
      rw [e] at ih
      simp only
      rw [cf_cons, cf_cons]
      cases i
      · rfl
      · exact ih _
/-- no zero at the end -/
def nt (l : List T) : Prop := ∀ a, l.getLast? = some a → a ≠ 0
theorem nt_nil : nt ([] : List T) := fun a h => by cases h
theorem nt_trim : ∀ l : List T, nt (trim l)
  | [] => nt_nil
  | a :: l => by
    have ih := nt_trim l
    unfold trim
    cases e : trim l with
    | nil =>
      simp only
      split
      · exact nt_nil
      · rename_i h
        intro b hb
        cases hb
        exact h
    | cons b r =>
      rw [e] at ih
      intro x hx
      exact ih x (by rw [List.getLast?_cons_cons] at hx; exact hx)
theorem nt_eq {l r : List T} (hl : nt l) (hr : nt r) (h : ∀ i, cf l i = cf r i) : l = r := by
  have len : ∀ {l r : List T}, nt l → (∀ i, cf l i = cf r i) → l.length ≤ r.length := by
    intro l r hl h
    rcases Nat.lt_or_ge r.length l.length with x | x
    · exfalso
      have hlast : l.getLast? = some (l[l.length - 1]'(by omega)) := by rw [List.getLast?_eq_getElem?, List.getElem?_eq_getElem (by omega)]
      refine hl _ hlast ?_
      have e1 : cf l (l.length - 1) = l[l.length - 1]'(by omega) := cf_lt (List.getElem?_eq_getElem (by omega))
      rw [← e1, h, cf_ge (by omega)]
    · exact x
  have e : l.length = r.length := Nat.le_antisymm (len hl h) (len hr fun i => (h i).symm)
  refine List.ext_getElem e fun i h1 h2 => ?_
  have := h i
  rwa [cf_lt (List.getElem?_eq_getElem h1), cf_lt (List.getElem?_eq_getElem h2)] at this
theorem trim_nt {l : List T} (h : nt l) : trim l = l := nt_eq (nt_trim l) h (cf_trim l)
theorem of_trim (l : List T) : of (trim l) = of l := ext (cf_trim l)
theorem nt_inj {l r : List T} (hl : nt l) (hr : nt r) (h : of l = of r) : l = r := nt_eq hl hr fun i => congrArg (fun f => Ser.c f i) h
theorem trim_eq {l r : List T} (h : of l = of r) : trim l = trim r := nt_inj (nt_trim l) (nt_trim r) (by rw [of_trim, of_trim, h])
theorem trim_len (l : List T) : (trim l).length ≤ l.length := by
  induction l with
  | nil => exact Nat.le_refl _
  | cons a l ih =>
    unfold trim
    cases e : trim l with
    | nil => simp only; split <;> simp
    | cons b r => rw [e] at ih; simp only [List.length_cons] at ih ⊢; omega
end Ser
/-! ### one coefficient alone -/
namespace Ser
open Lean.Grind
variable {T : Type} [CommRing T]
def mon (i : Nat) (a : T) : Ser T := ⟨fun n => if n = i then a else 0⟩
theorem mulc_zero : ∀ (n : Nat) (f g : Ser T), (∀ i, f.c i = 0) → mulc n f g = 0
  | 0, f, g, h => by simp only [mulc]; rw [h]; grind
  | n + 1, f, g, h => by
    rw [mulc, mulc_zero n f.tl g fun i => h (i + 1), h]
    grind
theorem mulc_mon : ∀ (n i j : Nat) (a b : T), mulc n (mon i a) (mon j b) = if n = i + j then a * b else 0
  | 0, i, j, a, b => by
    simp only [mulc, mon]
    rcases Nat.eq_zero_or_pos i with rfl | hi
    · rcases Nat.eq_zero_or_pos j with rfl | hj
      · rw [if_pos rfl, if_pos rfl, if_pos rfl]
      · rw [if_pos rfl, if_neg (by omega), if_neg (by omega)]; grind
    · rw [if_neg (by omega), if_neg (show ¬(0 = i + j) by omega)]; grind
  | n + 1, 0, j, a, b => by
    rw [mulc, mulc_zero n (mon 0 a).tl _ fun i => show (if i + 1 = 0 then a else 0) = 0 from if_neg (by omega)]
    show (if 0 = 0 then a else 0) * (if n + 1 = j then b else 0) + 0 = _
    rw [if_pos rfl, Nat.zero_add]
    split <;> grind
  | n + 1, i + 1, j, a, b => by
    have e : (mon (i + 1) a).tl = mon i a := by
      apply ext
      intro m
      show (if m + 1 = i + 1 then a else 0) = if m = i then a else 0
      by_cases h : m = i
      · rw [if_pos h, if_pos (by omega)]
      · rw [if_neg h, if_neg (by omega)]
    rw [mulc, e, mulc_mon n i j]
    show (if 0 = i + 1 then a else 0) * _ + _ = _
    rw [if_neg (by omega)]
    by_cases h : n = i + j
    · rw [if_pos h, if_pos (show n + 1 = i + 1 + j by omega)]; grind
    · rw [if_neg h, if_neg (show ¬(n + 1 = i + 1 + j) by omega)]; grind
theorem mon_mul (i j : Nat) (a b : T) : mon i a * mon j b = mon (i + j) (a * b) := ext fun n => mulc_mon n i j a b
theorem of_take_succ {x : List T} {i : Nat} {a : T} (h : x[i]? = some a) : of (x.take (i + 1)) = of (x.take i) + mon i a := ext fun n => by
  rw [c_add]
  show cf _ n = cf _ n + if n = i then a else 0
  by_cases hn : n = i
  · subst hn
    rw [if_pos rfl, cf_lt (a := a) (by rw [List.getElem?_take_of_lt (by omega)]; exact h), cf_ge (by rw [List.length_take]; omega)]
    grind
  · rw [if_neg hn]
    rcases Nat.lt_or_ge n i with z | z
    · unfold cf
      rw [List.getElem?_take_of_lt (by omega), List.getElem?_take_of_lt z]
      grind
    · rw [cf_ge (by rw [List.length_take]; omega), cf_ge (by rw [List.length_take]; omega)]
      grind
theorem of_set {x : List T} {n : Nat} {c d : T} (h : x[n]? = some c) : of (x.set n (c + d)) = of x + mon n d := ext fun m => by
  rw [c_add]
  show cf _ m = cf x m + if m = n then d else 0
  have hn := (List.getElem?_eq_some_iff.mp h).1
  by_cases hm : m = n
  · subst hm
    rw [if_pos rfl, cf_lt (List.getElem?_set_self hn), cf_lt h]
  · rw [if_neg hm]
    unfold cf
    rw [List.getElem?_set_ne (by omega)]
    grind
theorem of_zeros {n : Nat} : of (List.replicate n (0 : T)) = 0 := ext fun i => by
  rw [c_zero]
  show cf _ i = 0
  unfold cf
  rw [List.getElem?_replicate]
  split <;> rfl
theorem of_take_zero {x : List T} : of (x.take 0) = 0 := of_nil
end Ser
namespace Ser
open Lean.Grind
variable {T : Type} [CommRing T]
theorem mulc_mon_left : ∀ (n i : Nat) (a : T) (f : Ser T), mulc n (mon i a) f = if i ≤ n then a * f.c (n - i) else 0
  | 0, i, a, f => by
    simp only [mulc, mon]
    rcases Nat.eq_zero_or_pos i with rfl | hi
    · rw [if_pos rfl, if_pos (Nat.le_refl 0)]
    · rw [if_neg (by omega), if_neg (by omega)]; grind
  | n + 1, 0, a, f => by
    rw [mulc, mulc_zero n (mon 0 a).tl _ fun i => show (if i + 1 = 0 then a else 0) = 0 from if_neg (by omega), if_pos (Nat.zero_le _)]
    show (if 0 = 0 then a else 0) * f.c (n + 1) + 0 = _
    rw [if_pos rfl, Nat.sub_zero]
    grind
  | n + 1, i + 1, a, f => by
    have e : (mon (i + 1) a).tl = mon i a := by
      apply ext
      intro m
      show (if m + 1 = i + 1 then a else 0) = if m = i then a else 0
      by_cases h : m = i
      · rw [if_pos h, if_pos (by omega)]
      · rw [if_neg h, if_neg (by omega)]
    rw [mulc, e, mulc_mon_left n i]
    show (if 0 = i + 1 then a else 0) * _ + _ = _
    rw [if_neg (by omega)]
    by_cases h : i ≤ n
    · rw [if_pos h, if_pos (show i + 1 ≤ n + 1 by omega), show n + 1 - (i + 1) = n - i by omega]; grind
    · rw [if_neg h, if_neg (show ¬(i + 1 ≤ n + 1) by omega)]; grind
theorem c_mon_mul (i j : Nat) (a : T) (f : Ser T) : (mon i a * f).c j = if i ≤ j then a * f.c (j - i) else 0 := mulc_mon_left j i a f
end Ser
/-! ### fractions in lowest terms -/
def qe (x : Rat) : D := .tup [.int x.num, .int (x.den : Nat)]
def a_fr : ASp := fun ds S Q _ => match ds with
  | [.int n, .int d] => d ≠ 0 ∧ Q (qe (Rat.divInt n d)) S
  | _ => False
theorem fr_args {ds S Q XX} (q : a_fr ds S Q XX) : ∃ n d : Int, ds = [.int n, .int d] ∧ d ≠ 0 ∧ Q (qe (Rat.divInt n d)) S := by
  unfold a_fr at q
  split at q
  · exact ⟨_, _, rfl, q⟩
  · exact q.elim
theorem len_fr : ∀ ds S Q XX, a_fr ds S Q XX → ds.length = 2 := by
  intro ds S Q XX h
  obtain ⟨a, b, rfl, _⟩ := fr_args h
  rfl
theorem len_fraction : ∀ ds S Q XX, a_fr ds S Q XX → ds.length = 2 := len_fr
theorem len_lfraction : ∀ ds S Q XX, a_fr ds S Q XX → ds.length = 2 := len_fr
theorem fr_le {n d : Int} (h0 : d ≠ 0) : Int.gcd n d ≤ d.natAbs := by
  have := Int.gcd_dvd_right n d
  exact Nat.le_of_dvd (by omega) (Int.natCast_dvd_natCast.mp (Int.dvd_natAbs.mpr this))
theorem fr_pos {n d : Int} (h : 0 < d) : n.fdiv (Int.gcd n d : Nat) = (Rat.divInt n d).num ∧ d.fdiv (Int.gcd n d : Nat) = ((Rat.divInt n d).den : Nat) := by
  rw [Rat.num_divInt, Rat.den_divInt, if_neg (by omega), fdiv_pos (by omega), fdiv_pos (by omega), Int.sign_eq_one_of_pos h, Int.one_mul, Int.gcd_comm d n]
  refine ⟨rfl, ?_⟩
  rw [Int.natCast_ediv, show ((d.natAbs : Nat) : Int) = d by omega]
theorem fr_neg {n d : Int} (h : d < 0) : n.fdiv (-(Int.gcd n d : Nat)) = (Rat.divInt n d).num ∧ d.fdiv (-(Int.gcd n d : Nat)) = ((Rat.divInt n d).den : Nat) := by
  have fl : ∀ x g : Int, 0 ≤ g → x.fdiv (-g) = -x / g := fun x g hg => by
    rw [← fdiv_pos hg]
    conv => lhs; rw [← Int.neg_neg x]
    exact Int.neg_fdiv_neg (-x) g
  rw [Rat.num_divInt, Rat.den_divInt, if_neg (by omega), fl _ _ (by omega), fl _ _ (by omega), Int.sign_eq_neg_one_of_neg h, Int.neg_mul, Int.one_mul, Int.gcd_comm d n]
  refine ⟨rfl, ?_⟩
  rw [Int.natCast_ediv, show ((d.natAbs : Nat) : Int) = -d by omega]
theorem fr_ok {n d : Int} (h0 : d ≠ 0) : ((Int.gcd n d : Nat) : Int) ≠ 0 ∧ (-(Int.gcd n d : Nat) : Int) ≠ 0 := by
  have b : 0 < Int.gcd n d := Int.gcd_pos_of_ne_zero_right n h0
  omega
theorem p_lfraction : ∀ ds S Q XX, Closed S → a_fr ds S Q XX → w__law_fraction a_gcd (endOf Q S.length) (startD ["n", "m", "g"] ds) S (GivesX XX S.length) := by
  intro ds S Q XX hC q0
  obtain ⟨n, d, rfl, h0, q⟩ := fr_args q0
  obtain ⟨k1, k2⟩ := fr_ok (n := n) h0
  unfold w__law_fraction
  walk_at "ax"
  simp only [a_gcd]
  walk_at "ax"
  split
  · rename_i h
    obtain ⟨e1, e2⟩ := fr_neg (n := n) h
    walk_at "ax"
    rw [Int.zero_sub, e1, e2]
    exact ⟨k2, k2, gives_now q⟩
  · obtain ⟨e1, e2⟩ := fr_pos (n := n) (show 0 < d by omega)
    walk_at "ax"
    rw [e1, e2]
    exact ⟨k1, k1, gives_now q⟩
/-! ### base domains: the integers, the fractions, the integers modulo n + 2 -/
inductive Bk where
  | z | q | f (n : Nat)
@[reducible] def Bk.T : Bk → Type
  | .z => Int
  | .q => Rat
  | .f n => Fin (n + 2)
instance Bk.ring : (b : Bk) → Lean.Grind.CommRing b.T
  | .z => inferInstanceAs (Lean.Grind.CommRing Int)
  | .q => inferInstanceAs (Lean.Grind.CommRing Rat)
  | .f n => inferInstanceAs (Lean.Grind.CommRing (Fin (n + 2)))
instance Bk.deq : (b : Bk) → DecidableEq b.T
  | .z => inferInstanceAs (DecidableEq Int)
  | .q => inferInstanceAs (DecidableEq Rat)
  | .f n => inferInstanceAs (DecidableEq (Fin (n + 2)))
def Bk.dom : Bk → D
  | .z => .tup [.str "Z"]
  | .q => .tup [.str "Q"]
  | .f n => .tup [.str "F", .int (n + 2 : Nat)]
def Bk.enc : (b : Bk) → b.T → D
  | .z, x => .int x
  | .q, x => qe x
  | .f _, x => .int (x.val : Nat)
/-- p is not too large -/
def Bk.ok : Bk → Prop
  | .f n => n < 2 ^ 20
  | _ => True
theorem qe_inj {x y : Rat} (h : qe x = qe y) : x = y := by
  unfold qe at h
  injection h with h
  injection h with h1 h2
  injection h2 with h3 h4
  injection h1 with h1
  injection h3 with h3
  exact Rat.ext h1 (by omega)
theorem Bk.enc_inj : (b : Bk) → {x y : b.T} → b.enc x = b.enc y → x = y
  | .z, x, y, h => by injection h
  | .q, x, y, h => qe_inj h
  | .f n, x, y, h => by
    injection h with h
    exact Fin.ext (by omega)
theorem Bk.enc_cl : (b : Bk) → (x : b.T) → (b.enc x).cl 1 = true
  | .z, x => rfl
  | .q, x => rfl
  | .f n, x => rfl
/-- x is c / D, c not above N -/
def Bk.sz : (b : Bk) → (D N : Nat) → b.T → Prop
  | .z, _, N, x => x.natAbs ≤ N
  | .q, D, N, x => ∃ c : Int, x * ((D : Nat) : Rat) = (c : Rat) ∧ c.natAbs ≤ N
  | .f _, _, _, _ => True
theorem szq_parts {D N : Nat} {x : Rat} (hD : 0 < D) (h : Bk.sz .q D N x) : x.den ∣ D ∧ x.num.natAbs ≤ N := by
  obtain ⟨c, hc, hN⟩ := h
  have e : x.num * (D : Int) = c * (x.den : Nat) := by
    have hx : x = (x.num : Rat) / ((x.den : Nat) : Rat) := by rw [← Rat.mkRat_eq_div, Rat.mkRat_self]
    have d0 : ((x.den : Nat) : Rat) ≠ 0 := by
      intro z
      exact x.den_nz (Rat.natCast_eq_zero_iff.mp z)
    have e1 : x * ((x.den : Nat) : Rat) = (x.num : Rat) := by
      have h1 : (x.num : Rat) / ((x.den : Nat) : Rat) * ((x.den : Nat) : Rat) = (x.num : Rat) := Rat.div_mul_cancel d0
      rwa [← hx] at h1
    have e2 : (x.num : Rat) * ((D : Nat) : Rat) = (c : Rat) * ((x.den : Nat) : Rat) := by rw [← e1, ← hc]; grind
    have e3 : ((x.num * (D : Int) : Int) : Rat) = ((c * ((x.den : Nat) : Int) : Int) : Rat) := by
      rw [Rat.intCast_mul, Rat.intCast_mul, Rat.intCast_natCast, Rat.intCast_natCast]
      exact e2
    exact Rat.intCast_inj.mp e3
  have dv : x.den ∣ D := by
    have h1 : x.den ∣ x.num.natAbs * D := by
      have := congrArg Int.natAbs e
      rw [Int.natAbs_mul, Int.natAbs_mul, Int.natAbs_natCast, Int.natAbs_natCast] at this
      rw [this]
      exact Nat.dvd_mul_left _ _
    exact (Nat.Coprime.dvd_of_dvd_mul_left (Nat.Coprime.symm x.reduced) h1)
  refine ⟨dv, ?_⟩
  have le := Nat.le_of_dvd hD dv
  have e2 : x.num.natAbs * D = c.natAbs * x.den := by
    have := congrArg Int.natAbs e
    rwa [Int.natAbs_mul, Int.natAbs_mul, Int.natAbs_natCast, Int.natAbs_natCast] at this
  have e3 : x.num.natAbs * D ≤ c.natAbs * D := by rw [e2]; exact Nat.mul_le_mul_left _ le
  exact Nat.le_trans (Nat.le_of_mul_le_mul_right e3 hD) hN
theorem Bk.sz_add {D N N' : Nat} : {b : Bk} → {x y : b.T} → b.sz D N x → b.sz D N' y → b.sz D (N + N') (x + y)
  | .z, x, y, h, g => by
    have h : x.natAbs ≤ N := h
    have g : y.natAbs ≤ N' := g
    show (Int.add x y).natAbs ≤ N + N'
    have : Int.add x y = x + y := rfl
    rw [this]
    omega
  | .q, x, y, ⟨c, hc, hN⟩, ⟨c', hc', hN'⟩ => by
    refine ⟨c + c', ?_, by omega⟩
    rw [Rat.intCast_add, ← hc, ← hc']
    exact Rat.add_mul x y _
  | .f n, x, y, _, _ => trivial
theorem Bk.sz_mul {D D' N N' : Nat} : {b : Bk} → {x y : b.T} → b.sz D N x → b.sz D' N' y → b.sz (D * D') (N * N') (x * y)
  | .z, x, y, h, g => by
    have h : x.natAbs ≤ N := h
    have g : y.natAbs ≤ N' := g
    show (Int.mul x y).natAbs ≤ N * N'
    have : Int.mul x y = x * y := rfl
    rw [this, Int.natAbs_mul]
    exact Nat.mul_le_mul h g
  | .q, x, y, ⟨c, hc, hN⟩, ⟨c', hc', hN'⟩ => by
    refine ⟨c * c', ?_, ?_⟩
    · rw [Rat.intCast_mul, ← hc, ← hc', Rat.natCast_mul]
      show Rat.mul x y * _ = _
      have : Rat.mul x y = x * y := rfl
      rw [this]
      grind
    · rw [Int.natAbs_mul]
      exact Nat.mul_le_mul hN hN'
  | .f n, x, y, _, _ => trivial
theorem Bk.sz_neg {D N : Nat} : {b : Bk} → {x : b.T} → b.sz D N x → b.sz D N (-x)
  | .z, x, h => by
    show (Int.neg x).natAbs ≤ N
    have h : x.natAbs ≤ N := h
    have : Int.neg x = -x := rfl
    rw [this]
    omega
  | .q, x, ⟨c, hc, hN⟩ => by
    refine ⟨-c, ?_, by omega⟩
    rw [Rat.intCast_neg, ← hc]
    exact Rat.neg_mul x _
  | .f n, x, _ => trivial
theorem Bk.sz_mono {D N N' : Nat} (h : N ≤ N') : {b : Bk} → {x : b.T} → b.sz D N x → b.sz D N' x
  | .z, x, g => Nat.le_trans g h
  | .q, x, ⟨c, hc, hN⟩ => ⟨c, hc, Nat.le_trans hN h⟩
  | .f n, x, _ => trivial
theorem Bk.sz_wide {D N : Nat} (k : Nat) (hk : 0 < k) : {b : Bk} → {x : b.T} → b.sz D N x → b.sz (D * k) (N * k) x
  | .z, x, g => Nat.le_trans g (Nat.le_mul_of_pos_right N hk)
  | .q, x, ⟨c, hc, hN⟩ => by
    refine ⟨c * k, ?_, ?_⟩
    · rw [Rat.intCast_mul, ← hc, Rat.natCast_mul, Rat.intCast_natCast]
      grind
    · rw [Int.natAbs_mul, Int.natAbs_natCast]
      exact Nat.mul_le_mul_right k hN
  | .f n, x, _ => trivial
theorem Bk.sz_zero {D : Nat} : {b : Bk} → b.sz D 0 (0 : b.T)
  | .z => Nat.le_refl 0
  | .q => ⟨0, Rat.zero_mul _, Nat.le_refl 0⟩
  | .f _ => trivial
theorem Bk.sz_one : {b : Bk} → b.sz 1 1 (1 : b.T)
  | .z => Nat.le_refl 1
  | .q => ⟨1, Rat.one_mul _, Nat.le_refl 1⟩
  | .f _ => trivial
/-! ### domains: base ones and polynomials over them -/
inductive Dk where
  | b (k : Bk) | p (k : Bk)
@[reducible] def Dk.E : Dk → Type
  | .b k => k.T
  | .p k => { l : List k.T // Ser.nt l }
@[reducible] def Dk.R : Dk → Type
  | .b k => k.T
  | .p k => Ser k.T
instance Dk.ring : (k : Dk) → Lean.Grind.CommRing k.R
  | .b k => inferInstanceAs (Lean.Grind.CommRing k.T)
  | .p k => inferInstanceAs (Lean.Grind.CommRing (Ser k.T))
def Dk.dom : Dk → D
  | .b k => k.dom
  | .p k => .tup [.str "P", k.dom]
def Dk.val : (k : Dk) → k.E → k.R
  | .b _, x => x
  | .p _, l => Ser.of l.1
def pe (k : Bk) (l : List k.T) : D := .tup (l.map k.enc)
def Dk.enc : (k : Dk) → k.E → D
  | .b k, x => k.enc x
  | .p k, l => pe k l.1
theorem Dk.val_inj : (k : Dk) → {x y : k.E} → k.val x = k.val y → x = y
  | .b _, x, y, h => h
  | .p k, ⟨x, hx⟩, ⟨y, hy⟩, h => Subtype.ext (Ser.nt_inj hx hy h)
theorem map_inj {α β : Type} {f : α → β} (hf : ∀ x y, f x = f y → x = y) : ∀ {l r : List α}, l.map f = r.map f → l = r
  | [], [], _ => rfl
  | [], _ :: _, h => by simp at h
  | _ :: _, [], h => by simp at h
  | a :: l, b :: r, h => by
    rw [List.map_cons, List.map_cons, List.cons.injEq] at h
    rw [hf _ _ h.1, map_inj hf h.2]
theorem pe_inj {k : Bk} {l r : List k.T} (h : pe k l = pe k r) : l = r := by
  injection h with h
  exact map_inj (fun _ _ => k.enc_inj) h
theorem Dk.enc_inj : (k : Dk) → {x y : k.E} → k.enc x = k.enc y → x = y
  | .b k, x, y, h => k.enc_inj h
  | .p k, x, y, h => Subtype.ext (pe_inj h)
theorem pe_cl {k : Bk} (l : List k.T) : (pe k l).cl 2 = true := by
  unfold pe
  rw [D.cl, List.all_eq_true]
  intro d hd
  obtain ⟨x, _, rfl⟩ := List.mem_map.mp hd
  exact k.enc_cl x
theorem D.cl_up : ∀ (n : Nat) (d : D), d.cl n = true → d.cl (n + 1) = true := by
  intro n
  induction n with
  | zero => intro d h; cases d <;> first | rfl | exact h | cases h
  | succ n ih =>
    intro d h
    cases d with
    | tup ds => rw [D.cl, List.all_eq_true] at h ⊢; exact fun x hx => ih x (h x hx)
    | fl ds => rw [D.cl, List.all_eq_true] at h ⊢; exact fun x hx => ih x (h x hx)
    | _ => first | rfl | exact h | cases h
theorem Dk.enc_cl : (k : Dk) → (x : k.E) → (k.enc x).cl 2 = true
  | .b k, x => D.cl_up _ _ (k.enc_cl x)
  | .p k, x => pe_cl x.1
/-- small enough to count with -/
def Bk.Ok : (k : Bk) → k.T → Prop
  | .z, x => x.natAbs < 2 ^ 50000000
  | .q, x => x.num.natAbs < 2 ^ 50000000 ∧ x.den < 2 ^ 50000000
  | .f n, _ => n < 2 ^ 20
theorem Bk.Ok_of {D N : Nat} (hD : 0 < D) (hD2 : D < 2 ^ 50000000) (hN : N < 2 ^ 50000000) : {k : Bk} → k.ok → {x : k.T} → k.sz D N x → k.Ok x
  | .z, _, x, h => Nat.lt_of_le_of_lt h hN
  | .q, _, x, h => by
    obtain ⟨a, b⟩ := szq_parts hD h
    exact ⟨Nat.lt_of_le_of_lt b hN, Nat.lt_of_le_of_lt (Nat.le_of_dvd hD a) hD2⟩
  | .f n, hk, x, h => hk
theorem Bk.ok_of : {k : Bk} → {x : k.T} → k.Ok x → k.ok
  | .z, _, _ => trivial
  | .q, _, _ => trivial
  | .f _, _, h => h
def Dk.Ok : (k : Dk) → k.E → Prop
  | .b k, x => k.Ok x
  | .p k, l => k.ok ∧ l.1.length < 2 ^ 20 ∧ ∀ x ∈ l.1, k.Ok x
/-- few coefficients -/
def Dk.Len : (k : Dk) → k.E → Prop
  | .b _, _ => True
  | .p _, l => l.1.length < 2 ^ 20
/-! ### zero -/
def a_zero : ASp := fun ds S Q _ => ∃ k : Dk, ds = [k.dom] ∧ ∀ z : k.E, k.val z = 0 → Q (k.enc z) S
theorem len_zero : ∀ ds S Q XX, a_zero ds S Q XX → ds.length = 1 := by rintro ds S Q XX ⟨k, rfl, _⟩; rfl
theorem len_lzero : ∀ ds S Q XX, a_zero ds S Q XX → ds.length = 1 := len_zero
theorem Dk.nil_val {k : Bk} : (Dk.p k).val ⟨[], Ser.nt_nil⟩ = 0 := Ser.of_nil
theorem p_lzero : ∀ ds S Q XX, Closed S → a_zero ds S Q XX → w__law_zero (endOf Q S.length) (startD ["d"] ds) S (GivesX XX S.length) := by
  rintro ds S Q XX hC ⟨k, rfl, q⟩
  unfold w__law_zero
  cases k with
  | b k =>
    cases k with
    | z =>
      simp only [Dk.dom, Bk.dom]
      walk_at "ax"
      exact gives_now (q (0 : Int) rfl)
    | q =>
      simp only [Dk.dom, Bk.dom]
      walk_at "ax"
      exact gives_now (q (0 : Rat) rfl)
    | f n =>
      simp only [Dk.dom, Bk.dom]
      walk_at "ax"
      exact gives_now (q (0 : Fin (n + 2)) rfl)
  | p k =>
    simp only [Dk.dom]
    walk_at "ax"
    exact gives_now (q ⟨[], Ser.nt_nil⟩ Dk.nil_val)
/-! ### the operations of base domains -/
theorem fin_cast {a n : Nat} : Int.fmod (a : Int) ((n + 2 : Nat) : Int) = ((a % (n + 2) : Nat) : Int) := by
  rw [fmod_pos (by omega), Int.natCast_emod]
theorem small_p {n : Nat} (h : n < 2 ^ 20) : ((n + 2 : Nat) : Int) ≠ 0 ∧ ((n + 2 : Nat) : Int).natAbs < 2 ^ 64 := by omega
def a_add0 : ASp := fun ds S Q _ => ∃ (k : Bk) (x y : k.T), ds = [k.dom, k.enc x, k.enc y] ∧ k.Ok x ∧ k.Ok y ∧ Q (k.enc (x + y)) S
def a_neg0 : ASp := fun ds S Q _ => ∃ (k : Bk) (x : k.T), ds = [k.dom, k.enc x] ∧ Q (k.enc (-x)) S
def a_mul0 : ASp := fun ds S Q _ => ∃ (k : Bk) (x y : k.T), ds = [k.dom, k.enc x, k.enc y] ∧ k.Ok x ∧ k.Ok y ∧ Q (k.enc (x * y)) S
def a_one0 : ASp := fun ds S Q _ => ∃ (k : Bk), ds = [k.dom] ∧ Q (k.enc 1) S
def a_int0 : ASp := fun ds S Q _ => ∃ (k : Bk) (n : Int), ds = [k.dom, .int n] ∧ Q (k.enc (Lean.Grind.Ring.intCast.intCast n)) S
theorem len_add0 : ∀ ds S Q XX, a_add0 ds S Q XX → ds.length = 3 := by rintro ds S Q XX ⟨_, _, _, rfl, _⟩; rfl
theorem len_neg0 : ∀ ds S Q XX, a_neg0 ds S Q XX → ds.length = 2 := by rintro ds S Q XX ⟨_, _, rfl, _⟩; rfl
theorem len_mul0 : ∀ ds S Q XX, a_mul0 ds S Q XX → ds.length = 3 := by rintro ds S Q XX ⟨_, _, _, rfl, _⟩; rfl
theorem len_one0 : ∀ ds S Q XX, a_one0 ds S Q XX → ds.length = 1 := by rintro ds S Q XX ⟨_, rfl, _⟩; rfl
theorem len_int0 : ∀ ds S Q XX, a_int0 ds S Q XX → ds.length = 2 := by rintro ds S Q XX ⟨_, _, rfl, _⟩; rfl
theorem q_add (x y : Rat) : Rat.divInt (x.num * (y.den : Nat) + y.num * (x.den : Nat)) ((x.den : Nat) * (y.den : Nat) : Int) = x + y := by
  rw [Rat.add_def', ← Rat.divInt_ofNat, Int.natCast_mul]
theorem q_mul (x y : Rat) : Rat.divInt (x.num * y.num) ((x.den : Nat) * (y.den : Nat) : Int) = x * y := by
  rw [Rat.mul_def', ← Rat.divInt_ofNat, Int.natCast_mul]
theorem den_ok {a b : Nat} (ha : a ≠ 0) (hb : b ≠ 0) : ((a : Nat) : Int) * (b : Nat) ≠ 0 := by
  have e : ((a : Nat) : Int) * (b : Nat) = ((a * b : Nat) : Int) := (Int.natCast_mul a b).symm
  have := Nat.mul_pos (Nat.pos_of_ne_zero ha) (Nat.pos_of_ne_zero hb)
  rw [e]
  omega
theorem nat_ok {a k : Nat} (h : a < 2 ^ k) : ((a : Nat) : Int).natAbs < 2 ^ k := h
theorem neg_fin {n : Nat} (x : Fin (n + 2)) : ((-x : Fin (n + 2)).val : Int) = Int.fmod (-(x.val : Int)) ((n + 2 : Nat) : Int) := by
  rw [fmod_pos (by omega), Fin.val_neg]
  split
  · rename_i h
    rw [h]; simp
  · rename_i h
    have h1 : x.val ≠ 0 := fun z => h (Fin.ext z)
    have h2 := x.isLt
    rw [show (-(x.val : Int)) = ((n + 2 - x.val : Nat) : Int) + ((n + 2 : Nat) : Int) * (-1) by omega, Int.add_mul_emod_self_left, Int.emod_eq_of_lt (by omega) (by omega)]
theorem int_fin {n : Nat} (i : Int) : Int.fmod i ((n + 2 : Nat) : Int) = (((Lean.Grind.Ring.intCast.intCast i : Fin (n + 2)).val : Nat) : Int) := by
  rw [fmod_pos (by omega)]
  show _ = (((Fin.intCast i : Fin (n + 2)).val : Nat) : Int)
  unfold Fin.intCast
  split
  · rename_i h
    show _ = ((i.natAbs % (n + 2) : Nat) : Int)
    rw [Int.natCast_emod, show ((i.natAbs : Nat) : Int) = i by omega]
  · rename_i h
    rw [neg_fin, fmod_pos (by omega)]
    show _ = -((i.natAbs % (n + 2) : Nat) : Int) % _
    rw [Int.natCast_emod, show ((i.natAbs : Nat) : Int) = -i by omega]
    have e := Int.emod_add_mul_ediv (-i) ((n + 2 : Nat) : Int)
    rw [show -(-i % ((n + 2 : Nat) : Int)) = i + ((n + 2 : Nat) : Int) * (-i / ((n + 2 : Nat) : Int)) by omega, Int.add_mul_emod_self_left]
/-! ### the last cell -/
theorem last_cell (S : Sto) (c : Cel) : (S ++ [c])[S.length]? = some c := by rw [List.getElem?_append_right (Nat.le_refl _), Nat.sub_self]; rfl
theorem last_set (S : Sto) (c c' : Cel) : (S ++ [c]).set S.length c' = S ++ [c'] := by rw [List.set_append_right _ _ (Nat.le_refl _), Nat.sub_self]; rfl
theorem items_ref {S : Sto} {n : Nat} {ds : List D} (h : S[n]? = some (.lst ds)) : items S (.ref n) = some ds := by simp only [items, itemsL, h]
theorem map_get {α β : Type} {f : α → β} {xs : List α} {i : Nat} {d : β} (h : (xs.map f)[i]? = some d) : ∃ x, xs[i]? = some x ∧ d = f x := by
  rw [List.getElem?_map] at h
  cases e : xs[i]? with
  | none => rw [e] at h; cases h
  | some x => rw [e] at h; cases h; exact ⟨x, rfl, rfl⟩
theorem get_mem {α : Type} {xs : List α} {i : Nat} {x : α} (h : xs[i]? = some x) : x ∈ xs := List.mem_of_getElem? h
/-! ### trimmed -/
theorem Ser.trim_take {T : Type} [Lean.Grind.CommRing T] [DecidableEq T] {l : List T} {m : Nat} (hm : m ≤ l.length) (h0 : ∀ j, m ≤ j → Ser.cf l j = 0) (h1 : m = 0 ∨ Ser.cf l (m - 1) ≠ 0) : Ser.trim l = l.take m := by
  refine Ser.nt_eq (Ser.nt_trim l) ?_ fun i => ?_
  · intro a ha
    rcases h1 with rfl | h1
    · rw [List.take_zero] at ha; cases ha
    · rcases Nat.eq_zero_or_pos m with rfl | hp
      · rw [List.take_zero] at ha; cases ha
      · rw [List.getLast?_eq_getElem?, List.length_take, Nat.min_eq_left hm, List.getElem?_take_of_lt (by omega)] at ha
        rwa [Ser.cf_lt ha] at h1
  · rw [Ser.cf_trim]
    rcases Nat.lt_or_ge i m with x | x
    · unfold Ser.cf
      rw [List.getElem?_take_of_lt x]
    · rw [h0 i x, Ser.cf_ge (by rw [List.length_take]; omega)]
def a_trim : ASp := fun ds S Q _ => ∃ (k : Bk) (l : List k.T) (x : D), ds = [k.dom, x] ∧ items S x = some (l.map k.enc) ∧ Q (pe k (Ser.trim l)) S
theorem len_trim : ∀ ds S Q XX, a_trim ds S Q XX → ds.length = 2 := by rintro ds S Q XX ⟨_, _, _, rfl, _⟩; rfl
theorem len_trimmed : ∀ ds S Q XX, a_trim ds S Q XX → ds.length = 2 := len_trim
theorem len_strip : ∀ ds S Q XX, a_trim ds S Q XX → ds.length = 2 := len_trim
theorem at_map {α : Type} {f : α → D} {l : List α} {i : Nat} {a : α} (h : l[i]? = some a) : L2.atI (l.map f) (i : Nat) = some (f a) := atI_of (by omega) (by rw [List.getElem?_map, Int.toNat_natCast, h]; rfl)
theorem enc_zero_iff {k : Bk} {a : k.T} : k.enc a = k.enc 0 ↔ a = 0 := ⟨fun h => k.enc_inj h, fun h => by rw [h]⟩
theorem p_strip : ∀ ds S Q XX, Closed S → a_trim ds S Q XX → w__law_strip a_zero (endOf Q S.length) (startD ["f", "parts", "many"] ds) S (GivesX XX S.length) := by
  rintro ds S Q XX hC ⟨k, l, x, rfl, hx, q⟩
  unfold w__law_strip
  walk_at "ax"
  rw [itm_len hx]
  walk_at "ax"
  let P : Nat → ASt → Sto → Prop := fun v σ S' => S = S' ∧ ∃ m : Nat, m ≤ l.length ∧ (∀ j, m ≤ j → Ser.cf l j = 0) ∧ m = v ∧ σ = [some k.dom, some x, some (.int (m : Nat))]
  refine whl_cut P l.length ⟨rfl, l.length, Nat.le_refl _, fun j hj => Ser.cf_ge hj, rfl, rfl⟩ ?_
  rintro v σ S' R ⟨rfl, m, hm, h0, rfl, rfl⟩ hR
  have fin : (m = 0 ∨ Ser.cf l (m - 1) ≠ 0) → AW.Gives Q S.length (.tup (cutL (l.map k.enc) none (some (m : Nat)))) S := fun h1 => by
    rw [cutL_to _ (by omega) (by rw [List.length_map]; omega), Int.toNat_natCast, ← List.map_take, ← Ser.trim_take hm h0 h1]
    exact gives_now q
  walk_at "ax"
  split
  · rename_i hpos
    obtain ⟨i, rfl⟩ : ∃ i, m = i + 1 := ⟨m - 1, by omega⟩
    have ha : l[i]? = some l[i] := List.getElem?_eq_getElem (by omega)
    generalize l[i] = a at ha
    walk_at "ax"
    rw [show ((i + 1 : Nat) : Int) - 1 = ((i : Nat) : Int) by omega, itm_ix hx, atQ_of (at_map ha)]
    walk_at "ax"
    refine ⟨.b k, rfl, fun z hz => ?_⟩
    have hz : z = 0 := hz
    subst hz
    walk_at "ax"
    refine fEq_cl (Bk.enc_cl k a) (Bk.enc_cl k 0) enc_zero_iff ?_
    walk_at "ax"
    split
    · rename_i e
      walk_at "ax"
      rw [show ((i + 1 : Nat) : Int) - 1 = ((i : Nat) : Int) by omega]
      refine hR _ _ _ (Nat.lt_succ_self i) ⟨rfl, i, by omega, fun j hj => ?_, rfl, rfl⟩
      rcases Nat.lt_or_ge i j with z | z
      · exact h0 j z
      · have : j = i := by omega
        subst this
        rw [Ser.cf_lt ha]; exact e
    · rename_i e
      walk_at "ax"
      have f := fin (.inr (by rw [Nat.add_sub_cancel, Ser.cf_lt ha]; exact e))
      exact Eq.mpr (itm_cut (lo := none) (hi := some ((i + 1 : Nat) : Int)) (Q := AW.Gives Q S.length) (X := GivesX XX S.length) hx) f
  · rename_i hpos
    have m0 : m = 0 := by omega
    subst m0
    walk_at "ax"
    have f := fin (.inl rfl)
    exact Eq.mpr (itm_cut (lo := none) (hi := some ((0 : Nat) : Int)) (Q := AW.Gives Q S.length) (X := GivesX XX S.length) hx) f
/-! ### adding lists of coefficients -/
section
variable {T : Type} [Lean.Grind.CommRing T]
/-- x with the first i coefficients of y added -/
def addTo (x y : List T) (i : Nat) : List T := x.mapIdx fun j a => if j < i then a + Ser.cf y j else a
theorem addTo_len (x y : List T) (i : Nat) : (addTo x y i).length = x.length := List.length_mapIdx
theorem addTo_get (x y : List T) (i j : Nat) : (addTo x y i)[j]? = x[j]?.map fun a => if j < i then a + Ser.cf y j else a := List.getElem?_mapIdx
theorem addTo_zero (x y : List T) : addTo x y 0 = x := by
  apply List.ext_getElem?
  intro j
  rw [addTo_get]
  cases x[j]? with
  | none => rfl
  | some a => rw [Option.map_some, if_neg (by omega)]
theorem addTo_step {x y : List T} {i : Nat} {a b : T} (hx : x[i]? = some a) (hy : y[i]? = some b) : (addTo x y i).set i (a + b) = addTo x y (i + 1) := by
  apply List.ext_getElem?
  intro j
  rw [List.getElem?_set]
  have hi : i < x.length := (List.getElem?_eq_some_iff.mp hx).1
  split
  · rename_i e
    subst e
    rw [if_pos (by rw [addTo_len]; exact hi), addTo_get, hx, Option.map_some, if_pos (by omega), Ser.cf_lt hy]
  · rename_i e
    rw [addTo_get, addTo_get]
    cases x[j]? with
    | none => rfl
    | some c =>
      rw [Option.map_some, Option.map_some]
      by_cases h : j < i
      · rw [if_pos h, if_pos (by omega)]
      · rw [if_neg h, if_neg (by omega)]
theorem addTo_of {x y : List T} (h : y.length ≤ x.length) : Ser.of (addTo x y y.length) = Ser.of x + Ser.of y := Ser.ext fun j => by
  rw [Ser.c_add]
  show Ser.cf _ j = Ser.cf x j + Ser.cf y j
  cases e : x[j]? with
  | none =>
    have hj := List.getElem?_eq_none_iff.mp e
    rw [Ser.cf_ge (by rw [addTo_len]; exact hj), Ser.cf_ge hj, Ser.cf_ge (show y.length ≤ j by omega)]
    grind
  | some a =>
    have e2 : (addTo x y y.length)[j]? = some (if j < y.length then a + Ser.cf y j else a) := by rw [addTo_get, e]; rfl
    rw [Ser.cf_lt e2, Ser.cf_lt e]
    split
    · rfl
    · rw [Ser.cf_ge (show y.length ≤ j by omega)]
      grind
end
def a_add : ASp := fun ds S Q _ => ∃ (k : Dk) (x y : k.E), ds = [k.dom, k.enc x, k.enc y] ∧ k.Ok x ∧ k.Ok y ∧ ∀ z : k.E, k.val z = k.val x + k.val y → Q (k.enc z) S
theorem len_add : ∀ ds S Q XX, a_add ds S Q XX → ds.length = 3 := by rintro ds S Q XX ⟨_, _, _, rfl, _⟩; rfl
/-! ### negation, one, integers -/
def a_neg : ASp := fun ds S Q _ => ∃ (k : Dk) (x : k.E), ds = [k.dom, k.enc x] ∧ k.Len x ∧ ∀ z : k.E, k.val z = -k.val x → Q (k.enc z) S
theorem len_negate : ∀ ds S Q XX, a_neg ds S Q XX → ds.length = 2 := by rintro ds S Q XX ⟨_, _, rfl, _⟩; rfl
theorem neg_list {k : Bk} {x : List k.T} (h : Ser.nt x) : Ser.nt (x.map fun a => -a) ∧ Ser.of (x.map fun a => -a) = -Ser.of x := by
  refine ⟨fun a ha => ?_, Ser.ext fun i => ?_⟩
  · rw [List.getLast?_map] at ha
    cases e : x.getLast? with
    | none => rw [e] at ha; cases ha
    | some b =>
      rw [e] at ha
      cases ha
      intro z
      exact h b e (by grind)
  · rw [Ser.c_neg]
    show Ser.cf _ i = -Ser.cf x i
    cases e : x[i]? with
    | none =>
      have hi := List.getElem?_eq_none_iff.mp e
      rw [Ser.cf_ge hi, Ser.cf_ge (by rw [List.length_map]; exact hi)]
      grind
    | some b => rw [Ser.cf_lt e, Ser.cf_lt (show (x.map fun a => -a)[i]? = some (-b) by rw [List.getElem?_map, e]; rfl)]
def a_one : ASp := fun ds S Q _ => ∃ k : Dk, ds = [k.dom] ∧ ∀ z : k.E, k.val z = 1 → Q (k.enc z) S
theorem len_one : ∀ ds S Q XX, a_one ds S Q XX → ds.length = 1 := by rintro ds S Q XX ⟨_, rfl, _⟩; rfl
theorem Bk.one_ne : (k : Bk) → (1 : k.T) ≠ 0
  | .z => by show (1 : Int) ≠ 0; decide
  | .q => by show (1 : Rat) ≠ 0; decide
  | .f n => by
    intro h
    have := congrArg Fin.val h
    have e1 : ((1 : Fin (n + 2))).val = 1 := by show 1 % (n + 2) = 1; exact Nat.mod_eq_of_lt (by omega)
    have e0 : ((0 : Fin (n + 2))).val = 0 := rfl
    have h2 : ((1 : Fin (n + 2))).val = ((0 : Fin (n + 2))).val := this
    omega
theorem one_list (k : Bk) : Ser.nt [(1 : k.T)] ∧ Ser.of [(1 : k.T)] = 1 := by
  refine ⟨fun a ha => ?_, Ser.ext fun i => ?_⟩
  · cases ha; exact k.one_ne
  · rw [Ser.c_one]
    cases i with
    | zero => rfl
    | succ i => rw [if_neg (by omega)]; rfl
def a_int : ASp := fun ds S Q _ => ∃ (k : Dk) (n : Int), ds = [k.dom, .int n] ∧ ∀ z : k.E, k.val z = Lean.Grind.Ring.intCast.intCast n → Q (k.enc z) S
theorem len_from_integer : ∀ ds S Q XX, a_int ds S Q XX → ds.length = 2 := by rintro ds S Q XX ⟨_, _, rfl, _⟩; rfl
theorem const_list {k : Bk} (a : k.T) : Ser.of (Ser.trim [a]) = Ser.const a := by
  rw [Ser.of_trim]
  refine Ser.ext fun i => ?_
  cases i <;> rfl
/-! ### products -/
structure MulPre (k : Bk) (x y : List k.T) (D D' N N' : Nat) : Prop where
  D0 : 0 < D
  D0' : 0 < D'
  dd : D * D' < 2 ^ 50000000
  n1 : N < 2 ^ 50000000
  n2 : N' < 2 ^ 50000000
  nn : x.length * y.length * (N * N') < 2 ^ 50000000
  l1 : x.length < 2 ^ 20
  l2 : y.length < 2 ^ 20
  ok : k.ok
  sx : ∀ a ∈ x, k.sz D N a
  sy : ∀ a ∈ y, k.sz D' N' a
def Dk.MulOk : (k : Dk) → k.E → k.E → Prop
  | .b k, x, y => k.Ok x ∧ k.Ok y
  | .p k, x, y => ∃ D D' N N', MulPre k x.1 y.1 D D' N N'
def a_mul : ASp := fun ds S Q _ => ∃ (k : Dk) (x y : k.E), ds = [k.dom, k.enc x, k.enc y] ∧ k.MulOk x y ∧ ∀ z : k.E, k.val z = k.val x * k.val y → Q (k.enc z) S
theorem len_mul : ∀ ds S Q XX, a_mul ds S Q XX → ds.length = 3 := by rintro ds S Q XX ⟨_, _, _, rfl, _⟩; rfl
theorem len_multiply : ∀ ds S Q XX, a_mul ds S Q XX → ds.length = 3 := len_mul
theorem MulPre.okx {k : Bk} {x y : List k.T} {D D' N N' : Nat} (h : MulPre k x y D D' N N') : (∀ a ∈ x, k.Ok a) ∧ ∀ a ∈ y, k.Ok a := by
  have e1 : D ≤ D * D' := Nat.le_mul_of_pos_right D h.D0'
  have e2 : D' ≤ D * D' := Nat.le_mul_of_pos_left D' h.D0
  exact ⟨fun a ha => Bk.Ok_of h.D0 (Nat.lt_of_le_of_lt e1 h.dd) h.n1 h.ok (h.sx a ha), fun a ha => Bk.Ok_of h.D0' (Nat.lt_of_le_of_lt e2 h.dd) h.n2 h.ok (h.sy a ha)⟩
/-- the sum so far: i rows and j terms of the next -/
structure MAcc (k : Bk) (x y : List k.T) (W M : Nat) (len i j : Nat) (acc : List k.T) : Prop where
  len : acc.length = len
  sum : ∀ a, x[i]? = some a → Ser.of acc = Ser.of (x.take i) * Ser.of y + Ser.mon i a * Ser.of (y.take j)
  sm : ∀ a ∈ acc, k.sz W ((i * y.length + j) * M) a
theorem MAcc.step {k : Bk} {x y : List k.T} {D D' N N' len i j : Nat} {acc : List k.T} {a b c : k.T} (h : MAcc k x y (D * D') (N * N') len i j acc) (ha : x[i]? = some a) (hb : y[j]? = some b) (hc : acc[i + j]? = some c) (sa : k.sz D N a) (sb : k.sz D' N' b) :
    MAcc k x y (D * D') (N * N') len i (j + 1) (acc.set (i + j) (c + a * b)) := by
  refine ⟨by rw [List.length_set]; exact h.len, fun a' ha' => ?_, fun e he => ?_⟩
  · rw [ha] at ha'
    cases ha'
    rw [Ser.of_set hc, h.sum a ha, Ser.of_take_succ hb]
    have m := Ser.mon_mul i j a b
    rw [← m]
    grind
  · rcases List.mem_or_eq_of_mem_set he with he | rfl
    · exact Bk.sz_mono (Nat.mul_le_mul_right _ (by omega)) (h.sm e he)
    · have s := Bk.sz_add (h.sm c (get_mem hc)) (Bk.sz_mul sa sb)
      rw [← Nat.succ_mul] at s
      exact s
theorem MulPre.okacc {k : Bk} {x y : List k.T} {D D' N N' len i j : Nat} {acc : List k.T} {a b c : k.T} (h : MulPre k x y D D' N N') (g : MAcc k x y (D * D') (N * N') len i j acc) (hi : i < x.length) (hj : j < y.length) (ha : x[i]? = some a) (hb : y[j]? = some b) (hc : acc[i + j]? = some c) : k.Ok c ∧ k.Ok (a * b) := by
  have D0 : 0 < D * D' := Nat.mul_pos h.D0 h.D0'
  have l1 : i * y.length + j ≤ x.length * y.length := by
    have : (i + 1) * y.length ≤ x.length * y.length := Nat.mul_le_mul_right _ hi
    rw [Nat.succ_mul] at this
    omega
  have l2 : 1 ≤ x.length * y.length := Nat.mul_pos (by omega) (by omega)
  refine ⟨Bk.Ok_of D0 h.dd (Nat.lt_of_le_of_lt (Nat.mul_le_mul_right _ l1) h.nn) h.ok (g.sm c (get_mem hc)), Bk.Ok_of D0 h.dd ?_ h.ok (Bk.sz_mul (h.sx a (get_mem ha)) (h.sy b (get_mem hb)))⟩
  refine Nat.lt_of_le_of_lt ?_ h.nn
  exact Nat.le_mul_of_pos_left _ l2
theorem MAcc.next {k : Bk} {x y : List k.T} {W M len i : Nat} {acc : List k.T} {a : k.T} (ha : x[i]? = some a) (h : MAcc k x y W M len i y.length acc) : MAcc k x y W M len (i + 1) 0 acc := by
  refine ⟨h.len, fun a' ha' => ?_, fun e he => ?_⟩
  · rw [h.sum a ha, List.take_length, Ser.of_take_succ ha, Ser.of_take_zero]
    grind
  · have := h.sm e he
    rw [Nat.add_zero, Nat.succ_mul]
    exact this
/-- the sum at the end -/
theorem MAcc.done {k : Bk} {x y : List k.T} {W M len i : Nat} {acc : List k.T} {a : k.T} (ha : x[i]? = some a) (hi : i + 1 = x.length) (h : MAcc k x y W M len i y.length acc) : Ser.of acc = Ser.of x * Ser.of y := by
  have e := Ser.of_take_succ ha
  rw [hi, List.take_length] at e
  rw [h.sum a ha, List.take_length, e]
  grind
theorem mul_zeros {k : Bk} {x y : List k.T} {W M len : Nat} : MAcc k x y W M len 0 0 (List.replicate len 0) := by
  refine ⟨List.length_replicate, fun a ha => ?_, fun e he => ?_⟩
  · rw [Ser.of_zeros, Ser.of_take_zero, Ser.of_take_zero]
    grind
  · rw [(List.mem_replicate.mp he).2]
    exact Bk.sz_mono (Nat.zero_le _) Bk.sz_zero
/-! ### how large elements are -/
namespace Ser
open Lean.Grind
variable {T : Type} [CommRing T]
theorem mulc_high : ∀ (n a b : Nat) (f g : Ser T), (∀ i, a ≤ i → f.c i = 0) → (∀ i, b ≤ i → g.c i = 0) → a + b ≤ n + 1 → mulc n f g = 0
  | 0, a, b, f, g, hf, hg, h => by
    simp only [mulc]
    rcases Nat.eq_zero_or_pos a with rfl | ha
    · rw [hf 0 (Nat.le_refl 0)]; grind
    · rw [hg 0 (by omega)]; grind
  | n + 1, a, b, f, g, hf, hg, h => by
    rcases Nat.eq_zero_or_pos a with rfl | ha
    · exact mulc_zero _ _ _ fun i => hf i (Nat.zero_le i)
    · rw [mulc, hg (n + 1) (by omega), mulc_high n (a - 1) b f.tl g (fun i hi => hf (i + 1) (by omega)) hg (by omega)]
      grind
theorem nt_len [DecidableEq T] {l : List T} (h : nt l) {n : Nat} (h0 : ∀ i, n ≤ i → cf l i = 0) : l.length ≤ n := by
  rcases Nat.lt_or_ge n l.length with z | z
  · exfalso
    have e : l[l.length - 1]? = some (l[l.length - 1]'(by omega)) := List.getElem?_eq_getElem (by omega)
    refine h _ (by rw [List.getLast?_eq_getElem?, e]) ?_
    rw [← cf_lt e]
    exact h0 _ (by omega)
  · exact z
end Ser
theorem Bk.sz_mulc {k : Bk} {D D' N N' : Nat} : ∀ (n : Nat) (u v : Ser k.T), (∀ i, k.sz D N (u.c i)) → (∀ i, k.sz D' N' (v.c i)) → k.sz (D * D') ((n + 1) * (N * N')) (Ser.mulc n u v)
  | 0, u, v, hf, hg => by
    rw [Nat.zero_add, Nat.one_mul]
    exact Bk.sz_mul (hf 0) (hg 0)
  | n + 1, u, v, hf, hg => by
    rw [Nat.succ_mul (n + 1), Nat.add_comm ((n + 1) * (N * N'))]
    exact Bk.sz_add (Bk.sz_mul (hf 0) (hg (n + 1))) (Bk.sz_mulc n u.tl v (fun i => hf (i + 1)) hg)
def Dk.base : Dk → Bk
  | .b k => k
  | .p k => k
def Dk.In : (k : Dk) → (D N L : Nat) → k.E → Prop
  | .b k, D, N, _, x => k.sz D N x
  | .p k, D, N, L, x => x.1.length ≤ L ∧ ∀ i, k.sz D N (Ser.cf x.1 i)
theorem Ser.cf_congr {T : Type} [Lean.Grind.CommRing T] {f g : Ser T} (h : f = g) (i : Nat) : f.c i = g.c i := by rw [h]
theorem Dk.In_add {D D' N N' L L' : Nat} (hD : 0 < D) (hD' : 0 < D') : (k : Dk) → {x y z : k.E} → k.val z = k.val x + k.val y → k.In D N L x → k.In D' N' L' y → k.In (D * D') (N * D' + N' * D) (max L L') z
  | .b k, x, y, z, e, hx, hy => by
    have e : z = x + y := e
    subst e
    have h2 := Bk.sz_wide D hD (x := y) hy
    rw [Nat.mul_comm D' D] at h2
    exact Bk.sz_add (Bk.sz_wide D' hD' hx) h2
  | .p k, ⟨x, nx⟩, ⟨y, ny⟩, ⟨z, nz⟩, e, hx, hy => by
    have e : Ser.of z = Ser.of x + Ser.of y := e
    have c : ∀ i, Ser.cf z i = Ser.cf x i + Ser.cf y i := fun i => Ser.cf_congr e i
    refine ⟨Ser.nt_len nz fun i hi => ?_, fun i => ?_⟩
    · have h1 : x.length ≤ L := hx.1
      have h2 : y.length ≤ L' := hy.1
      rw [c, Ser.cf_ge (show x.length ≤ i by omega), Ser.cf_ge (show y.length ≤ i by omega)]
      grind
    · show k.sz _ _ (Ser.cf z i)
      rw [c]
      have h2 := Bk.sz_wide D hD (hy.2 i)
      rw [Nat.mul_comm D' D] at h2
      exact Bk.sz_add (Bk.sz_wide D' hD' (hx.2 i)) h2
theorem Dk.In_neg {D N L : Nat} : (k : Dk) → {x z : k.E} → k.val z = -k.val x → k.In D N L x → k.In D N L z
  | .b k, x, z, e, hx => by
    have e : z = -x := e
    subst e
    exact Bk.sz_neg hx
  | .p k, ⟨x, nx⟩, ⟨z, nz⟩, e, hx => by
    have e : Ser.of z = -Ser.of x := e
    have c : ∀ i, Ser.cf z i = -Ser.cf x i := fun i => Ser.cf_congr e i
    refine ⟨Ser.nt_len nz fun i hi => ?_, fun i => ?_⟩
    · have h1 : x.length ≤ L := hx.1
      rw [c, Ser.cf_ge (show x.length ≤ i by omega)]
      grind
    · show k.sz _ _ (Ser.cf z i)
      rw [c]
      exact Bk.sz_neg (hx.2 i)
theorem Dk.In_mul {D D' N N' L L' : Nat} (hL : 0 < L) (hL' : 0 < L') : (k : Dk) → {x y z : k.E} → k.val z = k.val x * k.val y → k.In D N L x → k.In D' N' L' y → k.In (D * D') ((L + L') * (N * N')) (L + L' - 1) z
  | .b k, x, y, z, e, hx, hy => by
    have e : z = x * y := e
    subst e
    refine Bk.sz_mono ?_ (Bk.sz_mul hx hy)
    exact Nat.le_mul_of_pos_left _ (by omega)
  | .p k, ⟨x, nx⟩, ⟨y, ny⟩, ⟨z, nz⟩, e, hx, hy => by
    have e : Ser.of z = Ser.of x * Ser.of y := e
    have c : ∀ i, Ser.cf z i = Ser.mulc i (Ser.of x) (Ser.of y) := fun i => Ser.cf_congr e i
    have z0 : ∀ i, L + L' - 1 ≤ i → Ser.cf z i = 0 := fun i hi => by
      rw [c]
      exact Ser.mulc_high i L L' _ _ (fun j hj => Ser.cf_ge (Nat.le_trans hx.1 hj)) (fun j hj => Ser.cf_ge (Nat.le_trans hy.1 hj)) (by omega)
    refine ⟨Ser.nt_len nz z0, fun i => ?_⟩
    show k.sz _ _ (Ser.cf z i)
    rcases Nat.lt_or_ge i (L + L' - 1) with h | h
    · rw [c]
      exact Bk.sz_mono (Nat.mul_le_mul_right _ (by omega)) (Bk.sz_mulc i _ _ hx.2 hy.2)
    · rw [z0 i h]
      exact Bk.sz_mono (Nat.zero_le _) Bk.sz_zero
theorem Dk.In_ok {D N L : Nat} (hD : 0 < D) (hD2 : D < 2 ^ 50000000) (hN : N < 2 ^ 50000000) (hL : L < 2 ^ 20) : (k : Dk) → k.base.ok → {x : k.E} → k.In D N L x → k.Ok x
  | .b k, h, x, hx => Bk.Ok_of hD hD2 hN h hx
  | .p k, h, ⟨x, nx⟩, hx => ⟨h, Nat.lt_of_le_of_lt hx.1 hL, fun a ha => by
    obtain ⟨i, hi, rfl⟩ := List.getElem_of_mem ha
    have := hx.2 i
    have e : Ser.cf x i = x[i] := Ser.cf_lt (List.getElem?_eq_getElem hi)
    have hs : k.sz D N (Ser.cf x i) := this
    rw [e] at hs
    exact Bk.Ok_of hD hD2 hN h hs⟩
theorem Dk.In_mono {D N N' L L' : Nat} (hN : N ≤ N') (hL : L ≤ L') : (k : Dk) → {x : k.E} → k.In D N L x → k.In D N' L' x
  | .b k, x, hx => Bk.sz_mono hN hx
  | .p k, ⟨x, nx⟩, hx => ⟨Nat.le_trans hx.1 hL, fun i => Bk.sz_mono hN (hx.2 i)⟩
theorem Dk.In_one : (k : Dk) → {x : k.E} → k.val x = 1 → k.In 1 1 1 x
  | .b k, x, e => by
    have e : x = 1 := e
    subst e
    exact Bk.sz_one
  | .p k, ⟨x, nx⟩, e => by
    have e : Ser.of x = 1 := e
    have e2 : x = [1] := Ser.nt_inj nx (one_list k).1 (by rw [e, (one_list k).2])
    subst e2
    refine ⟨Nat.le_refl 1, fun i => ?_⟩
    cases i with
    | zero => exact Bk.sz_one
    | succ i => exact Bk.sz_mono (Nat.zero_le _) Bk.sz_zero
theorem Dk.In_zero (k : Dk) {x : k.E} (e : k.val x = 0) : k.In 1 0 0 x := by
  cases k with
  | b k =>
    have e : x = 0 := e
    subst e
    exact Bk.sz_zero
  | p k =>
    obtain ⟨x, nx⟩ := x
    have e : Ser.of x = 0 := e
    have e2 : x = [] := Ser.nt_inj nx Ser.nt_nil (by rw [e, Ser.of_nil])
    subst e2
    exact ⟨Nat.le_refl 0, fun i => Bk.sz_zero⟩
/-- x is of at most L coefficients, each a number of n bits over one of m bits -/
structure Dk.Fi (k : Dk) (m n L : Nat) (x : k.E) : Prop where
  ok : k.base.ok
  ex : ∃ D, 0 < D ∧ D ≤ 2 ^ m ∧ k.In D (2 ^ n) L x
section
variable {k : Dk} {m n L m' n' L' : Nat} {x y z : k.E}
theorem Dk.Fi.mono (h : k.Fi m n L x) (hm : m ≤ m') (hn : n ≤ n') (hL : L ≤ L') : k.Fi m' n' L' x := by
  obtain ⟨ok, D, h0, h1, hi⟩ := h
  exact ⟨ok, D, h0, Nat.le_trans h1 (Nat.pow_le_pow_right (by decide) hm), k.In_mono (Nat.pow_le_pow_right (by decide) hn) hL hi⟩
theorem Dk.Fi.Ok (h : k.Fi m n L x) (hm : m < 50000000) (hn : n < 50000000) (hL : L < 2 ^ 20) : k.Ok x := by
  obtain ⟨ok, D, h0, h1, hi⟩ := h
  exact k.In_ok h0 (Nat.lt_of_le_of_lt h1 (Nat.pow_lt_pow_right (by decide) hm)) (Nat.pow_lt_pow_right (by decide) hn) hL ok hi
theorem Dk.Fi.neg (h : k.Fi m n L x) (e : k.val z = -k.val x) : k.Fi m n L z := by
  obtain ⟨ok, D, h0, h1, hi⟩ := h
  exact ⟨ok, D, h0, h1, k.In_neg e hi⟩
theorem Dk.Fi.add (h : k.Fi m n L x) (g : k.Fi m' n' L' y) (e : k.val z = k.val x + k.val y) {p : Nat} (h1 : n + m' ≤ p) (h2 : n' + m ≤ p) : k.Fi (m + m') (p + 1) (max L L') z := by
  obtain ⟨ok, D, d0, d1, hi⟩ := h
  obtain ⟨_, D', d0', d1', gi⟩ := g
  refine ⟨ok, D * D', Nat.mul_pos d0 d0', ?_, k.In_mono ?_ (Nat.le_refl _) (k.In_add d0 d0' e hi gi)⟩
  · rw [Nat.pow_add]; exact Nat.mul_le_mul d1 d1'
  · have a1 : 2 ^ n * D' ≤ 2 ^ p := Nat.le_trans (Nat.mul_le_mul_left _ d1') (by rw [← Nat.pow_add]; exact Nat.pow_le_pow_right (by decide) h1)
    have a2 : 2 ^ n' * D ≤ 2 ^ p := Nat.le_trans (Nat.mul_le_mul_left _ d1) (by rw [← Nat.pow_add]; exact Nat.pow_le_pow_right (by decide) h2)
    rw [Nat.pow_succ]
    omega
theorem Dk.Fi.mul (h : k.Fi m n L x) (g : k.Fi m' n' L' y) (e : k.val z = k.val x * k.val y) {l : Nat} (hL : 0 < L) (hL' : 0 < L') (hl : L + L' ≤ 2 ^ l) : k.Fi (m + m') (n + n' + l) (L + L' - 1) z := by
  obtain ⟨ok, D, d0, d1, hi⟩ := h
  obtain ⟨_, D', d0', d1', gi⟩ := g
  refine ⟨ok, D * D', Nat.mul_pos d0 d0', ?_, k.In_mono ?_ (Nat.le_refl _) (k.In_mul hL hL' e hi gi)⟩
  · rw [Nat.pow_add]; exact Nat.mul_le_mul d1 d1'
  · rw [← Nat.pow_add, Nat.pow_add 2 (n + n') l, Nat.mul_comm]
    exact Nat.mul_le_mul_left _ hl
theorem Dk.Fi.one (ok : k.base.ok) (e : k.val x = 1) : k.Fi 0 0 1 x := ⟨ok, 1, by decide, by decide, k.In_one e⟩
theorem Dk.Fi.zero (ok : k.base.ok) (e : k.val x = 0) : k.Fi 0 0 1 x := ⟨ok, 1, by decide, by decide, k.In_mono (by decide) (by decide) (k.In_zero e)⟩
end
theorem Dk.Fi.mulOk : {k : Dk} → {m n L m' n' L' : Nat} → {x y : k.E} → k.Fi m n L x → k.Fi m' n' L' y → m + m' < 50000000 → n + n' + 40 < 50000000 → L < 2 ^ 20 → L' < 2 ^ 20 → k.MulOk x y
  | .b k, m, n, L, m', n', L', x, y, h, g, hm, hn, hL, hL' => ⟨h.Ok (by omega) (by omega) hL, g.Ok (by omega) (by omega) hL'⟩
  | .p k, m, n, L, m', n', L', ⟨x, nx⟩, ⟨y, ny⟩, h, g, hm, hn, hL, hL' => by
    show ∃ D D' N N', MulPre k x y D D' N N'
    obtain ⟨ok, D, d0, d1, hi⟩ := h
    obtain ⟨_, D', d0', d1', gi⟩ := g
    have lx : x.length < 2 ^ 20 := Nat.lt_of_le_of_lt hi.1 hL
    have ly : y.length < 2 ^ 20 := Nat.lt_of_le_of_lt gi.1 hL'
    have mem : ∀ {x : List k.T} {D N : Nat}, (∀ i, k.sz D N (Ser.cf x i)) → ∀ a ∈ x, k.sz D N a := fun {x D N} h a ha => by
      obtain ⟨i, hi, rfl⟩ := List.getElem_of_mem ha
      have hs := h i
      rwa [Ser.cf_lt (List.getElem?_eq_getElem hi)] at hs
    refine ⟨D, D', 2 ^ n, 2 ^ n', d0, d0', ?_, Nat.pow_lt_pow_right (by decide) (by omega), Nat.pow_lt_pow_right (by decide) (by omega), ?_, lx, ly, ok, mem hi.2, mem gi.2⟩
    · have : D * D' ≤ 2 ^ m * 2 ^ m' := Nat.mul_le_mul d1 d1'
      rw [← Nat.pow_add] at this
      exact Nat.lt_of_le_of_lt this (Nat.pow_lt_pow_right (by decide) hm)
    · have h1 : x.length * y.length ≤ 2 ^ 20 * 2 ^ 20 := Nat.mul_le_mul (Nat.le_of_lt lx) (Nat.le_of_lt ly)
      have h2 : x.length * y.length * (2 ^ n * 2 ^ n') ≤ 2 ^ 20 * 2 ^ 20 * (2 ^ n * 2 ^ n') := Nat.mul_le_mul_right _ h1
      rw [← Nat.pow_add, ← Nat.pow_add, ← Nat.pow_add] at h2
      rw [← Nat.pow_add]
      exact Nat.lt_of_le_of_lt h2 (Nat.pow_lt_pow_right (by decide) (by omega))
theorem foldl_take {α β : Type} {f : β → α → β} {l : List α} {i : Nat} {c : α} {b : β} (h : l[i]? = some c) : (l.take (i + 1)).foldl f b = f ((l.take i).foldl f b) c := by
  rw [take_succ_of h, List.foldl_append]; rfl
/-! ### differences and powers -/
theorem Bk.Ok_neg : (k : Bk) → {x : k.T} → k.Ok x → k.Ok (-x)
  | .z, x, h => by
    show (-x : Int).natAbs < _
    rw [Int.natAbs_neg]
    exact h
  | .q, x, h => by
    refine ⟨?_, h.2⟩
    show (-x.num).natAbs < _
    rw [Int.natAbs_neg]
    exact h.1
  | .f n, x, h => h
theorem Dk.Ok_neg : (k : Dk) → {x z : k.E} → k.val z = -k.val x → k.Ok x → k.Ok z
  | .b k, x, z, e, h => by
    have e : z = -x := e
    subst e
    exact k.Ok_neg h
  | .p k, ⟨x, nx⟩, ⟨z, nz⟩, e, h => by
    have e : Ser.of z = -Ser.of x := e
    have e2 : z = x.map fun a => -a := Ser.nt_inj nz (neg_list nx).1 (by rw [e, (neg_list nx).2])
    subst e2
    refine ⟨h.1, by rw [List.length_map]; exact h.2.1, fun a ha => ?_⟩
    obtain ⟨b, hb, rfl⟩ := List.mem_map.mp ha
    exact k.Ok_neg (h.2.2 b hb)
theorem Dk.Fi.Len {m n L : Nat} : {k : Dk} → {x : k.E} → k.Fi m n L x → L < 2 ^ 20 → k.Len x
  | .b k, x, h, hL => trivial
  | .p k, ⟨x, nx⟩, ⟨_, D, _, _, hi⟩, hL => Nat.lt_of_le_of_lt hi.1 hL
/-- what may be taken away -/
def Dk.SOk : (k : Dk) → k.E → Prop
  | .b k, y => k.Ok y
  | .p k, y => (Dk.p k).Fi 45000000 45000000 1000000 y
theorem Dk.Fi.sok : {k : Dk} → {m n L : Nat} → {y : k.E} → k.Fi m n L y → m ≤ 45000000 → n ≤ 45000000 → L ≤ 1000000 → k.SOk y
  | .b k, m, n, L, y, h, hm, hn, hL => h.Ok (by omega) (by omega) (by omega)
  | .p k, m, n, L, y, h, hm, hn, hL => h.mono hm hn hL
theorem Dk.SOk.okLen : {k : Dk} → {y : k.E} → k.SOk y → k.Ok y ∧ k.Len y
  | .b k, y, h => ⟨h, trivial⟩
  | .p k, y, h => ⟨Dk.Fi.Ok (k := .p k) h (by decide) (by decide) (by decide), Dk.Fi.Len (k := .p k) h (by decide)⟩
def a_sub : ASp := fun ds S Q _ => ∃ (k : Dk) (x y : k.E), ds = [k.dom, k.enc x, k.enc y] ∧ k.Ok x ∧ k.SOk y ∧ ∀ z : k.E, k.val z = k.val x - k.val y → Q (k.enc z) S
theorem len_subtract : ∀ ds S Q XX, a_sub ds S Q XX → ds.length = 3 := by rintro ds S Q XX ⟨_, _, _, rfl, _⟩; rfl
theorem pow_two_mul {R : Type} [Lean.Grind.CommRing R] (x : R) (m : Nat) : (x * x) ^ m = x ^ (2 * m) := by
  induction m with
  | zero => rw [Nat.mul_zero, Lean.Grind.Semiring.pow_zero, Lean.Grind.Semiring.pow_zero]
  | succ m ih =>
    rw [Lean.Grind.Semiring.pow_succ, ih, show 2 * (m + 1) = 2 * m + 1 + 1 by omega, Lean.Grind.Semiring.pow_succ, Lean.Grind.Semiring.pow_succ]
    grind
def Dk.Pow (k : Dk) (x : k.E) (n : Nat) : Prop := (n < 2 ^ 64 ∧ ∀ a b : k.E, k.MulOk a b) ∨ (n ≤ 12 ∧ k.Fi 6 40 4 x)
def a_power : ASp := fun ds S Q _ => ∃ (k : Dk) (x : k.E) (n : Nat), ds = [k.dom, k.enc x, .int (n : Nat)] ∧ k.base.ok ∧ k.Pow x n ∧ ∀ z : k.E, k.val z = k.val x ^ n → Q (k.enc z) S
theorem len_power : ∀ ds S Q XX, a_power ds S Q XX → ds.length = 3 := by rintro ds S Q XX ⟨_, _, _, rfl, _⟩; rfl
/-- x is a power, found another, n are to come -/
def Dk.PowAt (k : Dk) (n : Nat) (x f : k.E) : Prop := (∀ a b : k.E, k.MulOk a b) ∨ ∃ e j, e * n + j ≤ 12 ∧ 1 ≤ e ∧ k.Fi (6 * e) (52 * e - 12) (3 * e + 1) x ∧ k.Fi (6 * j) (52 * j) (3 * j + 1) f
theorem Dk.PowAt.start {k : Dk} {n : Nat} {x f : k.E} (ok : k.base.ok) (h : k.Pow x n) (e : k.val f = 1) : k.PowAt n x f := by
  rcases h with h | ⟨hn, h⟩
  · exact .inl h.2
  · exact .inr ⟨1, 0, by omega, by omega, h, Dk.Fi.one ok e⟩
theorem Dk.PowAt.sq {k : Dk} {n : Nat} {x f : k.E} (h : k.PowAt n x f) (hn : 0 < n) : k.MulOk x x ∧ k.MulOk f x := by
  rcases h with h | ⟨e, j, hj, he, hx, hf⟩
  · exact ⟨h x x, h f x⟩
  · have e12 : e ≤ 12 := Nat.le_trans (Nat.le_mul_of_pos_right e hn) (by omega)
    have j12 : j ≤ 12 := by omega
    exact ⟨hx.mulOk hx (by omega) (by omega) (by omega) (by omega), hf.mulOk hx (by omega) (by omega) (by omega) (by omega)⟩
theorem Dk.PowAt.odd {k : Dk} {m : Nat} {x f f' : k.E} (h : k.PowAt (2 * m + 1) x f) (e : k.val f' = k.val f * k.val x) : k.PowAt (2 * m) x f' := by
  rcases h with h | ⟨e, j, hj, he, hx, hf⟩
  · exact .inl h
  · have e12 : e ≤ 12 := Nat.le_trans (Nat.le_mul_of_pos_right e (show 0 < 2 * m + 1 by omega)) (by omega)
    refine .inr ⟨e, j + e, ?_, he, hx, ?_⟩
    · rw [Nat.mul_add, Nat.mul_one] at hj; omega
    · exact (hf.mul hx (by assumption) (l := 12) (by omega) (by omega) (by omega)).mono (by omega) (by omega) (by omega)
theorem Dk.PowAt.even {k : Dk} {m : Nat} {x x' f : k.E} (hm : 0 < m) (h : k.PowAt (2 * m) x f) (e : k.val x' = k.val x * k.val x) : k.PowAt m x' f := by
  rcases h with h | ⟨e, j, hj, he, hx, hf⟩
  · exact .inl h
  · have e12 : e ≤ 12 := Nat.le_trans (Nat.le_mul_of_pos_right e (show 0 < 2 * m by omega)) (by omega)
    refine .inr ⟨2 * e, j, ?_, by omega, ?_, hf⟩
    · have : 2 * e * m = e * (2 * m) := by rw [Nat.mul_assoc, Nat.mul_left_comm]
      omega
    · exact (hx.mul hx (by assumption) (l := 12) (by omega) (by omega) (by omega)).mono (by omega) (by omega) (by omega)
/-! ### the law's own operations -/
theorem ladd_base {A2 A3 A4 : ASp} {ds : List D} {S : Sto} {Q : VKD} {XX : XKD} (q : a_add0 ds S Q XX) : w__law_add a_fr A2 A3 A4 (endOf Q S.length) (startD ["d", "x", "y", "long", "k"] ds) S (GivesX XX S.length) := by
  obtain ⟨k, x, y, rfl, hx, hy, q⟩ := q
  unfold w__law_add
  cases k with
  | z =>
    simp only [Bk.dom, Bk.enc]
    walk_at "ax"
    exact gives_now q
  | q =>
    simp only [Bk.dom, Bk.enc, qe]
    walk_at "ax"
    refine ⟨mulOk_of hx.1 (nat_ok hy.2) (by decide), mulOk_of hy.1 (nat_ok hx.2) (by decide), mulOk_of (nat_ok hx.2) (nat_ok hy.2) (by decide), ?_⟩
    simp only [a_fr]
    rw [q_add]
    exact ⟨den_ok x.den_nz y.den_nz, gives_now q⟩
  | f n =>
    simp only [Bk.dom, Bk.enc]
    walk_at "ax"
    rw [← Int.natCast_add, fin_cast]
    exact ⟨by omega, gives_now q⟩
theorem len_ladd0 : ∀ ds S Q XX, a_add0 ds S Q XX → ds.length = 3 := len_add0
theorem len_ladd : ∀ ds S Q XX, a_add ds S Q XX → ds.length = 3 := len_add
theorem len_lmul0 : ∀ ds S Q XX, a_mul0 ds S Q XX → ds.length = 3 := len_mul0
theorem len_lmul : ∀ ds S Q XX, a_mul ds S Q XX → ds.length = 3 := len_mul
theorem len_lint0 : ∀ ds S Q XX, a_int0 ds S Q XX → ds.length = 2 := len_int0
theorem len_lint : ∀ ds S Q XX, a_int ds S Q XX → ds.length = 2 := len_from_integer
theorem len_lsub : ∀ ds S Q XX, a_sub ds S Q XX → ds.length = 3 := len_subtract
theorem len_lpower : ∀ ds S Q XX, a_power ds S Q XX → ds.length = 3 := len_power
theorem p_ladd0 : ∀ ds S Q XX, Closed S → a_add0 ds S Q XX → w__law_add a_fr aspNo aspNo aspNo (endOf Q S.length) (startD ["d", "x", "y", "long", "k"] ds) S (GivesX XX S.length) := fun _ _ _ _ _ q => ladd_base q
theorem lmul_base {A2 A3 A4 A5 : ASp} {ds : List D} {S : Sto} {Q : VKD} {XX : XKD} (q : a_mul0 ds S Q XX) : w__law_multiply a_fr A2 A3 A4 A5 (endOf Q S.length) (startD ["d", "x", "y", "parts", "i", "j"] ds) S (GivesX XX S.length) := by
  obtain ⟨k, x, y, rfl, hx, hy, q⟩ := q
  unfold w__law_multiply
  cases k with
  | z =>
    simp only [Bk.dom, Bk.enc]
    walk_at "ax"
    exact ⟨mulOk_of hx hy (by decide), gives_now q⟩
  | q =>
    simp only [Bk.dom, Bk.enc, qe]
    walk_at "ax"
    refine ⟨mulOk_of hx.1 hy.1 (by decide), mulOk_of (nat_ok hx.2) (nat_ok hy.2) (by decide), ?_⟩
    simp only [a_fr]
    rw [q_mul]
    exact ⟨den_ok x.den_nz y.den_nz, gives_now q⟩
  | f n =>
    have hn : n < 2 ^ 20 := hx
    have := x.isLt
    simp only [Bk.dom, Bk.enc]
    walk_at "ax"
    rw [← Int.natCast_mul, fin_cast]
    exact ⟨mulOk_small (.inl (by omega)), by omega, gives_now q⟩
theorem p_lmul0 : ∀ ds S Q XX, Closed S → a_mul0 ds S Q XX → w__law_multiply a_fr aspNo aspNo aspNo aspNo (endOf Q S.length) (startD ["d", "x", "y", "parts", "i", "j"] ds) S (GivesX XX S.length) := fun _ _ _ _ _ q => lmul_base q
theorem lint_base {A1 A2 : ASp} {ds : List D} {S : Sto} {Q : VKD} {XX : XKD} (q : a_int0 ds S Q XX) : w__law_number A1 A2 (endOf Q S.length) (startD ["d", "n"] ds) S (GivesX XX S.length) := by
  obtain ⟨k, n, rfl, q⟩ := q
  unfold w__law_number
  cases k with
  | z =>
    simp only [Bk.dom]
    walk_at "ax"
    exact gives_now q
  | q =>
    simp only [Bk.dom]
    walk_at "ax"
    exact gives_now q
  | f m =>
    simp only [Bk.dom]
    walk_at "ax"
    rw [int_fin]
    exact ⟨by omega, gives_now q⟩
theorem p_lint0 : ∀ ds S Q XX, Closed S → a_int0 ds S Q XX → w__law_number aspNo aspNo (endOf Q S.length) (startD ["d", "n"] ds) S (GivesX XX S.length) := fun _ _ _ _ _ q => lint_base q
theorem p_lint : ∀ ds S Q XX, Closed S → a_int ds S Q XX → w__law_number a_trim a_int0 (endOf Q S.length) (startD ["d", "n"] ds) S (GivesX XX S.length) := by
  rintro ds S Q XX hC ⟨k, n, rfl, q⟩
  cases k with
  | b k => exact lint_base ⟨k, n, rfl, q _ rfl⟩
  | p k =>
    unfold w__law_number
    simp only [Dk.dom]
    walk_at "ax"
    refine ⟨k, n, rfl, ?_⟩
    walk_at "ax"
    refine ⟨k, [Lean.Grind.Ring.intCast.intCast n], _, rfl, rfl, ?_⟩
    walk_at "ax"
    exact gives_now (q ⟨Ser.trim [Lean.Grind.Ring.intCast.intCast n], Ser.nt_trim _⟩ (const_list _))
def a_part : ASp := fun ds S Q _ => ∃ (k : Bk) (l : List k.T) (i : Nat), ds = [k.dom, .tup (l.map k.enc), .int (i : Nat)] ∧ Q (k.enc (Ser.cf l i)) S
theorem len_part : ∀ ds S Q XX, a_part ds S Q XX → ds.length = 3 := by rintro ds S Q XX ⟨_, _, _, rfl, _⟩; rfl
theorem p_part : ∀ ds S Q XX, Closed S → a_part ds S Q XX → w__law_part a_zero (endOf Q S.length) (startD ["d", "x", "k"] ds) S (GivesX XX S.length) := by
  rintro ds S Q XX hC ⟨k, l, i, rfl, q⟩
  unfold w__law_part
  walk_at "ax"
  split
  · rename_i h
    have ha : l[i]? = some (l[i]'(by omega)) := List.getElem?_eq_getElem (by omega)
    rw [Ser.cf_lt ha] at q
    walk_at "ax"
    rw [atQ_of (at_map ha)]
    walk_at "ax"
    exact gives_now q
  · rename_i h
    rw [Ser.cf_ge (by omega)] at q
    walk_at "ax"
    refine ⟨.b k, rfl, fun z hz => ?_⟩
    have hz : z = 0 := hz
    subst hz
    exact gives_now q
theorem Bk.Ok_zero : (k : Bk) → k.ok → k.Ok 0
  | .z, _ => by show (0 : Int).natAbs < 2 ^ 50000000; exact Nat.pow_pos (by decide)
  | .q, _ => ⟨Nat.pow_pos (by decide), Nat.one_lt_two_pow (by decide)⟩
  | .f _, h => h
theorem Bk.Ok_cf {k : Bk} (ok : k.ok) {l : List k.T} (h : ∀ a ∈ l, k.Ok a) (i : Nat) : k.Ok (Ser.cf l i) := by
  cases e : l[i]? with
  | none => rw [Ser.cf_ge (List.getElem?_eq_none_iff.mp e)]; exact k.Ok_zero ok
  | some a => rw [Ser.cf_lt e]; exact h a (get_mem e)
theorem range_of {T : Type} [Lean.Grind.CommRing T] {f : Ser T} {n : Nat} (h : ∀ i, n ≤ i → f.c i = 0) : Ser.of ((List.range n).map f.c) = f := Ser.ext fun i => by
  show Ser.cf _ i = f.c i
  rcases Nat.lt_or_ge i n with z | z
  · exact Ser.cf_lt (by rw [List.getElem?_map, List.getElem?_range z]; rfl)
  · rw [Ser.cf_ge (by rw [List.length_map, List.length_range]; exact z), h i z]
theorem p_ladd : ∀ ds S Q XX, Closed S → a_add ds S Q XX → w__law_add a_fr a_trim a_add0 a_part (endOf Q S.length) (startD ["d", "x", "y", "long", "k"] ds) S (GivesX XX S.length) := by
  rintro ds S Q XX hC ⟨k, x, y, rfl, hx, hy, q⟩
  cases k with
  | b k => exact ladd_base ⟨k, x, y, rfl, hx, hy, q _ rfl⟩
  | p k =>
    obtain ⟨x, nx⟩ := x
    obtain ⟨y, ny⟩ := y
    obtain ⟨ok, lx, ox⟩ := hx
    obtain ⟨_, ly, oy⟩ := hy
    have lx : x.length < 2 ^ 20 := lx
    have ly : y.length < 2 ^ 20 := ly
    have q : ∀ l : List k.T, Ser.nt l → Ser.of l = Ser.of x + Ser.of y → Q (pe k l) S := fun l hl e => q ⟨l, hl⟩ e
    unfold w__law_add
    simp only [Dk.dom, Dk.enc, pe]
    refine seq_same ?_ fun R hR => by walk_at "ax"; exact hR
    refine seq_same ?_ fun R hR => by walk_at "ax"; exact hR
    walk_at "ax"
    obtain ⟨n, e, h1, h2, h3⟩ : ∃ n : Nat, max (x.length : Int) y.length = (n : Nat) ∧ x.length ≤ n ∧ y.length ≤ n ∧ n < 2 ^ 20 := ⟨max x.length y.length, by omega, by omega, by omega, by omega⟩
    rw [e]
    refine ⟨⟨by omega, by omega⟩, by rw [rangeD_len]; omega, ?_⟩
    rw [Int.toNat_natCast]
    refine lcL_range 0 n (fun i => k.enc (Ser.cf x i + Ser.cf y i)) ?_ ?_
    · intro i acc R2 _ hR2
      walk_at "ax"
      refine ⟨k, x, i, by rw [Int.zero_add], ?_⟩
      walk_at "ax"
      refine ⟨k, y, i, by rw [Int.zero_add], ?_⟩
      walk_at "ax"
      refine ⟨k, Ser.cf x i, Ser.cf y i, rfl, Bk.Ok_cf ok ox i, Bk.Ok_cf ok oy i, ?_⟩
      walk_at "ax"
      exact hR2
    · walk_at "ax"
      refine ⟨k, (List.range n).map (Ser.of x + Ser.of y).c, _, rfl, by rw [List.map_map]; rfl, ?_⟩
      walk_at "ax"
      refine gives_now (q _ (Ser.nt_trim _) ?_)
      rw [Ser.of_trim, range_of fun i hi => ?_]
      rw [Ser.c_add]
      show Ser.cf x i + Ser.cf y i = 0
      rw [Ser.cf_ge (by omega), Ser.cf_ge (by omega)]
      grind
theorem p_lmul : ∀ ds S Q XX, Closed S → a_mul ds S Q XX → w__law_multiply a_fr a_zero a_add0 a_mul0 a_trim (endOf Q S.length) (startD ["d", "x", "y", "parts", "i", "j"] ds) S (GivesX XX S.length) := by
  rintro ds S Q XX hC ⟨k, x, y, rfl, h, q⟩
  cases k with
  | b k => exact lmul_base ⟨k, x, y, rfl, h.1, h.2, q _ rfl⟩
  | p k =>
    obtain ⟨x, nx⟩ := x
    obtain ⟨y, ny⟩ := y
    obtain ⟨D, D', N, N', h⟩ := h
    have h : MulPre k x y D D' N N' := h
    have q : ∀ l : List k.T, Ser.nt l → Ser.of l = Ser.of x * Ser.of y → Q (pe k l) S := fun l hl e => q ⟨l, hl⟩ e
    obtain ⟨ox, oy⟩ := h.okx
    have lx := h.l1
    have ly := h.l2
    unfold w__law_multiply
    simp only [Dk.dom, Dk.enc, pe]
    refine seq_same ?_ fun R hR => by walk_at "ax"; exact hR
    refine seq_same ?_ fun R hR => by walk_at "ax"; exact hR
    walk_at "ax"
    refine ⟨.b k, rfl, fun z hz => ?_⟩
    have hz : z = 0 := hz
    subst hz
    walk_at "ax"
    generalize hlen : ((x.length : Nat) : Int) + (y.length : Nat) = len'
    obtain ⟨len, rfl⟩ : ∃ len : Nat, len' = (len : Nat) := ⟨x.length + y.length, by omega⟩
    refine ⟨⟨by omega, by omega, by omega⟩, ⟨by omega, by omega⟩, ?_⟩
    rw [Int.toNat_natCast, Int.toNat_natCast, List.flatten_replicate_singleton, show List.replicate len ((Dk.b k).enc 0) = (List.replicate len (0 : k.T)).map k.enc by rw [List.map_replicate]; rfl]
    let P : Nat → ASt → Sto → Prop := fun i σ S' => ∃ acc : List k.T, S' = S ++ [.lst (acc.map k.enc)] ∧ (if i < x.length then MAcc k x y (D * D') (N * N') len i 0 acc else Ser.of acc = Ser.of x * Ser.of y) ∧ ∃ a b, σ = [some (.tup [.str "P", k.dom]), some (.tup (x.map k.enc)), some (.tup (y.map k.enc)), some (.ref S.length), a, b]
    refine rng_cut 0 x.length P ⟨List.replicate len 0, rfl, ?_, none, none, rfl⟩ ?_ ?_
    · split
      · exact mul_zeros
      · obtain rfl := List.eq_nil_of_length_eq_zero (show x.length = 0 by omega)
        rw [Ser.of_zeros, Ser.of_nil]
        grind
    · rintro i σ S' R2 hi ⟨acc, rfl, hacc, a, b, rfl⟩ hR2
      rw [if_pos hi] at hacc
      rw [Int.zero_add]
      have hu : x[i]? = some x[i] := List.getElem?_eq_getElem hi
      generalize x[i] = u at hu
      walk_at "ax"
      refine ⟨⟨by omega, by omega⟩, ?_⟩
      rw [Int.toNat_natCast]
      let P2 : Nat → ASt → Sto → Prop := fun j σ S' => ∃ acc : List k.T, S' = S ++ [.lst (acc.map k.enc)] ∧ MAcc k x y (D * D') (N * N') len i j acc ∧ ∃ c, σ = [some (.tup [.str "P", k.dom]), some (.tup (x.map k.enc)), some (.tup (y.map k.enc)), some (.ref S.length), some (.int (i : Nat)), c]
      refine rng_cut 0 y.length P2 ⟨acc, rfl, hacc, _, rfl⟩ ?_ ?_
      · rintro j σ S' R3 hj ⟨acc, rfl, hacc, c, rfl⟩ hR3
        rw [Int.zero_add]
        have hv : y[j]? = some y[j] := List.getElem?_eq_getElem hj
        generalize y[j] = v at hv
        have hw : acc[i + j]? = some (acc[i + j]'(by rw [hacc.len]; omega)) := List.getElem?_eq_getElem _
        generalize acc[i + j]'(by rw [hacc.len]; omega) = w at hw
        obtain ⟨ow, om⟩ := h.okacc hacc hi hj hu hv hw
        walk_at "ax"
        rw [show ((i : Nat) : Int) + (j : Nat) = ((i + j : Nat) : Int) by omega, ref_ix (last_cell ..), atQ_of (at_map hw)]
        walk_at "ax"
        rw [atQ_of (at_map hu)]
        walk_at "ax"
        rw [atQ_of (at_map hv)]
        walk_at "ax"
        refine ⟨k, u, v, rfl, ox _ (get_mem hu), oy _ (get_mem hv), ?_⟩
        walk_at "ax"
        refine ⟨k, w, u * v, rfl, ow, om, ?_⟩
        walk_at "ax"
        rw [show ((i : Nat) : Int) + (j : Nat) = ((i + j : Nat) : Int) by omega, ref_put (last_cell ..) (ixN_nat (by rw [List.length_map, hacc.len]; omega))]
        walk_at "ax"
        exact hR3 _ _ ⟨acc.set (i + j) (w + u * v), by rw [last_set, ← List.map_set], hacc.step hu hv hw (h.sx _ (get_mem hu)) (h.sy _ (get_mem hv)), _, rfl⟩
      · rintro σ S' ⟨acc, rfl, hacc, c, rfl⟩
        refine hR2 _ _ ⟨acc, rfl, ?_, _, _, rfl⟩
        split
        · exact hacc.next hu
        · exact hacc.done hu (by omega)
    · rintro σ S' ⟨acc, rfl, hacc, a, b, rfl⟩
      rw [if_neg (Nat.lt_irrefl _)] at hacc
      walk_at "ax"
      refine ⟨k, acc, _, rfl, items_ref (last_cell ..), ?_⟩
      walk_at "ax"
      refine gives_cl hC (pe_cl _) (q (Ser.trim acc) (Ser.nt_trim _) ?_)
      rw [Ser.of_trim, hacc]
theorem int_one (R : Type) [Lean.Grind.CommRing R] : (Lean.Grind.Ring.intCast.intCast 1 : R) = 1 := Lean.Grind.Ring.intCast_ofNat (α := R) 1
theorem Dk.has_one : (k : Dk) → ∃ o : k.E, k.val o = 1
  | .b _ => ⟨1, rfl⟩
  | .p k => ⟨⟨[1], (one_list k).1⟩, (one_list k).2⟩
theorem Dk.SOk.one : {k : Dk} → {u y : k.E} → k.SOk y → k.val u = -1 → k.MulOk u y
  | .b k, u, y, h, hu => by
    have ok : k.ok := Bk.ok_of h
    exact ⟨Dk.Fi.Ok (k := .b k) (Dk.Fi.neg (k := .b k) (x := (1 : k.T)) (Dk.Fi.one (k := .b k) ok rfl) hu) (by decide) (by decide) (by decide), h⟩
  | .p k, u, y, h, hu => by
    obtain ⟨o, ho⟩ := (Dk.p k).has_one
    exact Dk.Fi.mulOk (k := .p k) ((Dk.Fi.one (k := .p k) h.ok ho).neg (by rw [hu, ho])) h (by decide) (by decide) (by decide) (by decide)
theorem p_lsub : ∀ ds S Q XX, Closed S → a_sub ds S Q XX → w__law_subtract a_add a_mul a_int (endOf Q S.length) (startD ["d", "x", "y"] ds) S (GivesX XX S.length) := by
  rintro ds S Q XX hC ⟨k, x, y, rfl, hx, hy, q⟩
  unfold w__law_subtract
  walk_at "ax"
  refine ⟨k, -1, rfl, fun u hu => ?_⟩
  have hu : k.val u = -1 := by
    rw [hu]
    have e : (Lean.Grind.Ring.intCast.intCast (-1) : k.R) = -(Lean.Grind.Ring.intCast.intCast 1 : k.R) := Lean.Grind.Ring.intCast_neg 1
    rw [e, int_one]
  walk_at "ax"
  refine ⟨k, u, y, rfl, hy.one hu, fun v hv => ?_⟩
  walk_at "ax"
  have hv : k.val v = -k.val y := by rw [hv, hu]; grind
  refine ⟨k, x, v, rfl, hx, k.Ok_neg hv hy.okLen.1, fun w hw => gives_now (q w ?_)⟩
  rw [hw, hv]
  grind
theorem p_lpower : ∀ ds S Q XX, Closed S → a_power ds S Q XX → w__law_power a_int a_mul (endOf Q S.length) (startD ["d", "x", "k", "result"] ds) S (GivesX XX S.length) := by
  rintro ds S Q XX hC ⟨k, x, n, rfl, ok, hp, q⟩
  unfold w__law_power
  refine seq_cut (fun σ S' => S = S' ∧ ∃ f : k.E, k.val f = 1 ∧ σ = [some k.dom, some (k.enc x), some (.int (n : Nat)), some (k.enc f)]) ?_ fun R hR => by
    walk_at "ax"
    exact ⟨k, 1, rfl, fun f hf => by walk_at "ax"; exact hR _ _ ⟨rfl, f, hf.trans (int_one _), rfl⟩⟩
  rintro _ _ ⟨rfl, f, hf, rfl⟩
  refine seq_cut (fun σ S' => S = S' ∧ ∃ (a b c : D) (f : k.E), k.val f = k.val x ^ n ∧ σ = [some a, some b, some c, some (k.enc f)]) ?_ fun R hR => ?_
  · rintro _ _ ⟨rfl, a, b, c, f, hf, rfl⟩
    walk_at "ax"
    exact gives_now (q f hf)
  let P : Nat → ASt → Sto → Prop := fun v σ S' => S = S' ∧ ∃ (m : Nat) (y f : k.E), m = v ∧ σ = [some k.dom, some (k.enc y), some (.int (m : Nat)), some (k.enc f)] ∧ k.val f * k.val y ^ m = k.val x ^ n ∧ (0 < m → k.PowAt m y f)
  walk_at "ax"
  refine whl_cut P n ⟨rfl, n, x, f, rfl, rfl, by rw [hf]; grind, fun _ => hp.elim (fun h => .inl h.2) fun h => Dk.PowAt.start ok (.inr h) hf⟩ ?_
  rintro v σ S' R2 ⟨rfl, m, y, f, rfl, rfl, he, hp⟩ hR2
  walk_at "ax"
  split
  · rename_i h0
    have h0 : 0 < m := by omega
    have hp := hp h0
    refine seq_cut (fun σ S' => S = S' ∧ ∃ f' : k.E, σ = [some k.dom, some (k.enc y), some (.int (m : Nat)), some (k.enc f')] ∧ k.val f' * k.val y ^ (2 * (m / 2)) = k.val x ^ n ∧ k.PowAt (2 * (m / 2)) y f') ?_ fun R3 hR3 => ?_
    · rintro _ _ ⟨rfl, f', rfl, he', hp'⟩
      walk_at "ax"
      refine ⟨k, y, y, rfl, (hp.sq h0).1, fun z hz => ?_⟩
      walk_at "ax"
      rw [show ((m : Nat) : Int).fdiv 2 = ((m / 2 : Nat) : Int) by rw [fdiv_pos (by decide)]; omega]
      refine ⟨divOk_small (by decide) (by decide), hR2 (m / 2) _ _ (by omega) ⟨rfl, m / 2, z, f', rfl, rfl, ?_, fun hm => hp'.even hm hz⟩⟩
      rw [hz, pow_two_mul]
      exact he'
    · walk_at "ax"
      rw [show ((m : Nat) : Int).fmod 2 = ((m % 2 : Nat) : Int) by rw [fmod_pos (by decide)]; omega]
      split
      · rename_i ho
        walk_at "ax"
        refine ⟨k, f, y, rfl, (hp.sq h0).2, fun z hz => ?_⟩
        walk_at "ax"
        have e : m = 2 * (m / 2) + 1 := by omega
        refine hR3 _ _ ⟨rfl, z, rfl, ?_, ?_⟩
        · rw [hz, ← he]
          conv => rhs; rw [e, Lean.Grind.Semiring.pow_succ]
          grind
        · rw [e] at hp
          exact hp.odd hz
      · rename_i ho
        walk_at "ax"
        have e : m = 2 * (m / 2) := by omega
        refine hR3 _ _ ⟨rfl, f, rfl, by rw [← e]; exact he, by rw [← e]; exact hp⟩
  · rename_i h0
    have h0 : m = 0 := by omega
    subst h0
    refine hR _ _ ⟨rfl, _, _, _, f, ?_, rfl⟩
    rw [← he]; grind
/-! ### drawing domains and elements -/
def Pr (p : Nat) : Prop := 2 ≤ p ∧ ∀ k, 2 ≤ k → k * k ≤ p → p % k ≠ 0
theorem Pr_of {p : Nat} (h2 : 2 ≤ p) (hp : p ≤ 65535) (h : ∀ k, k < 256 → 2 ≤ k → k * k ≤ p → p % k ≠ 0) : Pr p := by
  refine ⟨h2, fun k k2 kk => ?_⟩
  rcases Nat.lt_or_ge k 256 with x | x
  · exact h k x k2 kk
  · have := Nat.mul_le_mul x x
    omega
theorem Pr_65521 : Pr 65521 := Pr_of (by decide) (by decide) (by decide +kernel)
theorem Pr_list {p : Int} (h : p ∈ ([2, 3, 5, 7, 11, 101, 65521] : List Int)) : ∃ m : Nat, p = ((m + 2 : Nat) : Int) ∧ Pr (m + 2) ∧ m + 2 ≤ 65521 := by
  simp only [List.mem_cons, List.not_mem_nil, or_false] at h
  rcases h with rfl | rfl | rfl | rfl | rfl | rfl | rfl
  · exact ⟨0, rfl, Pr_of (by decide) (by decide) (by decide +kernel), by decide⟩
  · exact ⟨1, rfl, Pr_of (by decide) (by decide) (by decide +kernel), by decide⟩
  · exact ⟨3, rfl, Pr_of (by decide) (by decide) (by decide +kernel), by decide⟩
  · exact ⟨5, rfl, Pr_of (by decide) (by decide) (by decide +kernel), by decide⟩
  · exact ⟨9, rfl, Pr_of (by decide) (by decide) (by decide +kernel), by decide⟩
  · exact ⟨99, rfl, Pr_of (by decide) (by decide) (by decide +kernel), by decide⟩
  · exact ⟨65519, rfl, Pr_65521, by decide⟩
def Bk.fld (k : Bk) : Prop := k = .q ∨ ∃ m, k = .f m ∧ Pr (m + 2) ∧ m + 2 ≤ 65521
def Dk.dr : Dk → Prop
  | .b k => k = .z ∨ k.fld
  | .p k => k.fld
theorem Bk.fld.ok {k : Bk} (h : k.fld) : k.ok := by
  rcases h with rfl | ⟨m, rfl, _, hm⟩
  · trivial
  · show m < 2 ^ 20
    omega
theorem Dk.dr.ok : {k : Dk} → k.dr → k.base.ok
  | .b _, .inl h => by subst h; trivial
  | .b _, .inr h => h.ok
  | .p _, h => Bk.fld.ok h
def a_sprime : ASp := fun ds S Q _ => ∃ n, ds = [.ref n] ∧ Dr S n ∧ ∀ (m : Nat) S', Pr (m + 2) → m + 2 ≤ 65521 → DrTo S n S' → Q (.int (m + 2 : Nat)) S'
def a_field : ASp := fun ds S Q _ => ∃ n, ds = [.ref n] ∧ Dr S n ∧ ∀ (k : Bk) S', k.fld → DrTo S n S' → Q k.dom S'
def a_domain : ASp := fun ds S Q _ => ∃ n, ds = [.ref n] ∧ Dr S n ∧ ∀ (k : Dk) S', k.dr → DrTo S n S' → Q k.dom S'
def a_small : ASp := fun ds S Q _ => ∃ (n : Nat) (k : Bk), ds = [.ref n, k.dom] ∧ Dr S n ∧ k.ok ∧ ∀ (x : k.T) S', k.sz 6 64 x → DrTo S n S' → Q (k.enc x) S'
def a_element : ASp := fun ds S Q _ => ∃ (n : Nat) (k : Dk), ds = [.ref n, k.dom] ∧ Dr S n ∧ k.base.ok ∧ ∀ (x : k.E) S', k.Fi 6 40 4 x → DrTo S n S' → Q (k.enc x) S'
theorem len_some_prime : ∀ ds S Q XX, a_sprime ds S Q XX → ds.length = 1 := by rintro ds S Q XX ⟨_, rfl, _⟩; rfl
theorem len_field : ∀ ds S Q XX, a_field ds S Q XX → ds.length = 1 := by rintro ds S Q XX ⟨_, rfl, _⟩; rfl
theorem len_domain : ∀ ds S Q XX, a_domain ds S Q XX → ds.length = 1 := by rintro ds S Q XX ⟨_, rfl, _⟩; rfl
theorem len_small : ∀ ds S Q XX, a_small ds S Q XX → ds.length = 2 := by rintro ds S Q XX ⟨_, _, rfl, _⟩; rfl
theorem len_element : ∀ ds S Q XX, a_element ds S Q XX → ds.length = 2 := by rintro ds S Q XX ⟨_, _, rfl, _⟩; rfl
theorem p_field : ∀ ds S Q XX, Closed S → a_field ds S Q XX → w__law_field a_take a_sprime (endOf Q S.length) (startD ["c", "primes", "k"] ds) S (GivesX XX S.length) := by
  rintro ds S Q XX hC ⟨n, rfl, hS, q⟩
  unfold w__law_field
  walk_at "ax"
  refine ⟨n, 14, rfl, hS, by omega, fun r S1 t r0 r1 => ?_⟩
  walk_at "ax"
  split
  · walk_at "ax"
    exact gives_now (q .q _ (.inl rfl) t)
  · rename_i h4
    walk_at "ax"
    split
    · walk_at "ax"
      refine ⟨n, rfl, hS.to t, fun m S2 hm h5 t2 => ?_⟩
      walk_at "ax"
      exact gives_now (q (.f m) _ (.inr ⟨m, rfl, hm, h5⟩) (t.trans t2))
    · rename_i h10
      walk_at "ax"
      obtain ⟨p, hp, e⟩ := at_ints [2, 3, 5, 7, 11, 101, 65521] (show 0 ≤ r - 4 by omega) (by simp only [List.length_cons, List.length_nil]; omega)
      obtain ⟨m, rfl, hm, h5⟩ := Pr_list hp
      simp only [List.map_cons, List.map_nil] at e
      rw [atQ_of e]
      walk_at "ax"
      exact gives_now (q (.f m) _ (.inr ⟨m, rfl, hm, h5⟩) t)
theorem p_domain : ∀ ds S Q XX, Closed S → a_domain ds S Q XX → w__law_domain a_take a_field (endOf Q S.length) (startD ["c", "k"] ds) S (GivesX XX S.length) := by
  rintro ds S Q XX hC ⟨n, rfl, hS, q⟩
  unfold w__law_domain
  walk_at "ax"
  refine ⟨n, 6, rfl, hS, by omega, fun r S1 t r0 r1 => ?_⟩
  walk_at "ax"
  split
  · walk_at "ax"
    exact gives_now (q (.b .z) _ (.inl rfl) t)
  · walk_at "ax"
    split
    · walk_at "ax"
      refine ⟨n, rfl, hS.to t, fun k S2 hk t2 => ?_⟩
      walk_at "ax"
      exact gives_now (q (.p k) _ hk (t.trans t2))
    · walk_at "ax"
      refine ⟨n, rfl, hS.to t, fun k S2 hk t2 => ?_⟩
      exact gives_now (q (.b k) _ (.inr hk) (t.trans t2))
theorem sz_frac {n d : Int} {D N : Nat} (k : Int) (hd : 0 < d) (e : d * k = (D : Int)) (h : (n * k).natAbs ≤ N) : Bk.sz .q D N (Rat.divInt n d) := by
  refine ⟨n * k, ?_, h⟩
  have d0 : (d : Rat) ≠ 0 := fun z => by
    have := Rat.intCast_inj.mp (z.trans (show (0 : Rat) = ((0 : Int) : Rat) from rfl))
    omega
  have e2 : ((D : Nat) : Rat) = (d : Rat) * (k : Rat) := by rw [← Rat.intCast_mul, e, Rat.intCast_natCast]
  rw [e2, Rat.intCast_mul, Rat.divInt_eq_div, ← Rat.mul_assoc, Rat.div_mul_cancel d0]
theorem small_any {A3 A4 : ASp} {ds : List D} {S : Sto} {Q : VKD} {XX : XKD} (q : a_small ds S Q XX) : w__law_small a_take a_fr A3 A4 (endOf Q S.length) (startD ["c", "d", "k"] ds) S (GivesX XX S.length) := by
  obtain ⟨n, k, rfl, hS, ok, q⟩ := q
  unfold w__law_small
  cases k with
  | z =>
    simp only [Bk.dom]
    walk_at "ax"
    refine ⟨n, 9, rfl, hS, by omega, fun r1 S1 t1 a0 a1 => ?_⟩
    walk_at "ax"
    refine ⟨n, 99, rfl, hS.to t1, by omega, fun r2 S2 t2 b0 b1 => ?_⟩
    walk_at "ax"
    refine ⟨n, 5, rfl, (hS.to t1).to t2, by omega, fun r3 S3 t3 c0 c1 => ?_⟩
    obtain ⟨m, hm, e⟩ := at_ints [r1 - 4, 0, 0, 1, r2 - 49] c0 c1
    simp only [List.map_cons, List.map_nil] at e
    walk_at "ax"
    rw [atQ_of e]
    walk_at "ax"
    refine gives_now (q m _ ?_ ((t1.trans t2).trans t3))
    show m.natAbs ≤ 64
    simp only [List.mem_cons, List.not_mem_nil, or_false] at hm
    omega
  | q =>
    simp only [Bk.dom]
    walk_at "ax"
    refine ⟨n, 9, rfl, hS, by omega, fun r1 S1 t1 a0 a1 => ?_⟩
    walk_at "ax"
    refine ⟨n, 3, rfl, hS.to t1, by omega, fun r2 S2 t2 b0 b1 => ?_⟩
    walk_at "ax"
    refine ⟨by omega, gives_now (q _ _ ?_ (t1.trans t2))⟩
    have h3 : r2 = 0 ∨ r2 = 1 ∨ r2 = 2 := by omega
    rcases h3 with rfl | rfl | rfl
    · exact sz_frac 6 (by decide) rfl (by omega)
    · exact sz_frac 3 (by decide) rfl (by omega)
    · exact sz_frac 2 (by decide) rfl (by omega)
  | f m =>
    simp only [Bk.dom]
    walk_at "ax"
    refine ⟨n, 65536, rfl, hS, by omega, fun r1 S1 t1 a0 a1 => ?_⟩
    obtain ⟨r, rfl⟩ : ∃ r : Nat, r1 = (r : Nat) := ⟨r1.toNat, by omega⟩
    have ok : m < 2 ^ 20 := ok
    walk_at "ax"
    rw [fin_cast]
    exact ⟨by omega, gives_now (q ⟨r % (m + 2), Nat.mod_lt _ (by omega)⟩ _ trivial t1)⟩
theorem p_small : ∀ ds S Q XX, Closed S → a_small ds S Q XX → w__law_small a_take a_fr aspNo aspNo (endOf Q S.length) (startD ["c", "d", "k"] ds) S (GivesX XX S.length) := fun _ _ _ _ _ q => small_any q
/-- small elements of any domain -/
def a_smalld : ASp := fun ds S Q _ => ∃ (n : Nat) (k : Dk), ds = [.ref n, k.dom] ∧ Dr S n ∧ k.base.ok ∧ ∀ (x : k.E) S', k.Fi 3 6 2 x → DrTo S n S' → Q (k.enc x) S'
theorem len_smalld : ∀ ds S Q XX, a_smalld ds S Q XX → ds.length = 2 := by rintro ds S Q XX ⟨_, _, rfl, _⟩; rfl
theorem small_poly {k : Bk} (ok : k.ok) {l : List k.T} {L : Nat} (hl : l.length ≤ L) (hs : ∀ a ∈ l, k.sz 6 64 a) : (Dk.p k).Fi 3 6 L ⟨Ser.trim l, Ser.nt_trim l⟩ := by
  refine ⟨ok, 6, by decide, by decide, Nat.le_trans (Ser.trim_len l) hl, fun i => ?_⟩
  show k.sz 6 (2 ^ 6) (Ser.cf (Ser.trim l) i)
  rw [Ser.cf_trim]
  cases e : l[i]? with
  | none => rw [Ser.cf_ge (List.getElem?_eq_none_iff.mp e)]; exact Bk.sz_mono (Nat.zero_le _) Bk.sz_zero
  | some a => rw [Ser.cf_lt e]; exact hs a (get_mem e)
theorem small_base {k : Bk} (ok : k.ok) {x : k.T} (h : k.sz 6 64 x) : (Dk.b k).Fi 3 6 1 x := ⟨ok, 6, by decide, by decide, h⟩
theorem p_smalld : ∀ ds S Q XX, Closed S → a_smalld ds S Q XX → w__law_small a_take a_fr a_trim a_small (endOf Q S.length) (startD ["c", "d", "k"] ds) S (GivesX XX S.length) := by
  rintro ds S Q XX hC ⟨n, k, rfl, hS, ok, q⟩
  cases k with
  | b k =>
    exact small_any ⟨n, k, rfl, hS, ok, fun x S' hx t => q x S' ((small_base ok hx).mono (by decide) (by decide) (by decide)) t⟩
  | p k =>
    unfold w__law_small
    simp only [Dk.dom]
    walk_at "ax"
    refine ⟨n, 3, rfl, hS, by omega, fun r S2 t2 a0 a1 => ?_⟩
    obtain ⟨m, rfl⟩ : ∃ m : Nat, r = (m : Nat) := ⟨r.toNat, by omega⟩
    walk_at "ax"
    refine ⟨⟨by omega, by omega⟩, by rw [rangeD_len]; omega, ?_⟩
    rw [Int.toNat_natCast]
    refine lc_cut (rangeD 0 m) (fun i acc S' => DrTo S n S' ∧ ∃ l : List k.T, l.length = i ∧ acc = l.map k.enc ∧ ∀ a ∈ l, k.sz 6 64 a) ⟨t2, [], rfl, rfl, fun a ha => nomatch ha⟩ ?_ ?_
    · rintro i d acc S3 R hd ⟨t3, l, hl, rfl, hs⟩ hR
      obtain ⟨_, rfl⟩ := rangeD_get hd
      walk_at "ax"
      refine ⟨n, k, rfl, hS.to t3, ok, fun a S4 ha t4 => ?_⟩
      walk_at "ax"
      refine hR _ _ ⟨t3.trans t4, l ++ [a], by rw [List.length_append, hl]; rfl, by rw [List.map_append]; rfl, fun b hb => ?_⟩
      rcases List.mem_append.mp hb with hb | hb
      · exact hs b hb
      · rw [List.mem_singleton.mp hb]; exact ha
    · rintro acc S3 ⟨t3, l, hl, rfl, hs⟩
      rw [rangeD_len] at hl
      walk_at "ax"
      refine ⟨k, l, _, rfl, rfl, ?_⟩
      walk_at "ax"
      exact gives_now (q ⟨Ser.trim l, Ser.nt_trim l⟩ _ (small_poly (L := 2) ok (show l.length ≤ 2 by rw [hl]; omega) hs) t3)
theorem p_element : ∀ ds S Q XX, Closed S → a_element ds S Q XX → w__law_element a_integer a_take a_fr a_trim a_small (endOf Q S.length) (startD ["c", "d", "n", "k"] ds) S (GivesX XX S.length) := by
  rintro ds S Q XX hC ⟨n, k, rfl, hS, ok, q⟩
  unfold w__law_element
  refine seq_cut (fun σ S' => DrTo S n S' ∧ ∃ v : Int, σ = [some (.ref n), some k.dom, some (.int v), none]) ?_ fun R hR => by
    walk_at "ax"
    refine ⟨n, rfl, hS, fun r S2 t _ => ?_⟩
    walk_at "ax"
    exact hR _ _ ⟨t, r, rfl⟩
  rintro _ S1 ⟨t1, v, rfl⟩
  refine seq_cut (fun σ S' => DrTo S n S' ∧ ∃ v : Int, v.natAbs ≤ 1000000000000 ∧ σ = [some (.ref n), some k.dom, some (.int v), none]) ?_ fun R hR => by
    walk_at "ax"
    split
    · walk_at "ax"
      refine ⟨n, 2, rfl, hS.to t1, by omega, fun r S2 t2 a0 a1 => ?_⟩
      obtain ⟨m, hm, e⟩ := at_ints [1, -1] a0 a1
      simp only [List.map_cons, List.map_nil] at e
      walk_at "ax"
      rw [atQ_of e]
      walk_at "ax"
      rw [fmod_pos (by decide)]
      simp only [List.mem_cons, List.not_mem_nil, or_false] at hm
      have b0 := Int.emod_nonneg v (show (1000000000000 : Int) ≠ 0 by decide)
      have b1 := Int.emod_lt_of_pos v (show (0 : Int) < 1000000000000 by decide)
      refine ⟨mulOk_small (.inr (by omega)), hR _ _ ⟨t1.trans t2, _, ?_, rfl⟩⟩
      rcases hm with rfl | rfl <;> omega
    · walk_at "ax"
      exact hR _ _ ⟨t1, v, by omega, rfl⟩
  clear t1 v
  rintro _ S1 ⟨t1, v, hv, rfl⟩
  have h1 := hS.to t1
  cases k with
  | b k =>
    cases k with
    | z =>
      simp only [Dk.dom, Bk.dom]
      walk_at "ax"
      refine gives_now (q v _ ⟨ok, 1, by decide, by decide, ?_⟩ t1)
      show v.natAbs ≤ 2 ^ 40
      omega
    | q =>
      simp only [Dk.dom, Bk.dom]
      walk_at "ax"
      refine ⟨n, 50, rfl, h1, by omega, fun r2 S2 t2 a0 a1 => ?_⟩
      walk_at "ax"
      refine ⟨n, 5, rfl, h1.to t2, by omega, fun r3 S3 t3 c0 c1 => ?_⟩
      obtain ⟨m, hm, e⟩ := at_ints [1, 1, 2, 3, 1 + r2] c0 c1
      simp only [List.map_cons, List.map_nil] at e
      walk_at "ax"
      rw [atQ_of e]
      walk_at "ax"
      simp only [List.mem_cons, List.not_mem_nil, or_false] at hm
      refine ⟨by omega, gives_now (q _ _ ⟨ok, m.toNat, by omega, by omega, ?_⟩ ((t1.trans t2).trans t3))⟩
      exact sz_frac 1 (by omega) (by omega) (by omega)
    | f m =>
      simp only [Dk.dom, Bk.dom]
      walk_at "ax"
      refine ⟨n, 65536, rfl, h1, by omega, fun r1 S2 t2 a0 a1 => ?_⟩
      obtain ⟨r, rfl⟩ : ∃ r : Nat, r1 = (r : Nat) := ⟨r1.toNat, by omega⟩
      have ok2 : m < 2 ^ 20 := ok
      walk_at "ax"
      rw [fin_cast]
      exact ⟨by omega, gives_now (q ⟨r % (m + 2), Nat.mod_lt _ (by omega)⟩ _ ⟨ok, 1, by decide, by decide, trivial⟩ (t1.trans t2))⟩
  | p k =>
    simp only [Dk.dom]
    walk_at "ax"
    refine ⟨n, 5, rfl, h1, by omega, fun r S2 t2 a0 a1 => ?_⟩
    obtain ⟨m, rfl⟩ : ∃ m : Nat, r = (m : Nat) := ⟨r.toNat, by omega⟩
    walk_at "ax"
    refine ⟨⟨by omega, by omega⟩, by rw [rangeD_len]; omega, ?_⟩
    rw [Int.toNat_natCast]
    refine lc_cut (rangeD 0 m) (fun i acc S' => DrTo S n S' ∧ ∃ l : List k.T, l.length = i ∧ acc = l.map k.enc ∧ ∀ a ∈ l, k.sz 6 64 a) ⟨t1.trans t2, [], rfl, rfl, fun a ha => nomatch ha⟩ ?_ ?_
    · rintro i d acc S3 R hd ⟨t3, l, hl, rfl, hs⟩ hR
      obtain ⟨_, rfl⟩ := rangeD_get hd
      walk_at "ax"
      refine ⟨n, k, rfl, hS.to t3, ok, fun a S4 ha t4 => ?_⟩
      walk_at "ax"
      refine hR _ _ ⟨t3.trans t4, l ++ [a], by rw [List.length_append, hl]; rfl, by rw [List.map_append]; rfl, fun b hb => ?_⟩
      rcases List.mem_append.mp hb with hb | hb
      · exact hs b hb
      · rw [List.mem_singleton.mp hb]; exact ha
    · rintro acc S3 ⟨t3, l, hl, rfl, hs⟩
      rw [rangeD_len] at hl
      walk_at "ax"
      refine ⟨k, l, _, rfl, rfl, ?_⟩
      walk_at "ax"
      refine gives_now (q ⟨Ser.trim l, Ser.nt_trim l⟩ _ ⟨ok, 6, by decide, by decide, Nat.le_trans (Ser.trim_len l) (by omega), fun i => ?_⟩ t3)
      show k.sz 6 (2 ^ 40) (Ser.cf (Ser.trim l) i)
      rw [Ser.cf_trim]
      cases e : l[i]? with
      | none => rw [Ser.cf_ge (List.getElem?_eq_none_iff.mp e)]; exact Bk.sz_mono (Nat.zero_le _) Bk.sz_zero
      | some a => rw [Ser.cf_lt e]; exact Bk.sz_mono (by decide) (hs a (get_mem e))
theorem p_some_prime : ∀ ds S Q XX, Closed S → a_sprime ds S Q XX → w__law_some_prime a_take (endOf Q S.length) (startD ["c", "p", "k"] ds) S (GivesX XX S.length) := by
  rintro ds S Q XX hC ⟨n, rfl, hS, q⟩
  unfold w__law_some_prime
  refine seq_cut (fun σ S' => DrTo S n S' ∧ ∃ p : Nat, 2 ≤ p ∧ p ≤ 65521 ∧ σ = [some (.ref n), some (.int (p : Nat)), none]) ?_ fun R hR => by
    walk_at "ax"
    refine ⟨n, 65520, rfl, hS, by omega, fun r S1 t r0 r1 => ?_⟩
    walk_at "ax"
    exact hR _ _ ⟨t, (2 + r).toNat, by omega, by omega, by rw [Int.toNat_of_nonneg (by omega)]⟩
  rintro _ S1 ⟨t1, p, h2, h5, rfl⟩
  refine seq_cut (fun σ S' => S' = S1 ∧ ∃ (m : Nat) (o : Option D), Pr (m + 2) ∧ m + 2 ≤ 65521 ∧ σ = [some (.ref n), some (.int (m + 2 : Nat)), o]) ?_ fun R hR => ?_
  · rintro _ _ ⟨rfl, m, o, hm, hp, rfl⟩
    walk_at "ax"
    exact gives_now (q m _ hm hp t1)
  · walk_at "ax"
    refine whl_cut (fun v σ S' => S' = S1 ∧ ∃ (p : Nat) (o : Option D), 2 ≤ p ∧ p ≤ 65521 ∧ v = 65521 - p ∧ σ = [some (.ref n), some (.int (p : Nat)), o]) (65521 - p) ⟨rfl, p, none, h2, h5, rfl, rfl⟩ ?_
    rintro v σ S' R2 ⟨rfl, p, o, h2, h5, rfl, rfl⟩ hR2
    walk_at "ax"
    refine ⟨by rw [rangeD_len]; omega, ?_⟩
    refine lc_cut (rangeD 2 255) (fun i acc S1 => S1 = S' ∧ ∃ bs : List Bool, acc = bs.map D.bl ∧ (bs.any id = true ↔ ∃ j : Nat, 2 ≤ j ∧ j < 2 + i ∧ j * j ≤ p ∧ p % j = 0)) ⟨rfl, [], rfl, by simp; omega⟩ ?_ ?_
    · rintro i d acc _ R3 hd ⟨rfl, bs, rfl, hb⟩ hR3
      obtain ⟨hi, rfl⟩ := rangeD_get hd
      walk_at "ax"
      rw [show (2 : Int) + (i : Nat) = ((2 + i : Nat) : Int) by omega, ← Int.natCast_mul, fmod_pos (by omega), ← Int.natCast_emod]
      generalize hq : 2 + i = m at *
      refine ⟨mulOk_small (.inl (by omega)), ?_⟩
      split
      · rename_i hle
        have hle : m * m ≤ p := Int.ofNat_le.mp hle
        refine ⟨by omega, hR3 _ _ ⟨rfl, bs ++ [decide (((p % m : Nat) : Int) = 0)], by rw [List.map_append]; rfl, ?_⟩⟩
        rw [List.any_append, Bool.or_eq_true, hb]
        simp only [List.any_cons, List.any_nil, Bool.or_false, id, decide_eq_true_eq]
        constructor
        · rintro (⟨j, j2, j3, j4, j5⟩ | h)
          · exact ⟨j, j2, by omega, j4, j5⟩
          · exact ⟨m, by omega, by omega, hle, by omega⟩
        · rintro ⟨j, j2, j3, j4, j5⟩
          rcases Nat.lt_or_ge j m with z | z
          · exact .inl ⟨j, j2, z, j4, j5⟩
          · have : j = m := by omega
            subst this
            exact .inr (by omega)
      · rename_i hle
        have hle : ¬(m * m ≤ p) := fun z => hle (Int.ofNat_le.mpr z)
        refine hR3 _ _ ⟨rfl, bs, rfl, ?_⟩
        rw [hb]
        constructor
        · rintro ⟨j, j2, j3, j4, j5⟩
          exact ⟨j, j2, by omega, j4, j5⟩
        · rintro ⟨j, j2, j3, j4, j5⟩
          rcases Nat.lt_or_ge j m with z | z
          · exact ⟨j, j2, z, j4, j5⟩
          · have : j = m := by omega
            subst this
            exact absurd j4 hle
    · rintro acc _ ⟨rfl, bs, rfl, hb⟩
      rw [rangeD_len] at hb
      walk_at "ax"
      rw [blQ_map]
      walk_at "ax"
      split
      · rename_i h
        obtain ⟨j, j2, j3, j4, j5⟩ := hb.mp h
        have ne : p ≠ 65521 := fun z => by
          subst z
          exact Pr_65521.2 j j2 j4 j5
        walk_at "ax"
        exact hR2 (65521 - (p + 1)) _ _ (by omega) ⟨rfl, p + 1, o, by omega, by omega, rfl, rfl⟩
      · rename_i h
        refine hR _ _ ⟨rfl, p - 2, o, ?_, by omega, by rw [show p - 2 + 2 = p by omega]⟩
        rw [show p - 2 + 2 = p by omega]
        exact Pr_of h2 (by omega) fun m h256 m2 mm e => h (hb.mpr ⟨m, m2, by omega, mm, e⟩)
/-! ### common -/
def ComOk (a b g s t : Int) : Prop := (a = 0 ∧ b = 0 ∧ g = 0 ∧ s = 0 ∧ t = 0) ∨
  (¬(a = 0 ∧ b = 0) ∧ 0 < g ∧ s * a + t * b = g ∧ (∃ a', a = g * a' ∧ (a ≠ 0 → b ≠ 0 → t.natAbs ≤ a'.natAbs)) ∧ (∃ b', b = g * b' ∧ (a ≠ 0 → b ≠ 0 → s.natAbs ≤ b'.natAbs)) ∧ (b = 0 → t = 0 ∧ s.natAbs = 1) ∧ (a = 0 → s = 0 ∧ t.natAbs = 1))
def a_common : ASp := fun ds S Q _ => ∃ a b : Int, ds = [.int a, .int b] ∧ a.natAbs < 2 ^ 50000000 ∧ b.natAbs < 2 ^ 50000000 ∧ ∀ g s t, ComOk a b g s t → Q (.tup [.int g, .int s, .int t]) S
theorem len_common : ∀ ds S Q XX, a_common ds S Q XX → ds.length = 2 := by rintro ds S Q XX ⟨n, m, rfl, _⟩; rfl
/-- the two rows of the Euclidean algorithm for A, B -/
structure CInv (A B r0 s0 t0 r1 s1 t1 e S0 S1 T0 T1 : Int) : Prop where
  he : e = 1 ∨ e = -1
  S0p : 0 ≤ S0
  S1p : 0 ≤ S1
  T0p : 0 ≤ T0
  T1p : 0 ≤ T1
  s0e : s0 = e * S0
  s1e : s1 = -(e * S1)
  t0e : t0 = -(e * T0)
  t1e : t1 = e * T1
  r0p : 0 < r0
  r1p : 0 ≤ r1
  hB : r0 * S1 + r1 * S0 = B
  hA : r0 * T1 + r1 * T0 = A
  l0 : s0 * A + t0 * B = r0
  l1 : s1 * A + t1 * B = r1
  ord : r1 ≤ r0 ∨ (S1 = 0 ∧ T0 = 0)
  bS : r0 * S0 ≤ B ∨ S1 = 0
  bT : r0 * T0 ≤ A ∨ T1 = 0
theorem CInv.step {A B r0 s0 t0 r1 s1 t1 e S0 S1 T0 T1 : Int} (h : CInv A B r0 s0 t0 r1 s1 t1 e S0 S1 T0 T1) (hr : r1 ≠ 0) :
    CInv A B r1 s1 t1 (r0 - r0 / r1 * r1) (s0 - r0 / r1 * s1) (t0 - r0 / r1 * t1) (-e) S1 (S0 + r0 / r1 * S1) T1 (T0 + r0 / r1 * T1) ∧ r0 - r0 / r1 * r1 < r1 := by
  have r1p : 0 < r1 := by have := h.r1p; omega
  have hm : r0 - r0 / r1 * r1 = r0 % r1 := by have := Int.emod_add_mul_ediv r0 r1; grind
  have m0 := Int.emod_nonneg r0 hr
  have m1 := Int.emod_lt_of_pos r0 r1p
  have q0 : 0 ≤ r0 / r1 := Int.ediv_nonneg (Int.le_of_lt h.r0p) (Int.le_of_lt r1p)
  have qs := Int.mul_nonneg q0 h.S1p
  have qt := Int.mul_nonneg q0 h.T1p
  obtain ⟨he, S0p, S1p, T0p, T1p, s0e, s1e, t0e, t1e, r0p, _, hB, hA, l0, l1, ord, bS, bT⟩ := h
  generalize hq : r0 / r1 = q at *
  refine ⟨⟨by omega, S1p, by omega, T1p, by omega, ?_, ?_, ?_, ?_, r1p, by omega, ?_, ?_, l1, ?_, .inl (by omega), ?_, ?_⟩, by omega⟩
  · rw [s1e, Int.neg_mul]
  · rw [s0e, s1e]; grind
  · rw [t1e]; grind
  · rw [t0e, t1e]; grind
  · grind
  · grind
  · grind
  · rcases ord with o | ⟨o, _⟩
    · left
      have a := Int.mul_le_mul_of_nonneg_right o S1p
      have b := Int.mul_nonneg (Int.le_of_lt r1p) S0p
      omega
    · left
      rw [o, Int.mul_zero]
      have b := Int.mul_nonneg (Int.le_of_lt r1p) S0p
      rw [o, Int.mul_zero] at hB
      omega
  · by_cases o : r1 ≤ r0
    · left
      have a := Int.mul_le_mul_of_nonneg_right o T1p
      have b := Int.mul_nonneg (Int.le_of_lt r1p) T0p
      omega
    · right
      have o2 := ord.resolve_left o
      have e0 : q = 0 := by rw [← hq]; exact Int.ediv_eq_zero_of_lt (Int.le_of_lt r0p) (by omega)
      rw [o2.2, e0, Int.zero_mul]; rfl
theorem natAbs_mul_nonneg {e x : Int} (h : e = 1 ∨ e = -1) : (e * x).natAbs = x.natAbs := by
  rcases h with rfl | rfl
  · rw [Int.one_mul]
  · rw [Int.neg_mul, Int.one_mul, Int.natAbs_neg]
/-- what the sizes of the rows are -/
theorem CInv.small {A B r0 s0 t0 r1 s1 t1 e S0 S1 T0 T1 : Int} (h : CInv A B r0 s0 t0 r1 s1 t1 e S0 S1 T0 T1) : s1.natAbs ≤ B.natAbs ∧ t1.natAbs ≤ A.natAbs := by
  have a := Int.mul_nonneg h.r1p h.S0p
  have b := Int.mul_nonneg h.r1p h.T0p
  have c := Int.mul_le_mul_of_nonneg_right (show (1 : Int) ≤ r0 by have := h.r0p; omega) h.S1p
  have d := Int.mul_le_mul_of_nonneg_right (show (1 : Int) ≤ r0 by have := h.r0p; omega) h.T1p
  have := h.hB; have := h.hA; have := h.S1p; have := h.T1p
  rw [h.s1e, h.t1e, Int.natAbs_neg, natAbs_mul_nonneg h.he, natAbs_mul_nonneg h.he]
  omega
theorem CInv.done {a b A B r0 s0 t0 s1 t1 e S0 S1 T0 T1 : Int} (h : CInv A B r0 s0 t0 0 s1 t1 e S0 S1 T0 T1) (ha : A = a.natAbs) (hb : B = b.natAbs) (a0 : a ≠ 0) (b0 : b ≠ 0) :
    ComOk a b r0 (if 0 < a then s0 else -s0) (if 0 < b then t0 else -t0) := by
  have hB := h.hB; have hA := h.hA
  rw [Int.zero_mul, Int.add_zero] at hB hA
  have B0 : 0 < B := by omega
  have A0 : 0 < A := by omega
  have S1n : S1 ≠ 0 := by rintro rfl; rw [Int.mul_zero] at hB; omega
  have T1n : T1 ≠ 0 := by rintro rfl; rw [Int.mul_zero] at hA; omega
  have lS : S0 ≤ S1 := by
    have := h.bS.resolve_right S1n
    rw [← hB] at this
    exact Int.le_of_mul_le_mul_left this h.r0p
  have lT : T0 ≤ T1 := by
    have := h.bT.resolve_right T1n
    rw [← hA] at this
    exact Int.le_of_mul_le_mul_left this h.r0p
  have l0 := h.l0
  have n0 := h.S0p; have n1 := h.T0p
  have sabs : s0.natAbs = S0.natAbs := by rw [h.s0e, natAbs_mul_nonneg h.he]
  have tabs : t0.natAbs = T0.natAbs := by rw [h.t0e, Int.natAbs_neg, natAbs_mul_nonneg h.he]
  right
  refine ⟨fun z => a0 z.1, h.r0p, ?_, ⟨if 0 < a then T1 else -T1, ?_, fun _ _ => ?_⟩, ⟨if 0 < b then S1 else -S1, ?_, fun _ _ => ?_⟩, fun z => absurd z b0, fun z => absurd z a0⟩
  · by_cases pa : 0 < a <;> by_cases pb : 0 < b <;> simp only [pa, pb, if_true, if_false]
    · rw [show a = A by omega, show b = B by omega]; exact l0
    · rw [show a = A by omega, show b = -B by omega]; grind
    · rw [show a = -A by omega, show b = B by omega]; grind
    · rw [show a = -A by omega, show b = -B by omega]; grind
  · split <;> grind
  · split <;> split <;> omega
  · split <;> grind
  · split <;> split <;> omega
/-! ### primes by trial division -/
def IsP (n : Int) : Prop := 1 < n ∧ ∀ k : Int, 2 ≤ k → k * k ≤ n → n % k ≠ 0
def a_isp : ASp := fun ds S Q _ => ∃ n : Int, ds = [.int n] ∧ n.natAbs < 2 ^ 64 ∧ ∀ b : Bool, (b = true ↔ IsP n) → Q (.bl b) S
def a_next : ASp := fun ds S Q _ => ∃ n : Int, ds = [.int n] ∧ (0 ≤ n ∧ n ≤ 2147483648) ∧ ∀ p : Int, (n < p ∧ p ≤ 2147483659 ∧ IsP p ∧ ∀ j, n < j → j < p → ¬IsP j) → Q (.int p) S
theorem len_isp : ∀ ds S Q XX, a_isp ds S Q XX → ds.length = 1 := by rintro ds S Q XX ⟨n, rfl, _⟩; rfl
theorem len_is_prime : ∀ ds S Q XX, a_isp ds S Q XX → ds.length = 1 := len_isp
theorem len_next : ∀ ds S Q XX, a_next ds S Q XX → ds.length = 1 := by rintro ds S Q XX ⟨n, rfl, _⟩; rfl
theorem len_next_prime : ∀ ds S Q XX, a_next ds S Q XX → ds.length = 1 := len_next
theorem isp_small {n : Int} (h : n < 4) : (decide (1 < n) = true ↔ IsP n) := by
  rw [decide_eq_true_eq]
  refine ⟨fun h1 => ⟨h1, fun k k2 kk => ?_⟩, fun h => h.1⟩
  have := Int.mul_le_mul k2 k2 (by decide) (by omega)
  omega
theorem isp_not {n k : Int} (k2 : 2 ≤ k) (kk : k * k ≤ n) (h : n % k = 0) : (false = true ↔ IsP n) := ⟨fun z => (nomatch z), fun p => absurd h (p.2 k k2 kk)⟩
theorem isp_yes {n k : Int} (h4 : 4 ≤ n) (h2 : n % 2 ≠ 0) (hk : 3 ≤ k) (odd : k % 2 = 1) (hi : ∀ j, 2 ≤ j → j < k → n % j ≠ 0) (h : n < k * k) : (true = true ↔ IsP n) := by
  refine ⟨fun _ => ⟨by omega, fun j j2 jj hj => ?_⟩, fun _ => rfl⟩
  rcases Int.lt_or_le j k with x | x
  · exact hi j j2 x hj
  · have := Int.mul_le_mul x x (by omega) (by omega)
    omega
theorem isp_turn {n k : Int} (h2 : n % 2 ≠ 0) (odd : k % 2 = 1) (hi : ∀ j, 2 ≤ j → j < k → n % j ≠ 0) (h : n % k ≠ 0) : ∀ j, 2 ≤ j → j < k + 2 → n % j ≠ 0 := by
  intro j j2 jk hj
  rcases Int.lt_or_le j k with x | x
  · exact hi j j2 x hj
  · rcases (show j = k ∨ j = k + 1 by omega) with rfl | rfl
    · exact h hj
    · have a : (k + 1) ∣ n := Int.dvd_of_emod_eq_zero hj
      have b : (2 : Int) ∣ (k + 1) := Int.dvd_of_emod_eq_zero (by omega)
      exact h2 (Int.emod_eq_zero_of_dvd (Int.dvd_trans b a))
theorem p_is_prime : ∀ ds S Q XX, Closed S → a_isp ds S Q XX → w_is_prime (endOf Q S.length) (startD ["n", "k"] ds) S (GivesX XX S.length) := by
  rintro ds S Q XX hC ⟨n, rfl, hn, q⟩
  unfold w_is_prime
  refine seq_cut (fun σ S' => S = S' ∧ σ = [some (.int n), none] ∧ 4 ≤ n) ?_ ?_
  rotate_left
  · intro R hR
    walk_at "aw"
    split
    · rename_i h
      exact gives_now (q _ (isp_small h))
    · exact hR _ _ ⟨rfl, rfl, by omega⟩
  rintro _ _ ⟨rfl, rfl, h4⟩
  refine seq_cut (fun σ S' => S = S' ∧ σ = [some (.int n), none] ∧ n % 2 ≠ 0) ?_ ?_
  rotate_left
  · intro R hR
    walk_at "aw"
    rw [fmod_pos (by decide)]
    split
    · rename_i h
      exact gives_now (q _ (isp_not (k := 2) (by decide) (by omega) h))
    · rename_i h
      exact hR _ _ ⟨rfl, rfl, h⟩
  rintro _ _ ⟨rfl, rfl, h2⟩
  walk_at "aw"
  let P : Nat → ASt → Sto → Prop := fun m σ S' => S = S' ∧ ∃ k : Int, (3 ≤ k ∧ k ≤ n + 2) ∧ k % 2 = 1 ∧ (∀ j, 2 ≤ j → j < k → n % j ≠ 0) ∧ m = (n + 3 - k).toNat ∧ σ = [some (.int n), some (.int k)]
  refine while_cut P n.natAbs ⟨rfl, 3, by omega, by decide, fun j a b => by rw [show j = 2 by omega]; exact h2, by omega, rfl⟩ ?_
  rintro m σ S' R2 ⟨rfl, k, ⟨k3, kn⟩, odd, hi, rfl, rfl⟩ hR2
  have kb : k.natAbs < 2 ^ 65 := by omega
  walk_at "aw"
  refine ⟨mulOk_of kb kb (by decide), ?_⟩
  split
  · rename_i kk
    have kn : k ≤ n := Int.le_trans (by have := Int.mul_le_mul_of_nonneg_left (show 1 ≤ k by omega) (show 0 ≤ k by omega); omega) kk
    refine ⟨by omega, ?_⟩
    rw [fmod_pos (by omega)]
    split
    · rename_i h
      exact gives_now (q _ (isp_not (by omega) kk h))
    · rename_i h
      exact hR2 _ _ _ (by omega) ⟨rfl, k + 2, by omega, by omega, isp_turn h2 odd hi h, rfl, rfl⟩
  · exact gives_now (q _ (isp_yes h4 h2 k3 odd hi (by omega)))
def allB (n : Nat) : Nat → Nat → Bool
  | 0, s => n % (2 * s + 1) != 0 || decide (s = 0)
  | d + 1, s => allB n d (2 * s) && allB n d (2 * s + 1)
theorem allB_of {n : Nat} : ∀ (d s : Nat), allB n d s = true → ∀ t, s * 2 ^ d ≤ t → t < (s + 1) * 2 ^ d → t ≠ 0 → n % (2 * t + 1) ≠ 0
  | 0, s, h, t, a, b, c => by
    rw [Nat.pow_zero, Nat.mul_one] at a b
    have : t = s := by omega
    subst this
    simp only [allB, Bool.or_eq_true, bne_iff_ne, decide_eq_true_eq] at h
    exact h.resolve_right c
  | d + 1, s, h, t, a, b, c => by
    simp only [allB, Bool.and_eq_true] at h
    have e1 : s * 2 ^ (d + 1) = 2 * s * 2 ^ d := by rw [Nat.pow_succ]; grind
    have e2 : (s + 1) * 2 ^ (d + 1) = (2 * s + 1 + 1) * 2 ^ d := by rw [Nat.pow_succ]; grind
    rw [e1] at a
    rw [e2] at b
    rcases Nat.lt_or_ge t ((2 * s + 1) * 2 ^ d) with x | x
    · exact allB_of d _ h.1 t a x c
    · exact allB_of d _ h.2 t x b c
theorem big_prime : IsP 2147483659 := by
  have h : allB 2147483659 15 0 = true := by decide +kernel
  refine ⟨by decide, fun k k2 kk hk => ?_⟩
  have k0 : k < 46342 := by
    rcases Int.lt_or_le k 46342 with x | x
    · exact x
    · have := Int.mul_le_mul x x (by decide) (by omega); omega
  rcases Int.emod_two_eq k with e | e
  · have a : k ∣ 2147483659 := Int.dvd_of_emod_eq_zero hk
    have b : (2 : Int) ∣ k := Int.dvd_of_emod_eq_zero e
    have c := Int.emod_eq_zero_of_dvd (Int.dvd_trans b a)
    exact absurd c (by decide)
  · have := allB_of 15 0 h (k.toNat / 2) (by omega) (by omega) (by omega)
    rw [show 2 * (k.toNat / 2) + 1 = k.toNat by omega] at this
    have e3 : (2147483659 : Int) % k = ((2147483659 % k.toNat : Nat) : Int) := by
      rw [Int.natCast_emod, show ((k.toNat : Nat) : Int) = k by omega]
      rfl
    omega
theorem p_next_prime : ∀ ds S Q XX, Closed S → a_next ds S Q XX → w_next_prime a_isp (endOf Q S.length) (startD ["n"] ds) S (GivesX XX S.length) := by
  rintro ds S Q XX hC ⟨n, rfl, hn, q⟩
  unfold w_next_prime
  walk_at "aw"
  let P : Nat → ASt → Sto → Prop := fun m σ S' => S = S' ∧ ∃ p : Int, (n < p ∧ p ≤ 2147483659) ∧ (∀ j, n < j → j < p → ¬IsP j) ∧ m = (2147483659 - p).toNat ∧ σ = [some (.int p)]
  refine while_cut P (2147483659 - (n + 1)).toNat ⟨rfl, n + 1, by omega, fun j a b => by omega, rfl, rfl⟩ ?_
  rintro m σ S' R2 ⟨rfl, p, hp, hi, rfl, rfl⟩ hR2
  walk_at "aw"
  refine ⟨p, rfl, by omega, fun b hb => ?_⟩
  cases b with
  | true =>
    walk_at "aw"
    exact gives_now (q p ⟨hp.1, hp.2, hb.mp rfl, hi⟩)
  | false =>
    walk_at "aw"
    have np : ¬IsP p := fun h => by have := hb.mpr h; cases this
    have ne : p ≠ 2147483659 := fun e => np (e ▸ big_prime)
    refine hR2 _ _ _ (by omega) ⟨rfl, p + 1, by omega, fun j a b => ?_, rfl, rfl⟩
    rcases Int.lt_or_le j p with x | x
    · exact hi j a x
    · rw [show j = p by omega]; exact np
/-! ### fields -/
def a_isint : ASp := fun ds S Q _ => ∃ d, ds = [d] ∧ d.pure = true ∧ Q (.bl (match d with | .int _ => true | _ => false)) S
theorem len_is_integer : ∀ ds S Q XX, a_isint ds S Q XX → ds.length = 1 := by rintro ds S Q XX ⟨_, rfl, _⟩; rfl
/-- what the program takes for a field -/
def FieldD : D → Prop
  | .tup [.str x] => x = "Q"
  | .tup [.str x, .int p] => x = "F" ∧ 1 < p ∧ p ≤ 65521 ∧ IsP p
  | _ => False
def a_isfield : ASp := fun ds S Q _ => ∃ d, ds = [d] ∧ d.pure = true ∧ ∀ b : Bool, (b = true ↔ FieldD d) → Q (.bl b) S
theorem len_is_field : ∀ ds S Q XX, a_isfield ds S Q XX → ds.length = 1 := by rintro ds S Q XX ⟨_, rfl, _⟩; rfl
def a_needf (e : XN → Value) : ASp := fun ds S Q XX => ∃ d, ds = [d] ∧ d.pure = true ∧ (FieldD d → Q .non S) ∧ (¬FieldD d → XX (e .dom) none S)
theorem len_need_field {e : XN → Value} : ∀ ds S Q XX, a_needf e ds S Q XX → ds.length = 1 := by rintro ds S Q XX ⟨_, rfl, _⟩; rfl
/-! ### domains that are fields -/
def Dk.isF : Dk → Bool
  | .b .q => true
  | .b (.f _) => true
  | _ => false
theorem IsP_of {p : Nat} (h : Pr p) : IsP (p : Nat) := by
  obtain ⟨h2, h⟩ := h
  refine ⟨by omega, fun k k2 kk e => ?_⟩
  obtain ⟨j, rfl⟩ : ∃ j : Nat, k = (j : Nat) := ⟨k.toNat, by omega⟩
  rw [← Int.natCast_mul] at kk
  exact h j (by omega) (by omega) (by rw [← Int.natCast_emod] at e; omega)
theorem Bk.fld.fieldD {k : Bk} (h : k.fld) : FieldD k.dom := by
  rcases h with rfl | ⟨m, rfl, hm, h5⟩
  · rfl
  · exact ⟨rfl, by omega, by omega, IsP_of hm⟩
theorem Dk.dr.fieldD : {k : Dk} → k.dr → k.isF = false → ¬FieldD k.dom
  | .b .z, _, _, h => absurd (show Str.ofString "Z" = Str.ofString "Q" from h) (by decide)
  | .b .q, _, h, _ => nomatch h
  | .b (.f _), _, h, _ => nomatch h
  | .p .z, _, _, h => h
  | .p .q, _, _, h => h
  | .p (.f _), _, _, h => h
theorem Bk.dom_pure (k : Bk) : k.dom.pure = true := by cases k <;> simp [Bk.dom, D.pure, pureL]
theorem Dk.dom_pure : (k : Dk) → k.dom.pure = true
  | .b k => k.dom_pure
  | .p k => by simp only [Dk.dom, D.pure, pureL, k.dom_pure, Bool.and_self]
/-- small enough to be turned -/
def Bk.InvOk : (k : Bk) → k.T → Prop
  | .z, _ => True
  | .q, x => x.num.natAbs < 2 ^ 50000000 ∧ x.den < 2 ^ 50000000
  | .f n, _ => n < 2 ^ 20
theorem rat_inv {x : Rat} (h : x ≠ 0) : x * Rat.divInt (x.den : Nat) x.num = 1 := by
  have n0 : x.num ≠ 0 := fun z => h (Rat.num_eq_zero.mp z)
  have nr : (x.num : Rat) ≠ 0 := fun z => n0 (Rat.intCast_inj.mp (z.trans (show (0 : Rat) = ((0 : Int) : Rat) from rfl)))
  have dr : ((x.den : Nat) : Rat) ≠ 0 := fun z => x.den_nz (Rat.natCast_eq_zero_iff.mp z)
  have hx : x = (x.num : Rat) / ((x.den : Nat) : Rat) := by rw [← Rat.mkRat_eq_div, Rat.mkRat_self]
  have e1 : x * ((x.den : Nat) : Rat) = (x.num : Rat) := by
    have h1 : (x.num : Rat) / ((x.den : Nat) : Rat) * ((x.den : Nat) : Rat) = (x.num : Rat) := Rat.div_mul_cancel dr
    rwa [← hx] at h1
  rw [Rat.divInt_eq_div, Rat.intCast_natCast, Rat.div_def, ← Rat.mul_assoc, e1]
  exact Rat.mul_inv_cancel _ nr
theorem rat_unit {x z : Rat} (h : x * z = 1) : z.num.natAbs ≤ x.den ∧ z.den ≤ x.num.natAbs := by
  have e : x.num * z.num = (x.den : Nat) * (z.den : Nat) := by
    have h2 := h
    rw [Rat.mul_def'] at h2
    have h3 : mkRat (x.num * z.num) (x.den * z.den) = mkRat 1 1 := h2.trans (by rfl)
    rw [Rat.mkRat_eq_iff (Nat.mul_ne_zero x.den_nz z.den_nz) (by decide)] at h3
    simpa using h3
  have e2 : x.num.natAbs * z.num.natAbs = x.den * z.den := by
    have := congrArg Int.natAbs e
    rwa [Int.natAbs_mul, Int.natAbs_mul, Int.natAbs_natCast, Int.natAbs_natCast] at this
  have d1 : z.num.natAbs ∣ x.den := Nat.Coprime.dvd_of_dvd_mul_right z.reduced (by rw [← e2]; exact Nat.dvd_mul_left _ _)
  have d2 : z.den ∣ x.num.natAbs := Nat.Coprime.dvd_of_dvd_mul_right (Nat.Coprime.symm z.reduced) (by rw [e2]; exact Nat.dvd_mul_left _ _)
  have n0 : x.num.natAbs ≠ 0 := fun q => by
    rw [q, Nat.zero_mul] at e2
    exact Nat.mul_ne_zero x.den_nz z.den_nz e2.symm
  exact ⟨Nat.le_of_dvd (Nat.pos_of_ne_zero x.den_nz) d1, Nat.le_of_dvd (Nat.pos_of_ne_zero n0) d2⟩
theorem Bk.InvOk.inv : {k : Bk} → k.fld → {x w : k.T} → k.InvOk x → x * w = 1 → k.InvOk w
  | .z, h, _, _, _, _ => by rcases h with h | ⟨_, h, _⟩ <;> cases h
  | .q, _, x, w, h, e => by
    obtain ⟨a, b⟩ := rat_unit e
    exact ⟨Nat.lt_of_le_of_lt a h.2, Nat.lt_of_le_of_lt b h.1⟩
  | .f _, _, _, _, h, _ => h
theorem Bk.InvOk.ok : {k : Bk} → k.fld → {x : k.T} → k.InvOk x → k.Ok x
  | .z, h, _, _ => by rcases h with h | ⟨_, h, _⟩ <;> cases h
  | .q, _, x, h => ⟨Nat.lt_of_lt_of_le h.1 (Nat.pow_le_pow_right (by decide) (by decide)), h.2⟩
  | .f _, _, _, h => h
theorem Dk.Fi.inv {m n L : Nat} : {k : Bk} → k.fld → {x u : k.T} → (Dk.b k).Fi m n L x → x * u = 1 → (Dk.b k).Fi n m 1 u
  | .z, h, _, _, _, _ => by rcases h with h | ⟨_, h, _⟩ <;> cases h
  | .q, _, x, u, ⟨ok, D, d0, d1, hi⟩, e => by
    obtain ⟨a, b⟩ := szq_parts d0 hi
    obtain ⟨c, d⟩ := rat_unit e
    refine ⟨ok, u.den, Nat.pos_of_ne_zero u.den_nz, Nat.le_trans d b, u.num, ?_, Nat.le_trans c (Nat.le_trans (Nat.le_of_dvd d0 a) d1)⟩
    have dr : ((u.den : Nat) : Rat) ≠ 0 := fun z => u.den_nz (Rat.natCast_eq_zero_iff.mp z)
    have hx : u = (u.num : Rat) / ((u.den : Nat) : Rat) := by rw [← Rat.mkRat_eq_div, Rat.mkRat_self]
    have h1 : (u.num : Rat) / ((u.den : Nat) : Rat) * ((u.den : Nat) : Rat) = (u.num : Rat) := Rat.div_mul_cancel dr
    rwa [← hx] at h1
  | .f _, _, _, _, ⟨ok, _⟩, _ => ⟨ok, 1, by decide, Nat.pow_pos (by decide), trivial⟩
/-- an element that is drawn may be turned -/
theorem Bk.InvOk_of {k : Bk} {m n L : Nat} {x : k.T} (h : (Dk.b k).Fi m n L x) (hm : m < 50000000) (hn : n < 50000000) : k.InvOk x := by
  obtain ⟨ok, D, d0, d1, hi⟩ := h
  have hi : k.sz D (2 ^ n) x := hi
  cases k with
  | z => trivial
  | q =>
    obtain ⟨a, b⟩ := szq_parts d0 hi
    exact ⟨Nat.lt_of_le_of_lt b (Nat.pow_lt_pow_right (by decide) hn), Nat.lt_of_le_of_lt (Nat.le_trans (Nat.le_of_dvd d0 a) d1) (Nat.pow_lt_pow_right (by decide) hm)⟩
  | f m => exact ok
def a_inverse (e : XN → Value) : ASp := fun ds S Q XX => (∃ (k : Dk) (x : D), ds = [k.dom, x] ∧ k.dr ∧ k.isF = false ∧ XX (e .dom) none S) ∨
  (∃ (k : Bk) (a : k.T), ds = [k.dom, k.enc a] ∧ k.fld ∧ k.InvOk a ∧ (a = 0 → XX (e .sing) none S) ∧ (a ≠ 0 → ∀ z, a * z = 1 → Q (k.enc z) S))
theorem len_inverse {e : XN → Value} : ∀ ds S Q XX, a_inverse e ds S Q XX → ds.length = 2 := by rintro ds S Q XX (⟨_, _, rfl, _⟩ | ⟨_, _, rfl, _⟩) <;> rfl
theorem Pr.dvd {p d : Nat} (h : Pr p) (hd : d ∣ p) : d = 1 ∨ d = p := by
  obtain ⟨e, rfl⟩ := hd
  obtain ⟨h2, h⟩ := h
  have d0 : d ≠ 0 := fun q => by rw [q, Nat.zero_mul] at h2; omega
  have e0 : e ≠ 0 := fun q => by rw [q, Nat.mul_zero] at h2; omega
  by_cases d1 : d = 1
  · exact .inl d1
  by_cases e1 : e = 1
  · rw [e1, Nat.mul_one]; exact .inr rfl
  exfalso
  rcases Nat.le_total d e with q | q
  · exact h d (by omega) (Nat.mul_le_mul_left d q) (Nat.mul_mod_right d e)
  · exact h e (by omega) (Nat.mul_le_mul_right e q) (Nat.mul_mod_left d e)
theorem fin_unit {m : Nat} (hm : Pr (m + 2)) {x : Fin (m + 2)} (hx : x ≠ 0) {g s t : Int} (h : ComOk (x.val : Nat) ((m + 2 : Nat) : Int) g s t) : ∃ z : Fin (m + 2), Int.fmod s ((m + 2 : Nat) : Int) = (z.val : Nat) ∧ x * z = 1 := by
  have x0 : x.val ≠ 0 := fun q => hx (Fin.ext q)
  have xl := x.isLt
  obtain ⟨q, _⟩ | ⟨_, g0, hg, ⟨a', ha, _⟩, ⟨b', hb, _⟩, _⟩ := h
  · omega
  have g1 : g = 1 := by
    obtain ⟨n, rfl⟩ : ∃ n : Nat, g = (n : Nat) := ⟨g.toNat, by omega⟩
    have d1 : n ∣ m + 2 := Int.natCast_dvd_natCast.mp ⟨b', hb⟩
    have d2 : n ∣ x.val := Int.natCast_dvd_natCast.mp ⟨a', ha⟩
    have := Nat.le_of_dvd (Nat.pos_of_ne_zero x0) d2
    rcases hm.dvd d1 with q | q <;> omega
  rw [g1] at hg
  have p0 : ((m + 2 : Nat) : Int) ≠ 0 := by omega
  have n0 := Int.emod_nonneg s p0
  have nl := Int.emod_lt_of_pos s (show (0 : Int) < ((m + 2 : Nat) : Int) by omega)
  refine ⟨⟨(s % ((m + 2 : Nat) : Int)).toNat, by omega⟩, ?_, ?_⟩
  · rw [fmod_pos (by omega)]
    show _ = (((s % ((m + 2 : Nat) : Int)).toNat : Nat) : Int)
    omega
  · apply Fin.ext
    show (x.val * (s % ((m + 2 : Nat) : Int)).toNat) % (m + 2) = 1 % (m + 2)
    apply Int.ofNat.inj
    show ((x.val * (s % ((m + 2 : Nat) : Int)).toNat % (m + 2) : Nat) : Int) = ((1 % (m + 2) : Nat) : Int)
    rw [Int.natCast_emod, Int.natCast_emod, Int.natCast_mul, Int.toNat_of_nonneg n0, Int.mul_emod, Int.emod_emod_of_dvd _ (Int.dvd_refl _), ← Int.mul_emod,
      show ((x.val : Nat) : Int) * s = 1 + ((m + 2 : Nat) : Int) * (-t) by rw [Int.mul_neg, Int.mul_comm _ t, Int.mul_comm _ s]; omega, Int.add_mul_emod_self_left]
    rfl
def a_quotient (e : XN → Value) : ASp := fun ds S Q XX => (∃ (k : Dk) (x y : D), ds = [k.dom, x, y] ∧ k.dr ∧ k.isF = false ∧ XX (e .dom) none S) ∨
  (∃ (k : Bk) (a b : k.T), ds = [k.dom, k.enc a, k.enc b] ∧ k.fld ∧ k.Ok a ∧ k.InvOk b ∧ (b = 0 → XX (e .sing) none S) ∧ (b ≠ 0 → ∀ z, z * b = a → Q (k.enc z) S))
theorem len_quotient {e : XN → Value} : ∀ ds S Q XX, a_quotient e ds S Q XX → ds.length = 3 := by rintro ds S Q XX (⟨_, _, _, rfl, _⟩ | ⟨_, _, _, rfl, _⟩) <;> rfl
theorem Bk.enc_last {k : Bk} {y : List k.T} {a : k.T} (h : y.getLast? = some a) : L2.atI (y.map k.enc) (-1) = some (k.enc a) := by
  rw [atI_last1, List.getLast?_map, h]; rfl
/-! ### domains, Euclidean domains -/
theorem D.dt_pure {n : Nat} {d : D} (h : d.dt n = true) : d.pure = true := (D.dt_ok n d h).1
/-- what the program takes for a domain -/
def DomD : D → Prop
  | .tup [.str x] => x = "Z" ∨ x = "Q"
  | .tup [.str x, y] => (x = "P" ∧ FieldD y) ∨ FieldD (.tup [.str x, y])
  | _ => False
def a_isdomain : ASp := fun ds S Q _ => ∃ d, ds = [d] ∧ d.dt 9 = true ∧ ∀ b : Bool, (b = true ↔ DomD d) → Q (.bl b) S
theorem len_is_domain : ∀ ds S Q XX, a_isdomain ds S Q XX → ds.length = 1 := by rintro ds S Q XX ⟨_, rfl, _⟩; rfl
theorem not_str_field {x : D} {r : List D} (h : ∀ s, x ≠ .str s) : ¬DomD (.tup (x :: r)) := by
  intro z
  cases x with
  | str s => exact h s rfl
  | _ =>
    cases r with
    | nil => exact z
    | cons y r => cases r <;> exact z
theorem eqv_z {s : Str} {r : List D} (b : Bool) (h : D.eqb (.tup (.str s :: r)) (.tup [.str "Z"]) = b) : (b = true ↔ s = "Z" ∧ r = []) := by
  subst h
  constructor
  · intro h
    have h : PyData.eqv (.tuple (.str s :: pyL r)) (.tuple [.str "Z"]) = true := h
    cases r with
    | nil => simp [PyData.eqv, PyData.eqvAll, pyL] at h; exact ⟨h, rfl⟩
    | cons y r => simp [PyData.eqv, PyData.eqvAll, pyL] at h
  · rintro ⟨rfl, rfl⟩
    exact eqv_self _
theorem DomD.shape {d : D} (h : DomD d) : ∃ s r, d = .tup (.str s :: r) := by
  cases d with
  | tup ds =>
    cases ds with
    | nil => exact h.elim
    | cons x r =>
      cases x with
      | str s => exact ⟨s, r, rfl⟩
      | _ => exact absurd h (not_str_field (fun s h => by cases h))
  | _ => exact h.elim
def EucD (d : D) : Prop := DomD d ∧ ∃ s r, d = .tup (.str s :: r) ∧ (s = "Z" ∨ s = "P")
def a_iseuclid : ASp := fun ds S Q _ => ∃ d, ds = [d] ∧ d.dt 9 = true ∧ ∀ b : Bool, (b = true ↔ EucD d) → Q (.bl b) S
theorem len_is_euclidean : ∀ ds S Q XX, a_iseuclid ds S Q XX → ds.length = 1 := by rintro ds S Q XX ⟨_, rfl, _⟩; rfl
def a_needeu (e : XN → Value) : ASp := fun ds S Q XX => ∃ d, ds = [d] ∧ d.dt 9 = true ∧ (EucD d → Q .non S) ∧ (¬EucD d → XX (e .dom) none S)
theorem len_need_euclidean {e : XN → Value} : ∀ ds S Q XX, a_needeu e ds S Q XX → ds.length = 1 := by rintro ds S Q XX ⟨_, rfl, _⟩; rfl
/-- Euclidean domains that are drawn -/
def Dk.euc : Dk → Prop
  | .b k => k = .z
  | .p k => k.fld
theorem Dk.euc.dr : {k : Dk} → k.euc → k.dr
  | .b _, h => .inl h
  | .p _, h => h
theorem D.dt_int (n : Nat) (i : Int) : D.dt n (.int i) = true := by cases n <;> simp [D.dt]
theorem Bk.dom_dtn (k : Bk) (n : Nat) : k.dom.dt (n + 1) = true := by
  have st : ∀ x : Str, PyData.strOk x = true → D.dt n (.str x) = true := fun x h => by cases n <;> simpa [D.dt] using h
  cases k with
  | z =>
    show [D.str "Z"].all (D.dt n) = true
    rw [List.all_cons, st _ (by decide +kernel)]; rfl
  | q =>
    show [D.str "Q"].all (D.dt n) = true
    rw [List.all_cons, st _ (by decide +kernel)]; rfl
  | f m =>
    show [D.str "F", D.int _].all (D.dt n) = true
    rw [List.all_cons, List.all_cons, st _ (by decide +kernel), D.dt_int]; rfl
theorem Dk.dom_dt : (k : Dk) → k.dom.dt 9 = true
  | .b k => k.dom_dtn 8
  | .p k => by
    show [D.str "P", k.dom].all (D.dt 8) = true
    rw [List.all_cons, List.all_cons, k.dom_dtn 7, show D.dt 8 (.str "P") = true by decide +kernel]
    rfl
theorem Dk.euc.eucD : {k : Dk} → k.euc → EucD k.dom
  | .b _, h => by subst h; exact ⟨.inl rfl, _, _, rfl, .inl rfl⟩
  | .p _, h => ⟨.inl ⟨rfl, Bk.fld.fieldD h⟩, _, _, rfl, .inr rfl⟩
theorem Bk.fld.notEuc {k : Bk} (h : k.fld) : ¬EucD k.dom := by
  rintro ⟨_, s, r, e, hs⟩
  rcases h with rfl | ⟨m, rfl, _, _⟩
  · have e : Str.ofString "Q" = s := by injection e with e; injection e with e; injection e
    subst e
    revert hs
    decide
  · have e : Str.ofString "F" = s := by injection e with e; injection e with e; injection e
    subst e
    revert hs
    decide
/-! ### a domain is needed -/
def a_needd (e : XN → Value) : ASp := fun ds S Q XX => ∃ d, ds = [d] ∧ d.dt 9 = true ∧ (DomD d → Q .non S) ∧ (¬DomD d → XX (e .dom) none S)
theorem len_need_domain {e : XN → Value} : ∀ ds S Q XX, a_needd e ds S Q XX → ds.length = 1 := by rintro ds S Q XX ⟨_, rfl, _⟩; rfl
theorem Dk.dr.domD : {k : Dk} → k.dr → DomD k.dom
  | .b .z, _ => .inl rfl
  | .b .q, _ => .inr rfl
  | .b (.f n), h => by
    have h : (Bk.f n).fld := h.resolve_left (by intro z; cases z)
    exact .inr h.fieldD
  | .p _, h => .inl ⟨rfl, Bk.fld.fieldD h⟩
theorem needd_ok {e : XN → Value} {k : Dk} {S : Sto} {Q : VKD} {X : XKD} (dr : k.dr) (q : Q .non S) : a_needd e [k.dom] S Q X := ⟨k.dom, rfl, k.dom_dt, fun _ => q, fun h => absurd dr.domD h⟩
theorem needd_no {e : XN → Value} {d : D} {S : Sto} {Q : VKD} {X : XKD} (hd : d.dt 9 = true) (nd : ¬DomD d) (q : X (e .dom) none S) : a_needd e [d] S Q X := ⟨d, rfl, hd, fun h => absurd h nd, fun _ => q⟩
/-! ### domains as rings with encodings; vectors and matrices of values -/
noncomputable def Dk.of : (k : Dk) → k.R → k.E
  | .b _, v => v
  | .p k, v => by
    classical
    exact if h : ∃ z : (Dk.p k).E, (Dk.p k).val z = v then h.choose else ⟨[], Ser.nt_nil⟩
theorem Dk.of_val : (k : Dk) → (z : k.E) → k.of (k.val z) = z
  | .b _, z => rfl
  | .p k, z => by
    have h : ∃ y : (Dk.p k).E, (Dk.p k).val y = (Dk.p k).val z := ⟨z, rfl⟩
    show (@dite (Dk.p k).E (∃ y : (Dk.p k).E, (Dk.p k).val y = (Dk.p k).val z) (Classical.propDecidable _) (fun h => h.choose) fun _ => ⟨[], Ser.nt_nil⟩) = z
    rw [dif_pos h]
    exact (Dk.p k).val_inj h.choose_spec
theorem Dk.of_eq {k : Dk} {z : k.E} {v : k.R} (h : k.val z = v) : k.of v = z := by rw [← h, k.of_val]
noncomputable def Dk.en (k : Dk) (v : k.R) : D := k.enc (k.of v)
theorem Dk.en_eq {k : Dk} {z : k.E} {v : k.R} (h : k.val z = v) : k.enc z = k.en v := by unfold Dk.en; rw [Dk.of_eq h]
theorem Dk.en_b {k : Bk} (v : k.T) : (Dk.b k).en v = k.enc v := rfl
/-- v is an element's value, that is not large -/
def Dk.Has (k : Dk) (e L : Nat) (v : k.R) : Prop := ∃ z : k.E, k.val z = v ∧ k.Fi e e L z
theorem Dk.en_cl (k : Dk) (v : k.R) : (k.en v).cl 2 = true := k.enc_cl _
theorem Dk.en_inj {k : Dk} {e L e' L' : Nat} {u v : k.R} (hu : k.Has e L u) (hv : k.Has e' L' v) (h : k.en u = k.en v) : u = v := by
  obtain ⟨z, rfl, _⟩ := hu
  obtain ⟨y, rfl, _⟩ := hv
  unfold Dk.en at h
  rw [k.of_val, k.of_val] at h
  rw [k.enc_inj h]
section
variable {k : Dk} {e e' L L' : Nat} {u v : k.R}
theorem Dk.Has.mono (h : k.Has e L u) (he : e ≤ e') (hL : L ≤ L') : k.Has e' L' u := by
  obtain ⟨z, q, f⟩ := h
  exact ⟨z, q, f.mono he he hL⟩
theorem Dk.Has.ok (h : k.Has e L u) : k.base.ok := by
  obtain ⟨z, _, f⟩ := h
  exact f.ok
theorem Dk.Has.fi (h : k.Has e L u) {z : k.E} (hz : k.val z = u) : k.Fi e e L z := by
  obtain ⟨y, q, f⟩ := h
  rwa [k.val_inj (hz.trans q.symm)]
end
theorem Dk.has_neg : (k : Dk) → (x : k.E) → ∃ y : k.E, k.val y = -k.val x
  | .b k, x => ⟨-x, rfl⟩
  | .p k, ⟨l, hl⟩ => by
    have e : Ser.of (l.map fun a => -a) = -Ser.of l := Ser.ext fun i => by
      rw [Ser.c_neg]
      show Ser.cf _ i = -Ser.cf l i
      unfold Ser.cf
      rw [List.getElem?_map]
      cases l[i]? with
      | none => show (0 : k.T) = -0; grind
      | some a => rfl
    refine ⟨⟨l.map fun a => -a, fun a h => ?_⟩, e⟩
    rw [List.getLast?_map] at h
    cases z : l.getLast? with
    | none => rw [z] at h; cases h
    | some b =>
      rw [z] at h
      cases h
      have := hl b z
      intro w
      apply this
      grind
theorem Dk.Fi.sub {k : Dk} {m n L m' n' L' : Nat} {x y z : k.E} (h : k.Fi m n L x) (g : k.Fi m' n' L' y) (e : k.val z = k.val x - k.val y) {p : Nat} (h1 : n + m' ≤ p) (h2 : n' + m ≤ p) : k.Fi (m + m') (p + 1) (max L L') z := by
  obtain ⟨w, hw⟩ := k.has_neg y
  exact h.add (g.neg hw) (by rw [e, hw]; grind) h1 h2
/-! #### calls of the ring's operations -/
section
variable {k : Dk} {e e' L L' : Nat} {u v : k.R} {S : Sto} {Q : VKD} {X : XKD}
theorem add_at (hu : k.Has e L u) (hv : k.Has e' L' v) (hb : e + e' < 45000000 ∧ L < 1000000 ∧ L' < 1000000) (q : k.Has (e + e' + 1) (max L L') (u + v) → Q (k.en (u + v)) S) : a_add [k.dom, k.en u, k.en v] S Q X := by
  obtain ⟨x, rfl, fx⟩ := hu
  obtain ⟨y, rfl, fy⟩ := hv
  rw [← Dk.en_eq (k := k) (z := x) rfl, ← Dk.en_eq (k := k) (z := y) rfl]
  refine ⟨k, x, y, rfl, fx.Ok (by omega) (by omega) (by omega), fy.Ok (by omega) (by omega) (by omega), fun z hz => ?_⟩
  rw [Dk.en_eq hz]
  exact q ⟨z, hz, (fx.add fy hz (p := e + e') (Nat.le_refl _) (by omega)).mono (by omega) (Nat.le_refl _) (Nat.le_refl _)⟩
theorem mul_at (hu : k.Has e L u) (hv : k.Has e' L' v) {l : Nat} (hL : 0 < L ∧ 0 < L' ∧ L + L' ≤ 2 ^ l) (hb : e + e' + l < 45000000 ∧ L < 1000000 ∧ L' < 1000000) (q : k.Has (e + e' + l) (L + L' - 1) (u * v) → Q (k.en (u * v)) S) : a_mul [k.dom, k.en u, k.en v] S Q X := by
  obtain ⟨x, rfl, fx⟩ := hu
  obtain ⟨y, rfl, fy⟩ := hv
  rw [← Dk.en_eq (k := k) (z := x) rfl, ← Dk.en_eq (k := k) (z := y) rfl]
  refine ⟨k, x, y, rfl, fx.mulOk fy (by omega) (by omega) (by omega) (by omega), fun z hz => ?_⟩
  rw [Dk.en_eq hz]
  exact q ⟨z, hz, (fx.mul fy hz hL.1 hL.2.1 hL.2.2).mono (by omega) (Nat.le_refl _) (Nat.le_refl _)⟩
theorem sub_at (hu : k.Has e L u) (hv : k.Has e' L' v) (hb : e + e' < 45000000 ∧ L < 1000000 ∧ L' < 1000000) (q : k.Has (e + e' + 1) (max L L') (u - v) → Q (k.en (u - v)) S) : a_sub [k.dom, k.en u, k.en v] S Q X := by
  obtain ⟨x, rfl, fx⟩ := hu
  obtain ⟨y, rfl, fy⟩ := hv
  rw [← Dk.en_eq (k := k) (z := x) rfl, ← Dk.en_eq (k := k) (z := y) rfl]
  refine ⟨k, x, y, rfl, fx.Ok (by omega) (by omega) (by omega), fy.sok (by omega) (by omega) (by omega), fun z hz => ?_⟩
  rw [Dk.en_eq hz]
  exact q ⟨z, hz, (fx.sub fy hz (p := e + e') (Nat.le_refl _) (by omega)).mono (by omega) (Nat.le_refl _) (Nat.le_refl _)⟩
theorem neg_at (hu : k.Has e L u) (hb : e < 45000000 ∧ L < 1000000) (q : k.Has e L (-u) → Q (k.en (-u)) S) : a_neg [k.dom, k.en u] S Q X := by
  obtain ⟨x, rfl, fx⟩ := hu
  rw [← Dk.en_eq (k := k) (z := x) rfl]
  refine ⟨k, x, rfl, fx.Len (by omega), fun z hz => ?_⟩
  rw [Dk.en_eq hz]
  exact q ⟨z, hz, fx.neg hz⟩
theorem zero_at (ok : k.base.ok) (q : k.Has 0 1 0 → Q (k.en 0) S) : a_zero [k.dom] S Q X := by
  refine ⟨k, rfl, fun z hz => ?_⟩
  rw [Dk.en_eq hz]
  exact q ⟨z, hz, Dk.Fi.zero ok hz⟩
theorem one_at (ok : k.base.ok) (q : k.Has 0 1 1 → Q (k.en 1) S) : a_one [k.dom] S Q X := by
  refine ⟨k, rfl, fun z hz => ?_⟩
  rw [Dk.en_eq hz]
  exact q ⟨z, hz, Dk.Fi.one ok hz⟩
end
theorem Dk.has_zero (k : Dk) (ok : k.base.ok) : k.Has 0 1 0 := by
  obtain ⟨z, hz⟩ : ∃ z : k.E, k.val z = 0 := by
    cases k with
    | b k => exact ⟨0, rfl⟩
    | p k => exact ⟨_, Dk.nil_val⟩
  exact ⟨z, hz, Dk.Fi.zero ok hz⟩
theorem Dk.has_o (k : Dk) (ok : k.base.ok) : k.Has 0 1 1 := by
  obtain ⟨z, hz⟩ := k.has_one
  exact ⟨z, hz, Dk.Fi.one ok hz⟩
/-! #### sums -/
def sm {R : Type} [Lean.Grind.CommRing R] : Nat → (Nat → R) → R
  | 0, _ => 0
  | n + 1, f => sm n f + f n
section
variable {R : Type} [Lean.Grind.CommRing R]
theorem sm_congr {n : Nat} {f g : Nat → R} (h : ∀ i, i < n → f i = g i) : sm n f = sm n g := by
  induction n with
  | zero => rfl
  | succ n ih => simp only [sm]; rw [ih fun i hi => h i (by omega), h n (by omega)]
theorem sm_zero (n : Nat) : sm n (fun _ => (0 : R)) = 0 := by
  induction n with
  | zero => rfl
  | succ n ih => simp only [sm]; rw [ih]; grind
theorem sm_add (n : Nat) (f g : Nat → R) : sm n (fun i => f i + g i) = sm n f + sm n g := by
  induction n with
  | zero => simp only [sm]; grind
  | succ n ih => simp only [sm]; rw [ih]; grind
theorem sm_mul_left (n : Nat) (a : R) (f : Nat → R) : sm n (fun i => a * f i) = a * sm n f := by
  induction n with
  | zero => simp only [sm]; grind
  | succ n ih => simp only [sm]; rw [ih]; grind
theorem sm_mul_right (n : Nat) (a : R) (f : Nat → R) : sm n (fun i => f i * a) = sm n f * a := by
  induction n with
  | zero => simp only [sm]; grind
  | succ n ih => simp only [sm]; rw [ih]; grind
theorem sm_comm (n m : Nat) (f : Nat → Nat → R) : sm n (fun i => sm m fun j => f i j) = sm m fun j => sm n fun i => f i j := by
  induction n with
  | zero => simp only [sm]; rw [sm_zero]
  | succ n ih => simp only [sm]; rw [ih, sm_add]
theorem sm_one {n : Nat} {f : Nat → R} {j : Nat} (hj : j < n) (h : ∀ i, i < n → i ≠ j → f i = 0) : sm n f = f j := by
  induction n with
  | zero => omega
  | succ n ih =>
    simp only [sm]
    by_cases e : j = n
    · subst e
      rw [sm_congr (g := fun _ => 0) fun i hi => h i (by omega) (by omega), sm_zero]
      grind
    · rw [ih (by omega) fun i hi => h i (by omega), h n (by omega) (Ne.symm e)]
      grind
end
/-! #### vectors and matrices -/
abbrev Vc (k : Dk) := Nat → k.R
abbrev Mt (k : Dk) := Nat → Nat → k.R
noncomputable def Dk.vs (k : Dk) (n : Nat) (v : Vc k) : List D := (List.range n).map fun j => k.en (v j)
noncomputable def Dk.ev (k : Dk) (n : Nat) (v : Vc k) : D := .tup (k.vs n v)
noncomputable def Dk.rs (k : Dk) (m n : Nat) (A : Mt k) : List D := (List.range m).map fun i => k.ev n (A i)
noncomputable def Dk.em (k : Dk) (m n : Nat) (A : Mt k) : D := .tup [.int (m : Nat), .int (n : Nat), .tup (k.rs m n A)]
def Dk.VHas (k : Dk) (e L n : Nat) (v : Vc k) : Prop := ∀ j, j < n → k.Has e L (v j)
def Dk.MHas (k : Dk) (e L m n : Nat) (A : Mt k) : Prop := ∀ i, i < m → k.VHas e L n (A i)
theorem Dk.vs_len (k : Dk) (n : Nat) (v : Vc k) : (k.vs n v).length = n := by unfold Dk.vs; rw [List.length_map, List.length_range]
theorem Dk.rs_len (k : Dk) (m n : Nat) (A : Mt k) : (k.rs m n A).length = m := by unfold Dk.rs; rw [List.length_map, List.length_range]
theorem Dk.vs_get {k : Dk} {n j : Nat} {v : Vc k} (h : j < n) : (k.vs n v)[j]? = some (k.en (v j)) := by unfold Dk.vs; rw [List.getElem?_map, List.getElem?_range h]; rfl
theorem Dk.rs_get {k : Dk} {m n i : Nat} {A : Mt k} (h : i < m) : (k.rs m n A)[i]? = some (k.ev n (A i)) := by unfold Dk.rs; rw [List.getElem?_map, List.getElem?_range h]; rfl
theorem Dk.vs_at {k : Dk} {n j : Nat} {v : Vc k} (h : j < n) : L2.atI (k.vs n v) (j : Nat) = some (k.en (v j)) := atI_of (by omega) (by rw [Int.toNat_natCast]; exact Dk.vs_get h)
theorem Dk.rs_at {k : Dk} {m n i : Nat} {A : Mt k} (h : i < m) : L2.atI (k.rs m n A) (i : Nat) = some (k.ev n (A i)) := atI_of (by omega) (by rw [Int.toNat_natCast]; exact Dk.rs_get h)
theorem range_map_congr {α : Type} {n : Nat} {f g : Nat → α} (h : ∀ i, i < n → f i = g i) : (List.range n).map f = (List.range n).map g := List.map_congr_left fun i hi => h i (List.mem_range.mp hi)
theorem Dk.vs_congr {k : Dk} {n : Nat} {u v : Vc k} (h : ∀ j, j < n → u j = v j) : k.vs n u = k.vs n v := range_map_congr fun j hj => by rw [h j hj]
theorem Dk.ev_congr {k : Dk} {n : Nat} {u v : Vc k} (h : ∀ j, j < n → u j = v j) : k.ev n u = k.ev n v := by unfold Dk.ev; rw [Dk.vs_congr h]
theorem Dk.rs_congr {k : Dk} {m n : Nat} {A B : Mt k} (h : ∀ i, i < m → ∀ j, j < n → A i j = B i j) : k.rs m n A = k.rs m n B := range_map_congr fun i hi => Dk.ev_congr (h i hi)
theorem Dk.em_congr {k : Dk} {m n : Nat} {A B : Mt k} (h : ∀ i, i < m → ∀ j, j < n → A i j = B i j) : k.em m n A = k.em m n B := by unfold Dk.em; rw [Dk.rs_congr h]
theorem Dk.vs_succ {k : Dk} {n : Nat} {v : Vc k} : k.vs (n + 1) v = k.vs n v ++ [k.en (v n)] := by unfold Dk.vs; rw [List.range_succ, List.map_append]; rfl
theorem Dk.rs_succ {k : Dk} {m n : Nat} {A : Mt k} : k.rs (m + 1) n A = k.rs m n A ++ [k.ev n (A m)] := by unfold Dk.rs; rw [List.range_succ, List.map_append]; rfl
theorem Dk.VHas.succ {k : Dk} {e L n : Nat} {v : Vc k} (h : k.VHas e L n v) (g : k.Has e L (v n)) : k.VHas e L (n + 1) v := fun j hj => by
  by_cases hj' : j = n
  · subst hj'; exact g
  · exact h j (by omega)
theorem Dk.MHas.succ {k : Dk} {e L m n : Nat} {A : Mt k} (h : k.MHas e L m n A) (g : k.VHas e L n (A m)) : k.MHas e L (m + 1) n A := fun j hj => by
  by_cases hj' : j = m
  · subst hj'; exact g
  · exact h j (by omega)
theorem D.cl_le : ∀ {n m : Nat} {d : D}, d.cl n = true → n ≤ m → d.cl m = true := by
  intro n m d h hm
  induction hm with
  | refl => exact h
  | step _ ih => exact D.cl_up _ _ ih
theorem tup_cl {n : Nat} {ds : List D} (h : ∀ d ∈ ds, d.cl n = true) : (D.tup ds).cl (n + 1) = true := by rw [D.cl, List.all_eq_true]; exact h
theorem Dk.vs_cl {k : Dk} {n : Nat} {v : Vc k} : ∀ d ∈ k.vs n v, d.cl 2 = true := by
  intro d hd
  obtain ⟨j, _, rfl⟩ := List.mem_map.mp hd
  exact k.en_cl _
theorem Dk.ev_cl (k : Dk) (n : Nat) (v : Vc k) : (k.ev n v).cl 3 = true := tup_cl Dk.vs_cl
theorem Dk.rs_cl {k : Dk} {m n : Nat} {A : Mt k} : ∀ d ∈ k.rs m n A, d.cl 3 = true := by
  intro d hd
  obtain ⟨i, _, rfl⟩ := List.mem_map.mp hd
  exact k.ev_cl n _
theorem Dk.em_cl (k : Dk) (m n : Nat) (A : Mt k) : (k.em m n A).cl 5 = true := by
  refine tup_cl fun d hd => ?_
  rcases List.mem_cons.mp hd with rfl | hd
  · rfl
  rcases List.mem_cons.mp hd with rfl | hd
  · rfl
  rw [List.mem_singleton.mp hd]
  exact tup_cl Dk.rs_cl
/-- equal trees: what != says of them -/
theorem ne_cl {x y : D} (n : Nat) (h : x = y) (hx : x.cl n = true) {S : Sto} {Q : VKD} {X : XKD} (q : Q (.bl false) S) (hn : n ≤ 64 := by decide) : fNe x y S Q X := by
  subst h
  exact ne_same (D.cl_dt _ _ hx) q hn
theorem eq_cl {x y : D} (n : Nat) (h : x = y) (hx : x.cl n = true) {S : Sto} {Q : VKD} {X : XKD} (q : Q (.bl true) S) (hn : n ≤ 64 := by decide) : fEq x y S Q X := by
  subst h
  exact eq_same (D.cl_dt _ _ hx) q hn
def mmul {R : Type} [Lean.Grind.CommRing R] (n : Nat) (A B : Nat → Nat → R) : Nat → Nat → R := fun i j => sm n fun l => A i l * B l j
def mid {R : Type} [Lean.Grind.CommRing R] : Nat → Nat → R := fun i j => if i = j then 1 else 0
theorem mmul_assoc {R : Type} [Lean.Grind.CommRing R] (n m : Nat) (A B C : Nat → Nat → R) (i j : Nat) : mmul m (mmul n A B) C i j = mmul n A (mmul m B C) i j := by
  unfold mmul
  rw [sm_congr (g := fun l => sm n fun t => A i t * B t l * C l j) fun l _ => (sm_mul_right n (C l j) fun t => A i t * B t l).symm, sm_comm]
  refine sm_congr fun t _ => ?_
  rw [← sm_mul_left]
  exact sm_congr fun l _ => by grind
theorem mmul_id_left {R : Type} [Lean.Grind.CommRing R] {n : Nat} {A : Nat → Nat → R} {i j : Nat} (hi : i < n) : mmul n mid A i j = A i j := by
  unfold mmul mid
  rw [sm_one hi fun l _ hl => by rw [if_neg (Ne.symm hl)]; grind, if_pos rfl]
  grind
theorem mmul_id_right {R : Type} [Lean.Grind.CommRing R] {n : Nat} {A : Nat → Nat → R} {i j : Nat} (hj : j < n) : mmul n A mid i j = A i j := by
  unfold mmul mid
  rw [sm_one hj fun l _ hl => by rw [if_neg hl]; grind, if_pos rfl]
  grind
theorem mmul_congr {R : Type} [Lean.Grind.CommRing R] {n i j : Nat} {A A' B B' : Nat → Nat → R} (hA : ∀ l, l < n → A i l = A' i l) (hB : ∀ l, l < n → B l j = B' l j) : mmul n A B i j = mmul n A' B' i j :=
  sm_congr fun l hl => by rw [hA l hl, hB l hl]
section
variable {k : Dk} {m n : Nat} {A : Mt k} {v : Vc k} {S : Sto} {Q : VKD} {X : XKD}
theorem em_ix0 : fIx (k.em m n A) (.int 0) S Q X = Q (.int (m : Nat)) S := id rfl
theorem em_ix1 : fIx (k.em m n A) (.int 1) S Q X = Q (.int (n : Nat)) S := id rfl
theorem em_ix2 : fIx (k.em m n A) (.int 2) S Q X = Q (.tup (k.rs m n A)) S := id rfl
theorem ev_len : gLen [k.ev n v] S Q X = Q (.int (n : Nat)) S := by
  show Q (.int ((k.vs n v).length : Nat)) S = _
  rw [k.vs_len]
end
theorem num_neg {R : Type} [Lean.Grind.CommRing R] (i : Int) : (Lean.Grind.Ring.intCast.intCast (-i) : R) = -(Lean.Grind.Ring.intCast.intCast i : R) := Lean.Grind.Ring.intCast_neg i
theorem has_b1 {k : Bk} {e L L' : Nat} {v : (Dk.b k).R} (h : (Dk.b k).Has e L v) : (Dk.b k).Has e L' v := by
  obtain ⟨z, hz, ok, D, d0, d1, hi⟩ := h
  exact ⟨z, hz, ok, D, d0, d1, hi⟩
theorem vhas_b1 {k : Bk} {e L L' n : Nat} {v : Vc (.b k)} (h : (Dk.b k).VHas e L n v) : (Dk.b k).VHas e L' n v := fun j hj => has_b1 (h j hj)
theorem mhas_b1 {k : Bk} {e L L' m n : Nat} {A : Mt (.b k)} (h : (Dk.b k).MHas e L m n A) : (Dk.b k).MHas e L' m n A := fun i hi => vhas_b1 (h i hi)
theorem MHas_mono {k : Dk} {e e' L L' m n : Nat} {A : Mt k} (h : k.MHas e L m n A) (he : e ≤ e') (hL : L ≤ L') : k.MHas e' L' m n A := fun i hi j hj => (h i hi j hj).mono he hL
theorem sm_front {R : Type} [Lean.Grind.CommRing R] (n : Nat) (f : Nat → R) : sm (n + 1) f = f 0 + sm n fun i => f (i + 1) := by
  induction n with
  | zero => simp only [sm]; grind
  | succ n ih =>
    show sm (n + 1) f + f (n + 1) = _
    rw [ih]
    simp only [sm]
    grind
theorem Dk.fld_dr {k : Bk} (h : k.fld) : (Dk.b k).dr := .inr h
theorem same_ok {d : D} (n : Nat) (h : d.cl n = true) (hn : n ≤ 64 := by decide) : EqOk d d := eqOk_dt (D.cl_dt _ _ h) (D.cl_dt _ _ h) hn hn
theorem eqb_refl (d : D) : D.eqb d d = true := eqv_self d
/-! ### sizes fit, or do not -/
def a_needs (e : XN → Value) : ASp := fun ds S Q XX => ∃ b : Bool, ds = [.bl b] ∧ (b = true → Q .non S) ∧ (b = false → XX (e .shape) none S)
theorem len_need_shape {e : XN → Value} : ∀ ds S Q XX, a_needs e ds S Q XX → ds.length = 1 := by rintro ds S Q XX ⟨_, rfl, _⟩; rfl
theorem p_need_shape {e : XN → Value} : ∀ ds S Q XX, Closed S → a_needs e ds S Q XX → w_need_shape e (endOf Q S.length) (startD ["holds"] ds) S (GivesX XX S.length) := by
  rintro ds S Q XX hC ⟨b, rfl, q, q2⟩
  unfold w_need_shape
  walk_at "ax"
  cases b with
  | true =>
    walk_at "ax"
    exact gives_now (q rfl)
  | false =>
    walk_at "ax"
    exact .inl (q2 rfl)
theorem needs_ok {e : XN → Value} {b : Bool} {S : Sto} {Q : VKD} {X : XKD} (h : b = true) (q : Q .non S) : a_needs e [.bl b] S Q X := ⟨b, rfl, fun _ => q, fun g => absurd (h.symm.trans g) (by decide)⟩
theorem needs_no {e : XN → Value} {b : Bool} {S : Sto} {Q : VKD} {X : XKD} (h : b = false) (q : X (e .shape) none S) : a_needs e [.bl b] S Q X := ⟨b, rfl, fun g => absurd (h.symm.trans g) (by decide), fun _ => q⟩
/-- a square matrix, or none -/
def a_needq (e : XN → Value) : ASp := fun ds S Q XX => ∃ (m n : Nat) (x : D), ds = [.tup [.int (m : Nat), .int (n : Nat), x]] ∧ (m = n → Q .non S) ∧ (m ≠ n → XX (e .shape) none S)
theorem len_need_square {e : XN → Value} : ∀ ds S Q XX, a_needq e ds S Q XX → ds.length = 1 := by rintro ds S Q XX ⟨_, _, _, rfl, _⟩; rfl
theorem p_need_square {e : XN → Value} : ∀ ds S Q XX, Closed S → a_needq e ds S Q XX → w_need_square (a_needs e) (endOf Q S.length) (startD ["a"] ds) S (GivesX XX S.length) := by
  rintro ds S Q XX hC ⟨m, n, x, rfl, q, q2⟩
  unfold w_need_square
  walk_at "ax"
  by_cases h : m = n
  · exact needs_ok (decide_eq_true (by rw [h])) (by walk_at "ax"; exact gives_now (q h))
  · exact needs_no (decide_eq_false (by omega)) (.inl (q2 h))
theorem cut2 {α : Type} (a b c : α) : cutL [a, b, c] none (some 2) = [a, b] := rfl
theorem pair_eqb (m n m' n' : Nat) : D.eqb (.tup [.int (m : Nat), .int (n : Nat)]) (.tup [.int (m' : Nat), .int (n' : Nat)]) = decide (m = m' ∧ n = n') :=
  eqv_dec (n := 1) (m := 1) rfl rfl ⟨fun h => by injection h with h; injection h with h1 h2; injection h1 with h1; injection h2 with h2; injection h2 with h2; omega, fun h => by rw [h.1, h.2]⟩
theorem pair_ok (m n m' n' : Nat) : EqOk (.tup [.int (m : Nat), .int (n : Nat)]) (.tup [.int (m' : Nat), .int (n' : Nat)]) := eqOk_dt (n := 1) (m := 1) rfl rfl
/-! ### products of vectors -/
/-- how large a product of vectors may be -/
abbrev dotE (n e e' l : Nat) : Nat := n * (e + e' + l + 1)
def a_dot : ASp := fun ds S Q _ => ∃ (k : Dk) (n : Nat) (u v : Vc k) (e L e' L' l : Nat), ds = [k.dom, k.ev n u, k.ev n v] ∧ k.base.ok ∧ k.VHas e L n u ∧ k.VHas e' L' n v ∧ (0 < L ∧ 0 < L' ∧ L + L' ≤ 2 ^ l) ∧ (dotE n e e' l + (e + e' + l) < 45000000 ∧ L + L' < 1000000 ∧ n < 1000000) ∧
  (k.Has (dotE n e e' l) (L + L' - 1) (sm n fun i => u i * v i) → Q (k.en (sm n fun i => u i * v i)) S)
theorem len_dot : ∀ ds S Q XX, a_dot ds S Q XX → ds.length = 3 := by rintro ds S Q XX ⟨_, _, _, _, _, _, _, _, _, rfl, _⟩; rfl
theorem len_ldot : ∀ ds S Q XX, a_dot ds S Q XX → ds.length = 3 := len_dot
theorem dot_turn {k : Dk} {n : Nat} {u v : Vc k} {e L e' L' l i : Nat} (hu : k.VHas e L n u) (hv : k.VHas e' L' n v) (hL : 0 < L ∧ 0 < L' ∧ L + L' ≤ 2 ^ l) (hb : dotE n e e' l + (e + e' + l) < 45000000 ∧ L + L' < 1000000 ∧ n < 1000000) (hi : i < n) (h : k.Has (dotE i e e' l) (L + L' - 1) (sm i fun i => u i * v i)) :
    dotE i e e' l + (e + e' + l) < 45000000 ∧ ∀ {z : k.R}, k.Has (e + e' + l) (L + L' - 1) z → z = u i * v i → k.Has (dotE i e e' l + (e + e' + l) + 1) (max (L + L' - 1) (L + L' - 1)) (sm i (fun i => u i * v i) + z) → k.Has (dotE (i + 1) e e' l) (L + L' - 1) (sm (i + 1) fun i => u i * v i) := by
  refine ⟨?_, fun {z} _ ez h2 => ?_⟩
  · have : dotE i e e' l ≤ dotE n e e' l := Nat.mul_le_mul_right _ (by omega)
    omega
  · subst ez
    refine h2.mono ?_ (by omega)
    show _ ≤ (i + 1) * (e + e' + l + 1)
    rw [Nat.add_mul]
    show i * (e + e' + l + 1) + (e + e' + l) + 1 ≤ _
    omega
theorem p_ldot : ∀ ds S Q XX, Closed S → a_dot ds S Q XX → w__law_dot a_zero a_add a_mul (endOf Q S.length) (startD ["d", "u", "v", "total", "k"] ds) S (GivesX XX S.length) := by
  rintro ds S Q XX hC ⟨k, n, u, v, e, L, e', L', l, rfl, ok, hu, hv, hL, hb, q⟩
  unfold w__law_dot
  refine seq_to [some k.dom, some (k.ev n u), some (k.ev n v), some (k.en 0), none] S ?_ fun R hR => by
    walk_at "ax"
    exact zero_at ok fun _ => by walk_at "ax"; exact hR
  refine seq_cut (fun σ S' => S' = S ∧ k.Has (dotE n e e' l) (L + L' - 1) (sm n fun i => u i * v i) ∧ ∃ a, σ = [some k.dom, some (k.ev n u), some (k.ev n v), some (k.en (sm n fun i => u i * v i)), a]) ?_ fun R hR => ?_
  · rintro _ _ ⟨rfl, h, _, rfl⟩
    walk_at "ax"
    exact gives_now (q h)
  · simp only [Dk.ev]
    walk_at "ax"
    rw [k.vs_len]
    refine ⟨by omega, ?_⟩
    rw [Int.toNat_natCast]
    refine rng_cut 0 n (fun i σ S' => S' = S ∧ k.Has (dotE i e e' l) (L + L' - 1) (sm i fun i => u i * v i) ∧ ∃ a, σ = [some k.dom, some (k.ev n u), some (k.ev n v), some (k.en (sm i fun i => u i * v i)), a]) ⟨rfl, (k.has_zero ok).mono (Nat.zero_le _) (by omega), _, rfl⟩ ?_ ?_
    · rintro i σ S' R2 hi ⟨rfl, h, a, rfl⟩ hR2
      obtain ⟨b1, b2⟩ := dot_turn hu hv hL hb hi h
      rw [Int.zero_add]
      simp only [Dk.ev]
      walk_at "ax"
      rw [atQ_of (Dk.vs_at hi)]
      walk_at "ax"
      rw [atQ_of (Dk.vs_at hi)]
      walk_at "ax"
      refine mul_at (hu i hi) (hv i hi) hL (by omega) fun h2 => ?_
      walk_at "ax"
      refine add_at h h2 (by omega) fun h3 => ?_
      walk_at "ax"
      exact hR2 _ _ ⟨rfl, b2 h2 rfl h3, _, rfl⟩
    · rintro σ S' ⟨rfl, h, a, rfl⟩
      exact hR _ _ ⟨rfl, h, a, rfl⟩
/-! ### transposed -/
def a_transposed : ASp := fun ds S Q _ => ∃ (k : Dk) (m n : Nat) (A : Mt k), ds = [k.em m n A] ∧ m < 1000000 ∧ n < 1000000 ∧ Q (k.em n m fun i j => A j i) S
theorem len_transposed : ∀ ds S Q XX, a_transposed ds S Q XX → ds.length = 1 := by rintro ds S Q XX ⟨_, _, _, _, rfl, _⟩; rfl
theorem line_of {n : Nat} (h : n < 1000000) : n ≤ sizeLine := small_line (by omega)
/-! ### times -/
def prodOk (k : Dk) (ds : List D) (S : Sto) (Q : VKD) : Prop := ∃ (m n p : Nat) (A B : Mt k) (e L e' L' l : Nat), ds = [k.dom, k.em m n A, k.em n p B] ∧ k.base.ok ∧ k.MHas e L m n A ∧ k.MHas e' L' n p B ∧ (0 < L ∧ 0 < L' ∧ L + L' ≤ 2 ^ l) ∧ (dotE n e e' l + (e + e' + l) < 45000000 ∧ L + L' < 1000000 ∧ m < 1000000 ∧ n < 1000000 ∧ p < 1000000) ∧
  (k.MHas (dotE n e e' l) (L + L' - 1) m p (mmul n A B) → Q (k.em m p (mmul n A B)) S)
def a_product : ASp := fun ds S Q _ => ∃ k, prodOk k ds S Q
theorem len_product : ∀ ds S Q XX, a_product ds S Q XX → ds.length = 3 := by rintro ds S Q XX ⟨_, _, _, _, _, _, _, _, _, _, _, rfl, _⟩; rfl
/-- a wrong domain; sizes that do not fit; else -/
def a_times (e : XN → Value) : ASp := fun ds S Q XX => (∃ (k : Dk) (m n n' p : Nat) (x y : D), ds = [k.dom, .tup [.int (m : Nat), .int (n : Nat), x], .tup [.int (n' : Nat), .int (p : Nat), y]] ∧ k.dr ∧ n ≠ n' ∧ XX (e .shape) none S) ∨ (∃ k : Dk, k.dr ∧ prodOk k ds S Q)
theorem len_times {e : XN → Value} : ∀ ds S Q XX, a_times e ds S Q XX → ds.length = 3 := by
  rintro ds S Q XX (⟨_, _, _, _, _, _, _, rfl, _⟩ | ⟨_, _, h⟩)
  · rfl
  · exact len_product ds S Q XX ⟨_, h⟩
theorem Dk.vs_row {k : Dk} {n : Nat} {A : Mt k} {m : Nat} : (List.range m).map (fun i => k.ev n (A i)) = k.rs m n A := rfl
/-! ### plus -/
def plusOk (k : Dk) (ds : List D) (S : Sto) (Q : VKD) : Prop := ∃ (m n : Nat) (A B : Mt k) (e L e' L' : Nat), ds = [k.dom, k.em m n A, k.em m n B] ∧ k.MHas e L m n A ∧ k.MHas e' L' m n B ∧ (e + e' < 45000000 ∧ L < 1000000 ∧ L' < 1000000 ∧ m < 1000000 ∧ n < 1000000) ∧
  (k.MHas (e + e' + 1) (max L L') m n (fun i j => A i j + B i j) → Q (k.em m n fun i j => A i j + B i j) S)
def a_plus (e : XN → Value) : ASp := fun ds S Q XX => (∃ (k : Dk) (m n m' n' : Nat) (x y : D), ds = [k.dom, .tup [.int (m : Nat), .int (n : Nat), x], .tup [.int (m' : Nat), .int (n' : Nat), y]] ∧ k.dr ∧ ¬(m = m' ∧ n = n') ∧ XX (e .shape) none S) ∨ (∃ k : Dk, k.dr ∧ plusOk k ds S Q)
theorem len_plus {e : XN → Value} : ∀ ds S Q XX, a_plus e ds S Q XX → ds.length = 3 := by
  rintro ds S Q XX (⟨_, _, _, _, _, _, _, rfl, _⟩ | ⟨_, _, _, _, _, _, _, _, _, _, rfl, _⟩) <;> rfl
/-! ### minus -/
def minusOk (k : Dk) (ds : List D) (S : Sto) (Q : VKD) : Prop := ∃ (m n : Nat) (A B : Mt k) (e L e' L' : Nat), ds = [k.dom, k.em m n A, k.em m n B] ∧ k.MHas e L m n A ∧ k.MHas e' L' m n B ∧ (e + e' < 45000000 ∧ L < 1000000 ∧ L' < 1000000 ∧ m < 1000000 ∧ n < 1000000) ∧
  (k.MHas (e + e' + 1) (max L L') m n (fun i j => A i j - B i j) → Q (k.em m n fun i j => A i j - B i j) S)
def a_minus (e : XN → Value) : ASp := fun ds S Q XX => (∃ (k : Dk) (m n m' n' : Nat) (x y : D), ds = [k.dom, .tup [.int (m : Nat), .int (n : Nat), x], .tup [.int (m' : Nat), .int (n' : Nat), y]] ∧ k.dr ∧ ¬(m = m' ∧ n = n') ∧ XX (e .shape) none S) ∨ (∃ k : Dk, k.dr ∧ minusOk k ds S Q)
theorem len_minus {e : XN → Value} : ∀ ds S Q XX, a_minus e ds S Q XX → ds.length = 3 := by
  rintro ds S Q XX (⟨_, _, _, _, _, _, _, rfl, _⟩ | ⟨_, _, _, _, _, _, _, _, _, _, rfl, _⟩) <;> rfl
/-! ### identity -/
def a_identity (e : XN → Value) : ASp := fun ds S Q XX => ∃ (k : Dk) (n : Nat), ds = [k.dom, .int (n : Nat)] ∧ k.dr ∧ n < 1000000 ∧ (k.MHas 0 1 n n mid → Q (k.em n n mid) S)
theorem len_identity {e : XN → Value} : ∀ ds S Q XX, a_identity e ds S Q XX → ds.length = 2 := by rintro ds S Q XX ⟨_, _, rfl, _⟩; rfl
theorem mid_has {k : Dk} (ok : k.base.ok) (i j : Nat) : k.Has 0 1 (mid i j) := by
  unfold mid
  split
  · exact k.has_o ok
  · exact k.has_zero ok
/-! ### scaled -/
def a_scaled (e : XN → Value) : ASp := fun ds S Q XX => ∃ (k : Dk) (m n : Nat) (x : k.R) (A : Mt k) (e L e' L' l : Nat), ds = [k.dom, k.en x, k.em m n A] ∧ k.dr ∧ k.Has e L x ∧ k.MHas e' L' m n A ∧ (0 < L ∧ 0 < L' ∧ L + L' ≤ 2 ^ l) ∧ (e + e' + l < 45000000 ∧ L < 1000000 ∧ L' < 1000000 ∧ m < 1000000 ∧ n < 1000000) ∧
  (k.MHas (e + e' + l) (L + L' - 1) m n (fun i j => x * A i j) → Q (k.em m n fun i j => x * A i j) S)
theorem len_scaled {e : XN → Value} : ∀ ds S Q XX, a_scaled e ds S Q XX → ds.length = 3 := by rintro ds S Q XX ⟨_, _, _, _, _, _, _, _, _, _, rfl, _⟩; rfl
/-! ### products with vectors -/
def appOk (k : Dk) (ds : List D) (S : Sto) (Q : VKD) : Prop := ∃ (m n : Nat) (A : Mt k) (v : Vc k) (e L e' L' l : Nat), ds = [k.dom, k.em m n A, k.ev n v] ∧ k.MHas e L m n A ∧ k.VHas e' L' n v ∧ (0 < L ∧ 0 < L' ∧ L + L' ≤ 2 ^ l) ∧ (dotE n e e' l + (e + e' + l) < 45000000 ∧ L + L' < 1000000 ∧ m < 1000000 ∧ n < 1000000) ∧
  (k.VHas (dotE n e e' l) (L + L' - 1) m (fun i => sm n fun j => A i j * v j) → Q (k.ev m fun i => sm n fun j => A i j * v j) S)
def a_applied (e : XN → Value) : ASp := fun ds S Q XX => (∃ (k : Dk) (m n : Nat) (x : D) (l : List D), ds = [k.dom, .tup [.int (m : Nat), .int (n : Nat), x], .tup l] ∧ k.dr ∧ n ≠ l.length ∧ XX (e .shape) none S) ∨ (∃ k : Dk, k.dr ∧ appOk k ds S Q)
theorem len_applied {e : XN → Value} : ∀ ds S Q XX, a_applied e ds S Q XX → ds.length = 3 := by
  rintro ds S Q XX (⟨_, _, _, _, _, rfl, _⟩ | ⟨_, _, _, _, _, _, _, _, _, _, _, rfl, _⟩) <;> rfl
def rowOk (k : Dk) (ds : List D) (S : Sto) (Q : VKD) : Prop := ∃ (m n : Nat) (A : Mt k) (v : Vc k) (e L e' L' l : Nat), ds = [k.dom, k.ev m v, k.em m n A] ∧ k.MHas e L m n A ∧ k.VHas e' L' m v ∧ (0 < L ∧ 0 < L' ∧ L' + L ≤ 2 ^ l) ∧ (dotE m e' e l + (e' + e + l) < 45000000 ∧ L' + L < 1000000 ∧ m < 1000000 ∧ n < 1000000) ∧
  (k.VHas (dotE m e' e l) (L' + L - 1) n (fun j => sm m fun i => v i * A i j) → Q (k.ev n fun j => sm m fun i => v i * A i j) S)
def a_rowtimes (e : XN → Value) : ASp := fun ds S Q XX => (∃ (k : Dk) (m n : Nat) (x : D) (l : List D), ds = [k.dom, .tup l, .tup [.int (m : Nat), .int (n : Nat), x]] ∧ k.dr ∧ m ≠ l.length ∧ XX (e .shape) none S) ∨ (∃ k : Dk, k.dr ∧ rowOk k ds S Q)
theorem len_row_times {e : XN → Value} : ∀ ds S Q XX, a_rowtimes e ds S Q XX → ds.length = 3 := by
  rintro ds S Q XX (⟨_, _, _, _, _, rfl, _⟩ | ⟨_, _, _, _, _, _, _, _, _, _, _, rfl, _⟩) <;> rfl
/-! ### the trace -/
def a_trace (e : XN → Value) : ASp := fun ds S Q XX => (∃ (k : Dk) (m n : Nat) (x : D), ds = [k.dom, .tup [.int (m : Nat), .int (n : Nat), x]] ∧ k.dr ∧ m ≠ n ∧ XX (e .shape) none S) ∨
  (∃ (k : Dk) (n : Nat) (A : Mt k) (e1 L : Nat), ds = [k.dom, k.em n n A] ∧ k.dr ∧ k.MHas e1 L n n A ∧ 0 < L ∧ (n * (e1 + 1) + e1 < 45000000 ∧ L < 1000000 ∧ n < 1000000) ∧ (k.Has (n * (e1 + 1)) L (sm n fun i => A i i) → Q (k.en (sm n fun i => A i i)) S))
theorem len_trace {e : XN → Value} : ∀ ds S Q XX, a_trace e ds S Q XX → ds.length = 2 := by
  rintro ds S Q XX (⟨_, _, _, _, rfl, _⟩ | ⟨_, _, _, _, _, rfl, _⟩) <;> rfl
theorem trace_turn {k : Dk} {n : Nat} {f : Nat → k.R} {e L i : Nat} (hi : i < n) (hb : n * (e + 1) + e < 45000000) (h : k.Has (i * (e + 1)) L (sm i f)) : i * (e + 1) + e < 45000000 ∧ (k.Has (i * (e + 1) + e + 1) (max L L) (sm i f + f i) → k.Has ((i + 1) * (e + 1)) L (sm (i + 1) f)) := by
  refine ⟨?_, fun h => h.mono (by rw [Nat.add_mul]; omega) (by omega)⟩
  have : i * (e + 1) ≤ n * (e + 1) := Nat.mul_le_mul_right _ (by omega)
  omega
/-! ### powers: up to the fifth, of at most four rows -/
def mpw {R : Type} [Lean.Grind.CommRing R] (n : Nat) (A : Nat → Nat → R) : Nat → Nat → Nat → R
  | 0 => mid
  | t + 1 => mmul n (mpw n A t) A
theorem mpw_congr {R : Type} [Lean.Grind.CommRing R] {n : Nat} {A B : Nat → Nat → R} (h : ∀ i, i < n → ∀ j, j < n → A i j = B i j) : ∀ t i, i < n → ∀ j, j < n → mpw n A t i j = mpw n B t i j
  | 0, _, _, _, _ => rfl
  | t + 1, i, hi, j, hj => mmul_congr (fun l hl => mpw_congr h t i hi l hl) fun l hl => h l hl j hj
theorem mpw_add {R : Type} [Lean.Grind.CommRing R] {n : Nat} (A : Nat → Nat → R) (s : Nat) : ∀ t i, i < n → ∀ j, j < n → mmul n (mpw n A s) (mpw n A t) i j = mpw n A (s + t) i j
  | 0, i, hi, j, hj => mmul_id_right hj
  | t + 1, i, hi, j, hj => by
    show mmul n (mpw n A s) (mmul n (mpw n A t) A) i j = mmul n (mpw n A (s + t)) A i j
    rw [← mmul_assoc]
    exact mmul_congr (fun l hl => mpw_add A s t i hi l hl) fun _ _ => rfl
/-- sizes of a, its square, the square's square; of what is found -/
def pE : Nat → Nat := fun s => match s with | 0 => 6 | 1 => 68 | 2 => 564 | _ => 4532
def pL : Nat → Nat := fun s => match s with | 0 => 2 | 1 => 3 | 2 => 5 | _ => 9
def fE : Nat → Nat := fun s => match s with | 0 => 0 | 1 => 44 | 2 => 468 | _ => 4148
def fL : Nat → Nat := fun s => match s with | 0 => 1 | 1 => 2 | 2 => 4 | _ => 8
def a_mpower (e : XN → Value) : ASp := fun ds S Q XX => (∃ (k : Dk) (m n : Nat) (x y : D), ds = [k.dom, .tup [.int (m : Nat), .int (n : Nat), x], y] ∧ k.dr ∧ m ≠ n ∧ XX (e .shape) none S) ∨
  (∃ (k : Dk) (n t : Nat) (A : Mt k), ds = [k.dom, k.em n n A, .int (t : Nat)] ∧ k.dr ∧ k.MHas 6 2 n n A ∧ n ≤ 4 ∧ t ≤ 5 ∧ Q (k.em n n (mpw n A t)) S)
theorem len_matrix_power {e : XN → Value} : ∀ ds S Q XX, a_mpower e ds S Q XX → ds.length = 3 := by
  rintro ds S Q XX (⟨_, _, _, _, _, rfl, _⟩ | ⟨_, _, _, _, rfl, _⟩) <;> rfl
theorem needf_ok {e : XN → Value} {k : Bk} {S : Sto} {Q : VKD} {X : XKD} (fl : k.fld) (q : Q .non S) : a_needf e [k.dom] S Q X := ⟨k.dom, rfl, k.dom_pure, fun _ => q, fun h => absurd fl.fieldD h⟩
theorem needq_ok {e : XN → Value} {k : Dk} {n : Nat} {A : Mt k} {S : Sto} {Q : VKD} {X : XKD} (q : Q .non S) : a_needq e [k.em n n A] S Q X := ⟨n, n, _, rfl, fun _ => q, fun h => absurd rfl h⟩
/-! ### the law's matrices -/
def a_lmatrix : ASp := fun ds S Q _ => ∃ (c : Nat) (k : Dk) (m n : Nat), ds = [.ref c, k.dom, .int (m : Nat), .int (n : Nat)] ∧ Dr S c ∧ k.base.ok ∧ m < 1000000 ∧ n < 1000000 ∧ ∀ (A : Mt k) S', k.MHas 6 2 m n A → DrTo S c S' → Q (k.em m n A) S'
theorem len_lmatrix : ∀ ds S Q XX, a_lmatrix ds S Q XX → ds.length = 4 := by rintro ds S Q XX ⟨_, _, _, _, rfl, _⟩; rfl
theorem vs_put {k : Dk} {n : Nat} {v : Vc k} {x : k.R} : k.vs n v ++ [k.en x] = k.vs (n + 1) fun j => if j = n then x else v j := by
  rw [Dk.vs_succ, if_pos rfl]
  congr 1
  exact Dk.vs_congr fun j hj => (if_neg (by omega)).symm
theorem rs_put {k : Dk} {m n : Nat} {A : Mt k} {v : Vc k} : k.rs m n A ++ [k.ev n v] = k.rs (m + 1) n fun i => if i = m then v else A i := by
  rw [Dk.rs_succ, if_pos rfl]
  congr 1
  exact Dk.rs_congr fun i hi j _ => by rw [if_neg (by omega)]
theorem Dk.VHas.put {k : Dk} {e L n : Nat} {v : Vc k} {x : k.R} (h : k.VHas e L n v) (g : k.Has e L x) : k.VHas e L (n + 1) fun j => if j = n then x else v j := fun j hj => by
  show k.Has e L (if j = n then x else v j)
  by_cases c : j = n
  · rw [if_pos c]; exact g
  · rw [if_neg c]; exact h j (by omega)
theorem Dk.MHas.put {k : Dk} {e L m n : Nat} {A : Mt k} {v : Vc k} (h : k.MHas e L m n A) (g : k.VHas e L n v) : k.MHas e L (m + 1) n fun i => if i = m then v else A i := fun i hi => by
  show k.VHas e L n (if i = m then v else A i)
  by_cases c : i = m
  · rw [if_pos c]; exact g
  · rw [if_neg c]; exact h i (by omega)
theorem small_has {k : Dk} {x : k.E} (h : k.Fi 3 6 2 x) : k.Has 6 2 (k.val x) := ⟨x, rfl, h.mono (by decide) (by decide) (by decide)⟩
/-- a drawn vector -/
theorem lc_small {c : Nat} {k : Dk} {n : Nat} {σ : ASt} {S : Sto} {Q : List D → Sto → Prop} {wg : WG} {we : WE} (hd : Dr S c) (ok : k.base.ok)
    (hs : ∀ (i : Nat) acc S1 (R : List D → Sto → Prop), Dr S1 c → (∀ (x : k.E) S2, k.Fi 3 6 2 x → DrTo S1 c S2 → R (acc ++ [k.enc x]) S2) → lcTurn wg wYes we σ (.int (0 + (i : Nat))) acc S1 R)
    (q : ∀ (v : Vc k) S', k.VHas 6 2 n v → DrTo S c S' → Q (k.vs n v) S') : lcL wg wYes we σ Q (rangeD 0 n) [] S := by
  refine lc_cut (rangeD 0 n) (fun i acc S' => DrTo S c S' ∧ ∃ v : Vc k, k.VHas 6 2 i v ∧ acc = k.vs i v) ⟨hd.self, fun _ => 0, fun j hj => absurd hj (Nat.not_lt_zero j), rfl⟩ ?_ ?_
  · rintro i d acc S1 R hg ⟨t, v, hv, rfl⟩ hR
    obtain ⟨_, rfl⟩ := rangeD_get hg
    refine hs i _ _ _ (hd.to t) fun x S2 hx t2 => ?_
    rw [Dk.en_eq (v := k.val x) rfl, vs_put]
    exact hR _ _ ⟨t.trans t2, _, hv.put (small_has hx), rfl⟩
  · rintro acc S1 ⟨t, v, hv, rfl⟩
    rw [rangeD_len] at hv ⊢
    exact q v _ hv t
theorem p_lmatrix : ∀ ds S Q XX, Closed S → a_lmatrix ds S Q XX → w__law_matrix a_smalld (endOf Q S.length) (startD ["c", "d", "m", "n", "i", "j"] ds) S (GivesX XX S.length) := by
  rintro ds S Q XX hC ⟨c, k, m, n, rfl, hd, ok, hm, hn, q⟩
  unfold w__law_matrix
  walk_at "ax"
  rw [rangeD_len, Int.toNat_natCast]
  refine ⟨by omega, by omega, ?_⟩
  refine lc_cut (rangeD 0 m) (fun i acc S' => DrTo S c S' ∧ ∃ A : Mt k, k.MHas 6 2 i n A ∧ acc = k.rs i n A) ⟨hd.self, fun _ _ => 0, fun j hj => absurd hj (Nat.not_lt_zero j), rfl⟩ ?_ ?_
  · rintro i d acc S1 R hg ⟨t, A, hA, rfl⟩ hR
    obtain ⟨_, rfl⟩ := rangeD_get hg
    walk_at "ax"
    rw [rangeD_len, Int.toNat_natCast]
    refine ⟨by omega, by omega, ?_⟩
    refine lc_small (hd.to t) ok ?_ ?_
    · intro j acc2 S2 R2 h2 hR2
      walk_at "ax"
      refine ⟨c, k, rfl, h2, ok, fun x S3 hx t3 => ?_⟩
      walk_at "ax"
      exact hR2 x S3 hx t3
    · intro v S2 hv t2
      walk_at "ax"
      have := rs_put (k := k) (m := i) (n := n) (A := A) (v := v)
      rw [show D.tup (k.vs n v) = k.ev n v from rfl, this]
      exact hR _ _ ⟨t.trans t2, _, hA.put hv, rfl⟩
  · rintro acc S1 ⟨t, A, hA, rfl⟩
    rw [rangeD_len] at hA ⊢
    walk_at "ax"
    exact gives_now (q A _ hA t)
/-! #### columns, products -/
def a_column : ASp := fun ds S Q _ => ∃ (k : Dk) (m n j : Nat) (A : Mt k), ds = [k.em m n A, .int (j : Nat)] ∧ m < 1000000 ∧ j < n ∧ Q (k.ev m fun i => A i j) S
theorem len_column : ∀ ds S Q XX, a_column ds S Q XX → ds.length = 2 := by rintro ds S Q XX ⟨_, _, _, _, _, rfl, _⟩; rfl
theorem p_column : ∀ ds S Q XX, Closed S → a_column ds S Q XX → w__law_column (endOf Q S.length) (startD ["a", "j", "row"] ds) S (GivesX XX S.length) := by
  rintro ds S Q XX hC ⟨k, m, n, j, A, rfl, hm, hj, q⟩
  unfold w__law_column
  simp only [Dk.em]
  walk_at "ax"
  rw [k.rs_len]
  refine ⟨by omega, ?_⟩
  refine lcL_each (List.range m) (fun i => k.ev n (A i)) (fun i => k.en (A i j)) ?_ ?_
  · intro i a acc2 R2 ha hR2
    simp only [Dk.ev]
    walk_at "ax"
    rw [atQ_of (Dk.vs_at hj)]
    walk_at "ax"
    exact hR2
  · walk_at "ax"
    exact gives_now q
theorem p_product : ∀ ds S Q XX, Closed S → a_product ds S Q XX → w__law_product a_column a_dot (endOf Q S.length) (startD ["d", "a", "b", "columns", "j", "row", "column"] ds) S (GivesX XX S.length) := by
  rintro ds S Q XX hC ⟨k, m, n, p, A, B, e1, L, e2, L', l, rfl, ok, hA, hB, hL, hb, q⟩
  unfold w__law_product
  refine seq_to [some k.dom, some (k.em m n A), some (k.em n p B), some (.fl (k.rs p n fun i j => B j i)), none, none, none] S ?_ fun R hR => by
    simp only [Dk.em]
    walk_at "ax"
    rw [rangeD_len, Int.toNat_natCast]
    refine ⟨by omega, by omega, ?_⟩
    refine lcL_range 0 p (fun j => k.ev n fun i => B i j) ?_ ?_
    · intro j acc R2 hj hR2
      walk_at "ax"
      refine ⟨k, n, p, j, B, by rw [Int.zero_add]; rfl, by omega, hj, ?_⟩
      walk_at "ax"
      exact hR2
    · walk_at "ax"
      exact hR
  simp only [Dk.em]
  walk_at "ax"
  rw [k.rs_len]
  refine ⟨by omega, ?_⟩
  refine lc_cut (k.rs m n A) (fun i acc S2 => S2 = S ∧ acc = k.rs i p (mmul n A B) ∧ k.MHas (dotE n e1 e2 l) (L + L' - 1) i p (mmul n A B)) ⟨rfl, rfl, fun j hj => absurd hj (Nat.not_lt_zero j)⟩ ?_ ?_
  · rintro i d acc S2 R hd ⟨rfl, rfl, h⟩ hR
    have hi : i < m := by rw [← k.rs_len m n A]; exact (List.getElem?_eq_some_iff.mp hd).1
    rw [Dk.rs_get hi] at hd
    cases hd
    walk_at "ax"
    rw [k.rs_len]
    refine ⟨by omega, ?_⟩
    have cols : ∀ j, j < p → k.VHas e2 L' n fun i => B i j := fun j hj i hi => hB i hi j hj
    refine lc_cut (k.rs p n fun i j => B j i) (fun j acc2 S3 => S3 = S2 ∧ acc2 = k.vs j (mmul n A B i) ∧ k.VHas (dotE n e1 e2 l) (L + L' - 1) j (mmul n A B i)) ⟨rfl, rfl, fun j hj => absurd hj (Nat.not_lt_zero j)⟩ ?_ ?_
    · rintro j d acc2 S3 R3 hd ⟨rfl, rfl, hv⟩ hR3
      have hj : j < p := by rw [← k.rs_len p n fun i j => B j i]; exact (List.getElem?_eq_some_iff.mp hd).1
      rw [Dk.rs_get hj] at hd
      cases hd
      walk_at "ax"
      refine ⟨k, n, A i, fun l => B l j, e1, L, e2, L', l, rfl, ok, hA i hi, cols j hj, hL, by omega, fun hz => ?_⟩
      walk_at "ax"
      exact hR3 _ _ ⟨rfl, Dk.vs_succ.symm, Dk.VHas.succ hv hz⟩
    · rintro acc2 S3 ⟨rfl, rfl, hv⟩
      rw [k.rs_len] at hv ⊢
      walk_at "ax"
      exact hR _ _ ⟨rfl, by rw [Dk.rs_succ]; rfl, Dk.MHas.succ h hv⟩
  · rintro acc S2 ⟨rfl, rfl, h⟩
    rw [k.rs_len] at h ⊢
    walk_at "ax"
    exact gives_now (q h)
def a_lidentity : ASp := fun ds S Q _ => ∃ (k : Dk) (n : Nat), ds = [k.dom, .int (n : Nat)] ∧ k.base.ok ∧ n < 1000000 ∧ (k.MHas 0 1 n n mid → Q (k.em n n mid) S)
theorem len_lidentity : ∀ ds S Q XX, a_lidentity ds S Q XX → ds.length = 2 := by rintro ds S Q XX ⟨_, _, rfl, _⟩; rfl
theorem num_at {k : Dk} {n : Int} {v : k.R} {S : Sto} {Q : VKD} {X : XKD} (h : (Lean.Grind.Ring.intCast.intCast n : k.R) = v) (q : Q (k.en v) S) : a_int [k.dom, .int n] S Q X := by
  refine ⟨k, n, rfl, fun z hz => ?_⟩
  rw [Dk.en_eq (hz.trans h)]
  exact q
theorem num0 {R : Type} [Lean.Grind.CommRing R] : (Lean.Grind.Ring.intCast.intCast (0 : Int) : R) = 0 := Lean.Grind.Ring.intCast_zero
theorem num1 {R : Type} [Lean.Grind.CommRing R] : (Lean.Grind.Ring.intCast.intCast (1 : Int) : R) = 1 := Lean.Grind.Ring.intCast_one
theorem p_lidentity : ∀ ds S Q XX, Closed S → a_lidentity ds S Q XX → w__law_identity a_int (endOf Q S.length) (startD ["d", "n", "units", "i", "j"] ds) S (GivesX XX S.length) := by
  rintro ds S Q XX hC ⟨k, n, rfl, ok, hn, q⟩
  unfold w__law_identity
  refine seq_to [some k.dom, some (.int (n : Nat)), some (.fl [k.en 0, k.en 1]), none, none] S ?_ fun R hR => by
    walk_at "ax"
    refine num_at num0 ?_
    walk_at "ax"
    refine num_at num1 ?_
    walk_at "ax"
    exact hR
  walk_at "ax"
  rw [rangeD_len, Int.toNat_natCast]
  refine ⟨by omega, by omega, ?_⟩
  refine lcL_range 0 n (fun i => k.ev n (mid i)) ?_ ?_
  · intro i acc R hi hR
    walk_at "ax"
    rw [rangeD_len, Int.toNat_natCast]
    refine ⟨by omega, by omega, ?_⟩
    refine lcL_range 0 n (fun j => k.en (mid i j)) ?_ ?_
    · intro j acc2 R2 hj hR2
      walk_at "ax"
      rw [if_pos True.intro]
      by_cases c : i = j
      · rw [decide_eq_true (show (0 : Int) + (i : Nat) = 0 + (j : Nat) by omega), if_pos rfl]
        walk_at "ax"
        have : mid (R := k.R) i j = 1 := by unfold mid; rw [if_pos c]
        rw [this] at hR2
        exact hR2
      · rw [decide_eq_false (show ¬((0 : Int) + (i : Nat) = 0 + (j : Nat)) by omega), if_neg (by decide)]
        walk_at "ax"
        have : mid (R := k.R) i j = 0 := by unfold mid; rw [if_neg c]
        rw [this] at hR2
        exact hR2
    · walk_at "ax"
      exact hR
  · walk_at "ax"
    exact gives_now (q fun i _ j _ => mid_has ok i j)
def a_shape : ASp := fun ds S Q _ => ∃ c, ds = [.ref c] ∧ Dr S c ∧ ∀ (s : Nat) S', s ≤ 4 → DrTo S c S' → Q (.int (s : Nat)) S'
theorem len_shape : ∀ ds S Q XX, a_shape ds S Q XX → ds.length = 1 := by rintro ds S Q XX ⟨_, rfl, _⟩; rfl
/-! ### Fermat's little theorem -/
namespace Ser
open Lean.Grind
theorem perm_of_sub {α : Type} [DecidableEq α] : ∀ {l r : List α}, l.Nodup → (∀ x ∈ l, x ∈ r) → r.length ≤ l.length → l.Perm r
  | [], r, _, _, h => by rw [List.eq_nil_of_length_eq_zero (Nat.le_zero.mp h)]
  | x :: l, r, hn, hs, h => by
    have hx := hs x (.head _)
    have p := List.perm_cons_erase hx
    rw [List.nodup_cons] at hn
    refine (List.Perm.cons x (perm_of_sub hn.2 (fun y hy => ?_) ?_)).trans p.symm
    · exact (List.mem_erase_of_ne (fun z => hn.1 (by rw [← z]; exact hy))).mpr (hs y (.tail _ hy))
    · have := p.length_eq
      simp only [List.length_cons] at this h
      omega
variable {F : Type} [CommRing F]
def prod (l : List F) : F := l.foldr (· * ·) 1
theorem prod_perm {l r : List F} (h : l.Perm r) : prod l = prod r := by
  induction h with
  | nil => rfl
  | cons x _ ih => show x * prod _ = x * prod _; rw [ih]
  | swap x y l => show y * (x * prod l) = x * (y * prod l); grind
  | trans _ _ h1 h2 => exact h1.trans h2
theorem prod_map (a : F) : ∀ l : List F, prod (l.map fun x => a * x) = a ^ l.length * prod l
  | [] => by show (1 : F) = a ^ 0 * 1; rw [Semiring.pow_zero]; grind
  | x :: l => by
    show a * x * prod (l.map fun x => a * x) = a ^ (l.length + 1) * (x * prod l)
    rw [prod_map a l, Semiring.pow_succ]
    grind
theorem fermat [DecidableEq F] (one : (1 : F) ≠ 0) (nzd : ∀ a b : F, a * b = 0 → a = 0 ∨ b = 0) {l : List F} (hl : l.Nodup) (hm : ∀ x, x ∈ l ↔ x ≠ 0) {a : F} (ha : a ≠ 0) : a ^ l.length = 1 := by
  have inj : ∀ x y, a * x = a * y → x = y := fun x y h => by
    rcases nzd a (x - y) (by grind) with z | z
    · exact absurd z ha
    · grind
  have nd : (l.map fun x => a * x).Nodup := by
    rw [List.nodup_iff_pairwise_ne, List.pairwise_map]
    exact (List.nodup_iff_pairwise_ne.mp hl).imp fun h e => h (inj _ _ e)
  have p : (l.map fun x => a * x).Perm l := perm_of_sub nd (fun y hy => by
    obtain ⟨x, hx, rfl⟩ := List.mem_map.mp hy
    refine (hm _).mpr fun z => ?_
    rcases nzd _ _ z with z | z
    · exact ha z
    · exact (hm x).mp hx z) (by rw [List.length_map]; exact Nat.le_refl _)
  have e := (prod_map a l).symm.trans (prod_perm p)
  have p0 : ∀ r : List F, (∀ x ∈ r, x ≠ 0) → prod r ≠ 0 := by
    intro r
    induction r with
    | nil => intro _; exact one
    | cons x r ih =>
      intro h z
      rcases nzd x (prod r) z with z | z
      · exact h x (.head _) z
      · exact ih (fun y hy => h y (.tail _ hy)) z
  rcases nzd (a ^ l.length - 1) (prod l) (by grind) with z | z
  · grind
  · exact absurd z (p0 l fun x hx => (hm x).mp hx)
end Ser
theorem fin_fermat {m : Nat} (h : Pr (m + 2)) {a : (Bk.f m).T} (ha : a ≠ 0) : a * a ^ m = 1 := by
  have fl : (Bk.f m).fld → True := fun _ => trivial
  have nzd : ∀ a b : (Bk.f m).T, a * b = 0 → a = 0 ∨ b = 0 := by
    intro a b e
    have e2 : (a.val * b.val) % (m + 2) = 0 := congrArg Fin.val e
    have d : m + 2 ∣ a.val * b.val := Nat.dvd_of_mod_eq_zero e2
    rcases h.dvd (Nat.gcd_dvd_left (m + 2) a.val) with g | g
    · exact .inr (Fin.ext (Nat.eq_zero_of_dvd_of_lt (Nat.Coprime.dvd_of_dvd_mul_left (show Nat.Coprime (m + 2) a.val from g) d) b.isLt))
    · have := Nat.gcd_dvd_right (m + 2) a.val
      rw [g] at this
      exact .inl (Fin.ext (Nat.eq_zero_of_dvd_of_lt this a.isLt))
  have := Ser.fermat (F := (Bk.f m).T) (Bk.f m).one_ne nzd (l := (List.finRange (m + 1)).map Fin.succ) (by
    rw [List.nodup_iff_pairwise_ne, List.pairwise_map]
    exact (List.nodup_iff_pairwise_ne.mp (List.nodup_finRange (m + 1))).imp fun h e => h (Fin.succ_inj.mp e)) (fun x => by
    rw [List.mem_map]
    constructor
    · rintro ⟨y, _, rfl⟩
      exact Fin.succ_ne_zero y
    · intro hx
      exact ⟨Fin.pred x hx, List.mem_finRange _, Fin.succ_pred x hx⟩) ha
  rw [List.length_map, List.length_finRange, Lean.Grind.Semiring.pow_succ] at this
  rw [← this]
  grind
theorem Bk.fld.ex_inv {k : Bk} (h : k.fld) {a : k.T} (ha : a ≠ 0) : ∃ u, a * u = 1 := by
  rcases h with rfl | ⟨m, rfl, hm, h5⟩
  · exact ⟨_, rat_inv ha⟩
  · exact ⟨_, fin_fermat hm ha⟩
/-! ### the law's inverse -/
def a_linv : ASp := fun ds S Q _ => ∃ (k : Bk) (a : k.T), ds = [k.dom, k.enc a] ∧ k.fld ∧ k.InvOk a ∧ a ≠ 0 ∧ ∀ z, a * z = 1 → Q (k.enc z) S
theorem len_linverse : ∀ ds S Q XX, a_linv ds S Q XX → ds.length = 2 := by rintro ds S Q XX ⟨_, _, rfl, _⟩; rfl
theorem p_linverse : ∀ ds S Q XX, Closed S → a_linv ds S Q XX → w__law_inverse a_fr a_power (endOf Q S.length) (startD ["f", "x"] ds) S (GivesX XX S.length) := by
  rintro ds S Q XX hC ⟨k, a, rfl, fl, iv, h, q⟩
  unfold w__law_inverse
  rcases fl with rfl | ⟨m, rfl, hm, h5⟩
  · have h : (a : Rat) ≠ 0 := h
    simp only [Bk.dom, Bk.enc, qe]
    walk_at "ax"
    refine ⟨fun z => h (Rat.num_eq_zero.mp z), gives_now (q _ (rat_inv h))⟩
  · simp only [Bk.dom, Bk.enc]
    walk_at "ax"
    refine ⟨.b (.f m), a, m, ?_, iv, .inl ⟨by omega, fun x y => ⟨iv, iv⟩⟩, fun z hz => gives_now (q z ?_)⟩
    · rw [show ((m + 2 : Nat) : Int) - 2 = ((m : Nat) : Int) by omega]; rfl
    · have hz : z = a ^ m := hz
      rw [hz]
      exact fin_fermat hm h
/-! ### reduced echelon forms, in plain terms -/
section
open Lean.Grind
variable {T : Type} [CommRing T]
/-- the first n columns of m rows are reduced; p: the columns of the pivots -/
inductive Ech (m : Nat) (R : Nat → Nat → T) : Nat → List Nat → Prop where
  | nil : Ech m R 0 []
  | piv {n : Nat} {p : List Nat} : Ech m R n p → p.length < m → (∀ l, l < m → R l n = if l = p.length then 1 else 0) → Ech m R (n + 1) (p ++ [n])
  | free {n : Nat} {p : List Nat} : Ech m R n p → (∀ l, l < m → p.length ≤ l → R l n = 0) → Ech m R (n + 1) p
variable {m n w : Nat} {R R' A : Nat → Nat → T} {p p' : List Nat}
theorem Ech.low (h : Ech m R n p) : ∀ l, l < m → p.length ≤ l → ∀ x, x < n → R l x = 0 := by
  induction h with
  | nil => intro l _ _ x hx; omega
  | @piv n p h hp hc ih =>
    intro l hl hpl x hx
    rw [List.length_append] at hpl
    have hpl : p.length + 1 ≤ l := hpl
    by_cases e : x = n
    · subst e
      rw [hc l hl, if_neg (by omega)]
    · exact ih l hl (by omega) x (by omega)
  | @free n p h hc ih =>
    intro l hl hpl x hx
    by_cases e : x = n
    · subst e
      exact hc l hl hpl
    · exact ih l hl hpl x (by omega)
theorem Ech.congr (h : Ech m R n p) (e : ∀ l, l < m → ∀ x, x < n → R' l x = R l x) : Ech m R' n p := by
  induction h with
  | nil => exact .nil
  | piv h hp hc ih => exact .piv (ih fun l hl x hx => e l hl x (by omega)) hp fun l hl => by rw [e l hl _ (by omega), hc l hl]
  | free h hc ih => exact .free (ih fun l hl x hx => e l hl x (by omega)) fun l hl hp => by rw [e l hl _ (by omega), hc l hl hp]
theorem Ech.le (h : Ech m R n p) : p.length ≤ m ∧ p.length ≤ n := by
  induction h with
  | nil => exact ⟨Nat.zero_le _, Nat.zero_le _⟩
  | @piv n p h hp hc ih => rw [List.length_append]; show p.length + 1 ≤ m ∧ p.length + 1 ≤ n + 1; omega
  | free h hc ih => omega
theorem Ech.lt (h : Ech m R n p) : ∀ x ∈ p, x < n := by
  induction h with
  | nil => intro x hx; cases hx
  | piv h hp hc ih =>
    intro x hx
    rcases List.mem_append.mp hx with hx | hx
    · have := ih x hx; omega
    · rw [List.mem_singleton.mp hx]; omega
  | free h hc ih => intro x hx; have := ih x hx; omega
theorem Ech.asc (h : Ech m R n p) : p.Pairwise (· < ·) := by
  induction h with
  | nil => exact .nil
  | piv h hp hc ih =>
    rw [List.pairwise_append]
    exact ⟨ih, List.pairwise_singleton _ _, fun a ha b hb => by rw [List.mem_singleton.mp hb]; exact h.lt a ha⟩
  | free h hc ih => exact ih
theorem Ech.nodup (h : Ech m R n p) : p.Nodup := h.asc.imp fun h => Nat.ne_of_lt h
theorem Ech.unit (h : Ech m R n p) : ∀ i x, p[i]? = some x → ∀ l, l < m → R l x = if l = i then 1 else 0 := by
  induction h with
  | nil => intro i x hx; cases hx
  | @piv n p h hp hc ih =>
    intro i x hx l hl
    by_cases hi : i < p.length
    · rw [List.getElem?_append_left hi] at hx
      exact ih i x hx l hl
    · rw [List.getElem?_append_right (by omega)] at hx
      have hi2 := (List.getElem?_eq_some_iff.mp hx).1
      have hi2 : i - p.length < 1 := hi2
      rw [show i - p.length = 0 by omega] at hx
      cases hx
      rw [hc l hl, show i = p.length by omega]
  | free h hc ih => exact ih
/-- a combination of the pivots' places -/
def cmb (p : List Nat) (v : Nat → T) (x : Nat) : T := sm p.length fun i => if p[i]? = some x then v i else 0
theorem cmb_sum (h : Ech m R n p) (v : Nat → T) {l : Nat} (hl : l < m) : (sm n fun x => R l x * cmb p v x) = if l < p.length then v l else 0 := by
  unfold cmb
  rw [sm_congr (g := fun x => sm p.length fun i => if p[i]? = some x then R l x * v i else 0) fun x _ => by rw [← sm_mul_left]; exact sm_congr fun i _ => by split <;> grind]
  rw [sm_comm]
  rw [sm_congr (g := fun i => (if l = i then 1 else 0) * v i) fun i hi => by
    have e : p[i]? = some p[i] := List.getElem?_eq_getElem hi
    have hx := h.lt p[i] (List.getElem_mem hi)
    rw [sm_one hx fun x _ hne => by rw [e, if_neg (fun z => hne (Option.some.inj z).symm)], e, if_pos rfl, h.unit i _ e l hl]]
  by_cases c : l < p.length
  · rw [if_pos c, sm_one c fun i _ hne => by rw [if_neg (Ne.symm hne)]; grind, if_pos rfl]
    grind
  · rw [if_neg c, sm_congr (g := fun _ => 0) fun i hi => by rw [if_neg (by omega)]; grind, sm_zero]
theorem cmb_off (v : Nat → T) {x : Nat} (h : x ∉ p) : cmb p v x = 0 := by
  unfold cmb
  rw [sm_congr (g := fun _ => 0) fun i hi => if_neg fun z => h (List.mem_of_getElem? z), sm_zero]
theorem cmb_at (hn : p.Nodup) (v : Nat → T) {i x : Nat} (h : p[i]? = some x) : cmb p v x = v i := by
  have hi := (List.getElem?_eq_some_iff.mp h).1
  unfold cmb
  rw [sm_one hi fun j hj hne => if_neg fun z => hne ?_, if_pos h]
  obtain ⟨h1, e1⟩ := List.getElem?_eq_some_iff.mp z
  obtain ⟨h2, e2⟩ := List.getElem?_eq_some_iff.mp h
  exact (List.getElem_inj hn).mp (e1.trans e2.symm)
/-- c is taken to zero -/
def Nul (m n : Nat) (A : Nat → Nat → T) (c : Nat → T) : Prop := ∀ l, l < m → (sm n fun x => A l x * c x) = 0
theorem Nul.congr {c c' : Nat → T} (h : Nul m n A c) (e : ∀ x, x < n → c' x = c x) : Nul m n A c' := fun l hl => by
  rw [← h l hl]
  exact sm_congr fun x hx => by rw [e x hx]
theorem Nul.of_eq {c : Nat → T} (h : Nul m n A c) (e : ∀ l, l < m → ∀ x, x < n → R l x = A l x) : Nul m n R c := fun l hl => by
  rw [← h l hl]
  exact sm_congr fun x hx => by rw [e l hl x hx]
theorem Nul.cut {c : Nat → T} : Nul m (n + 1) A (fun x => if x < n then c x else 0) ↔ Nul m n A c := by
  refine forall_congr' fun l => forall_congr' fun hl => ?_
  show (sm n fun x => A l x * if x < n then c x else 0) + A l n * (if n < n then c n else 0) = 0 ↔ _
  rw [if_neg (Nat.lt_irrefl n), sm_congr (g := fun x => A l x * c x) fun x hx => by rw [if_pos hx]]
  constructor <;> intro h <;> grind
/-- what a free column depends on -/
def dep (p : List Nat) (R : Nat → Nat → T) (n : Nat) (x : Nat) : T := if x = n then 1 else cmb p (fun i => -R i n) x
theorem dep_sum (h : Ech m R n p) (B : Nat → Nat → T) {l : Nat} (hl : l < m) : (sm (n + 1) fun x => R l x * dep p B n x) = R l n + if l < p.length then -B l n else 0 := by
  show sm n _ + R l n * dep p B n n = _
  rw [sm_congr (g := fun x => R l x * cmb p (fun i => -B i n) x) fun x hx => by unfold dep; rw [if_neg (by omega)], cmb_sum h _ hl]
  unfold dep
  rw [if_pos rfl]
  grind
theorem dep_nul (h : Ech m R n p) (hc : ∀ l, l < m → p.length ≤ l → R l n = 0) : Nul m (n + 1) R (dep p R n) := fun l hl => by
  rw [dep_sum h R hl]
  by_cases c : l < p.length
  · rw [if_pos c]; grind
  · rw [if_neg c, hc l hl (by omega)]; grind
/-- two reduced forms with the same kernel are one -/
theorem Ech.uniq (ne : (1 : T) ≠ 0) : ∀ {n : Nat} {p p' : List Nat}, Ech m R n p → Ech m R' n p' → (∀ c, Nul m n R c ↔ Nul m n R' c) → p = p' ∧ ∀ l, l < m → ∀ x, x < n → R l x = R' l x := by
  intro n
  induction n with
  | zero =>
    intro p p' h h' _
    cases h
    cases h'
    exact ⟨rfl, fun l _ x hx => by omega⟩
  | succ n ih =>
    intro p p' h h' hN
    have hN' : ∀ c, Nul m n R c ↔ Nul m n R' c := fun c => by rw [← Nul.cut, ← Nul.cut (A := R')]; exact hN _
    cases h with
    | @piv _ q h hp hc =>
      cases h' with
      | @piv _ q' h' hp' hc' =>
        obtain ⟨e1, e2⟩ := ih h h' hN'
        subst e1
        refine ⟨rfl, fun l hl x hx => ?_⟩
        by_cases e : x = n
        · subst e
          rw [hc l hl, hc' l hl]
        · exact e2 l hl x (by omega)
      | free h' hc' =>
        obtain ⟨e1, e2⟩ := ih h h' hN'
        subst e1
        have := (hN _).mpr (dep_nul h' hc') q.length hp
        rw [dep_sum h _ hp, if_neg (Nat.lt_irrefl _), hc _ hp, if_pos rfl] at this
        exact absurd ((show (1 : T) = 1 + 0 by grind).trans this) ne
    | free h hc =>
      cases h' with
      | @piv _ q' h' hp' hc' =>
        obtain ⟨e1, e2⟩ := ih h h' hN'
        subst e1
        have := (hN _).mp (dep_nul h hc) p.length hp'
        rw [dep_sum h' _ hp', if_neg (Nat.lt_irrefl _), hc' _ hp', if_pos rfl] at this
        exact absurd ((show (1 : T) = 1 + 0 by grind).trans this) ne
      | free h' hc' =>
        obtain ⟨e1, e2⟩ := ih h h' hN'
        subst e1
        refine ⟨rfl, fun l hl x hx => ?_⟩
        by_cases e : x = n
        · subst e
          have := (hN _).mp (dep_nul h hc) l hl
          rw [dep_sum h' _ hl] at this
          by_cases c : l < p.length
          · rw [if_pos c] at this
            grind
          · rw [hc l hl (by omega), hc' l hl (by omega)]
        · exact e2 l hl x (by omega)
/-- without a kernel all columns have pivots -/
theorem Ech.full (ne : (1 : T) ≠ 0) (h : Ech m R n p) (hN : ∀ c, Nul m n R c → ∀ x, x < n → c x = 0) : p = List.range n := by
  induction h with
  | nil => rfl
  | @piv n p h hp hc ih =>
    rw [List.range_succ, ih fun c hc x hx => ?_]
    have := hN _ (Nul.cut.mpr hc) x (by omega)
    rwa [if_pos hx] at this
  | @free n p h hc ih =>
    have := hN _ (dep_nul h hc) n (by omega)
    unfold dep at this
    rw [if_pos rfl] at this
    exact absurd this ne
theorem Ech.all (h : Ech m R n (List.range n)) : ∀ l, l < m → ∀ x, x < n → R l x = mid l x := fun l hl x hx => by
  have := h.unit x x (List.getElem?_range hx) l hl
  rw [this]
  rfl
/-- pivots in all columns are these -/
theorem Ech.count (h : Ech m R n p) (hl : p.length = n) : p = List.range n := by
  induction h with
  | nil => rfl
  | @piv n p h hp hc ih =>
    rw [List.length_append] at hl
    have hl : p.length + 1 = n + 1 := hl
    rw [List.range_succ, ih (by omega)]
  | free h hc ih => have := h.le; omega
/-! #### a step of the elimination -/
/-- row f comes to place r with a one at column j; the others lose that column -/
structure Turn (m w r f j : Nat) (R R' : Nat → Nat → T) (u : T) : Prop where
  rr : r ≤ f
  fm : f < m
  inv : R f j * u = 1
  lead : ∀ x, x < w → R' r x = u * R f x
  /-- the other rows: in some order those of R but the one at f -/
  ord : ∃ π : Nat → Nat, (∀ i, i < m → i ≠ r → π i < m ∧ π i ≠ f ∧ (r ≤ i → r ≤ π i) ∧ (i < r → π i = i) ∧ ∀ x, x < w → R' i x = R (π i) x - R (π i) j * (u * R f x)) ∧ (∀ l, l < m → l ≠ f → ∃ i, i < m ∧ i ≠ r ∧ π i = l)
theorem Turn.nul {r f j : Nat} {u : T} (t : Turn m w r f j R R' u) (c : Nat → T) : Nul m w R' c ↔ Nul m w R c := by
  obtain ⟨π, h1, h2⟩ := t.ord
  have lead : (sm w fun x => R' r x * c x) = u * sm w fun x => R f x * c x := by
    rw [← sm_mul_left]
    exact sm_congr fun x hx => by rw [t.lead x hx]; grind
  have other : ∀ i, i < m → i ≠ r → (sm w fun x => R' i x * c x) = (sm w fun x => R (π i) x * c x) - R (π i) j * u * sm w fun x => R f x * c x := fun i hi hr => by
    have := (h1 i hi hr).2.2.2.2
    rw [sm_congr (g := fun x => R (π i) x * c x + -(R (π i) j * u) * (R f x * c x)) fun x hx => by rw [this x hx]; grind, sm_add, sm_mul_left]
    grind
  have inv := t.inv
  constructor
  · intro h
    have hf : (sm w fun x => R f x * c x) = 0 := by
      have := h r (Nat.lt_of_le_of_lt t.rr t.fm)
      rw [lead] at this
      have e : R f j * (u * sm w fun x => R f x * c x) = 0 := by rw [this]; grind
      have e2 : R f j * (u * sm w fun x => R f x * c x) = (R f j * u) * sm w fun x => R f x * c x := by grind
      rw [e2, inv] at e
      grind
    intro l hl
    by_cases e : l = f
    · rw [e]; exact hf
    · obtain ⟨i, hi, hr, rfl⟩ := h2 l hl e
      have := h i hi
      rw [other i hi hr, hf] at this
      grind
  · intro h l hl
    by_cases e : l = r
    · rw [e, lead, h f t.fm]; grind
    · rw [other l hl e, h f t.fm, h _ (h1 l hl e).1]; grind
theorem Turn.ech {j f : Nat} {u : T} (t : Turn m w p.length f j R R' u) (hj : j < w) (h : Ech m R j p) : Ech m R' (j + 1) (p ++ [j]) := by
  obtain ⟨π, h1, _⟩ := t.ord
  have inv := t.inv
  have zf : ∀ x, x < j → R f x = 0 := fun x hx => h.low f t.fm t.rr x hx
  refine .piv (h.congr fun l hl x hx => ?_) (Nat.lt_of_le_of_lt t.rr t.fm) fun l hl => ?_
  · by_cases e : l = p.length
    · rw [e, t.lead x (by omega), zf x hx, h.low p.length (by omega) (Nat.le_refl _) x hx]; grind
    · obtain ⟨a1, a2, a3, a4, a5⟩ := h1 l hl e
      rw [a5 x (by omega), zf x hx]
      by_cases c : l < p.length
      · rw [a4 c]; grind
      · rw [h.low _ a1 (a3 (by omega)) x hx, h.low l hl (by omega) x hx]; grind
  · by_cases e : l = p.length
    · rw [e, t.lead j hj, if_pos rfl]; grind
    · obtain ⟨a1, a2, a3, a4, a5⟩ := h1 l hl e
      rw [a5 j hj, if_neg e]
      grind
theorem cmb_apply (hp : ∀ x ∈ p, x < n) (a v : Nat → T) : (sm n fun x => a x * cmb p v x) = sm p.length fun i => a (p.getD i 0) * v i := by
  unfold cmb
  rw [sm_congr (g := fun x => sm p.length fun i => if p[i]? = some x then a x * v i else 0) fun x _ => by rw [← sm_mul_left]; exact sm_congr fun i _ => by split <;> grind, sm_comm]
  refine sm_congr fun i hi => ?_
  have e : p[i]? = some p[i] := List.getElem?_eq_getElem hi
  rw [sm_one (hp p[i] (List.getElem_mem hi)) fun x _ hne => by rw [e, if_neg fun z => hne (Option.some.inj z).symm], e, if_pos rfl, List.getD_eq_getElem?_getD, e]
  rfl
/-- a matrix out of its columns of the pivots -/
theorem Ech.factor (h : Ech m R n p) (hN : ∀ v, Nul m n R v ↔ Nul m n A v) {i x : Nat} (hi : i < m) (hx : x < n) : (sm p.length fun j => A i (p.getD j 0) * R j x) = A i x := by
  have hz : Nul m n R fun y => (if y = x then 1 else 0) + -1 * cmb p (fun j => R j x) y := fun l hl => by
    rw [sm_congr (g := fun y => R l y * (if y = x then 1 else 0) + -1 * (R l y * cmb p (fun j => R j x) y)) fun y _ => by grind, sm_add, sm_mul_left, cmb_sum h _ hl, sm_one hx fun y _ hne => by rw [if_neg hne]; grind, if_pos rfl]
    by_cases c : l < p.length
    · rw [if_pos c]; grind
    · rw [if_neg c, h.low l hl (by omega) x hx]; grind
  have := (hN _).mp hz i hi
  rw [sm_congr (g := fun y => A i y * (if y = x then 1 else 0) + -1 * (A i y * cmb p (fun j => R j x) y)) fun y _ => by grind, sm_add, sm_mul_left, cmb_apply h.lt, sm_one hx fun y _ hne => by rw [if_neg hne]; grind, if_pos rfl] at this
  grind
end
/-! ### lists of rows in the store -/
/-- the cell n holds m rows of w values, the cells rf i; all of them from the b-th cell on -/
structure RowsAt (k : Bk) (S : Sto) (n m w b : Nat) (rf : Nat → Nat) (A : Mt (.b k)) : Prop where
  top : S[n]? = some (.lst ((List.range m).map fun i => .ref (rf i)))
  row : ∀ i, i < m → S[rf i]? = some (.lst ((Dk.b k).vs w (A i)))
  inj : ∀ i, i < m → ∀ j, j < m → rf i = rf j → i = j
  off : ∀ i, i < m → rf i ≠ n ∧ b ≤ rf i
  bn : b ≤ n
theorem take_set_ge {S : Sto} {b n : Nat} {c : Cel} (h : b ≤ n) : (S.set n c).take b = S.take b := by
  rw [List.take_set, List.set_eq_of_length_le (by rw [List.length_take]; omega)]
theorem take_app {S g : Sto} {b : Nat} (h : b ≤ S.length) : (S ++ g).take b = S.take b := by
  rw [List.take_append, show b - S.length = 0 by omega, List.take_zero, List.append_nil]
theorem take_split {S S' : Sto} {b : Nat} (hb : b ≤ S.length) (h : S'.take b = S.take b) : ∃ g, S' = S.take b ++ g := ⟨S'.drop b, by rw [← h, List.take_append_drop]⟩
section
variable {k : Bk} {S : Sto} {n m w b : Nat} {rf : Nat → Nat} {A A' : Mt (.b k)}
theorem RowsAt.lt (h : RowsAt k S n m w b rf A) : n < S.length := (List.getElem?_eq_some_iff.mp h.top).1
theorem RowsAt.rlt (h : RowsAt k S n m w b rf A) {i : Nat} (hi : i < m) : rf i < S.length := (List.getElem?_eq_some_iff.mp (h.row i hi)).1
theorem RowsAt.congr (h : RowsAt k S n m w b rf A) (e : ∀ i, i < m → ∀ j, j < w → A' i j = A i j) : RowsAt k S n m w b rf A' :=
  ⟨h.top, fun i hi => by rw [h.row i hi, Dk.vs_congr (e i hi)], h.inj, h.off, h.bn⟩
/-- a row is written -/
theorem RowsAt.put (h : RowsAt k S n m w b rf A) {i : Nat} (hi : i < m) (v : Vc (.b k)) : RowsAt k (S.set (rf i) (.lst ((Dk.b k).vs w v))) n m w b rf fun l => if l = i then v else A l := by
  refine ⟨?_, fun l hl => ?_, h.inj, h.off, h.bn⟩
  · rw [List.getElem?_set_ne (h.off i hi).1]; exact h.top
  · by_cases e : l = i
    · subst e
      rw [List.getElem?_set_self (h.rlt hi), if_pos rfl]
    · rw [List.getElem?_set_ne fun z => e (h.inj l hl i hi z.symm), if_neg e]
      exact h.row l hl
/-- other cells are written, or made -/
theorem RowsAt.other (h : RowsAt k S n m w b rf A) {S' : Sto} (e : ∀ x, x = n ∨ (∃ i, i < m ∧ x = rf i) → S'[x]? = S[x]?) : RowsAt k S' n m w b rf A :=
  ⟨by rw [e n (.inl rfl)]; exact h.top, fun i hi => by rw [e _ (.inr ⟨i, hi, rfl⟩)]; exact h.row i hi, h.inj, h.off, h.bn⟩
theorem RowsAt.app (h : RowsAt k S n m w b rf A) (g : Sto) : RowsAt k (S ++ g) n m w b rf A := h.other fun x hx => by
  refine List.getElem?_append_left ?_
  rcases hx with rfl | ⟨i, hi, rfl⟩
  · exact h.lt
  · exact h.rlt hi
theorem RowsAt.set (h : RowsAt k S n m w b rf A) {x : Nat} {c : Cel} (hn : x ≠ n) (hr : ∀ i, i < m → rf i ≠ x) : RowsAt k (S.set x c) n m w b rf A := h.other fun y hy => by
  refine List.getElem?_set_ne ?_
  rcases hy with rfl | ⟨i, hi, rfl⟩
  · exact hn
  · exact fun z => hr i hi z.symm
/-- a new row in the place of an old one -/
theorem RowsAt.fresh (h : RowsAt k S n m w b rf A) {i : Nat} (hi : i < m) (v : Vc (.b k)) :
    RowsAt k ((S ++ [Cel.lst ((Dk.b k).vs w v)]).set n (.lst (((List.range m).map fun i => D.ref (rf i)).set i (.ref S.length)))) n m w b (fun l => if l = i then S.length else rf l) fun l => if l = i then v else A l := by
  have hlt := h.lt
  have hlen : (S ++ [Cel.lst ((Dk.b k).vs w v)]).length = S.length + 1 := by rw [List.length_append]; rfl
  refine ⟨?_, fun l hl => ?_, fun l hl l' hl' e => ?_, fun l hl => ?_, h.bn⟩
  · rw [List.getElem?_set_self (by omega)]
    congr 2
    refine List.ext_getElem? fun l => ?_
    rw [List.getElem?_set]
    by_cases e : i = l
    · subst e
      rw [if_pos rfl, if_pos (by rw [List.length_map, List.length_range]; exact hi), List.getElem?_map, List.getElem?_range hi]
      show _ = some (D.ref (if i = i then S.length else rf i))
      rw [if_pos rfl]
    · rw [if_neg e, List.getElem?_map, List.getElem?_map]
      cases z : (List.range m)[l]? with
      | none => rfl
      | some x =>
        obtain ⟨h1, h2⟩ := List.getElem?_eq_some_iff.mp z
        rw [List.getElem_range] at h2
        subst h2
        show some (D.ref (rf l)) = some (D.ref (if l = i then S.length else rf l))
        rw [if_neg (Ne.symm e)]
  · by_cases e : l = i
    · rw [if_pos e, if_pos e, List.getElem?_set_ne (by omega), last_cell]
    · rw [if_neg e, if_neg e, List.getElem?_set_ne (Ne.symm (h.off l hl).1), List.getElem?_append_left (h.rlt hl)]
      exact h.row l hl
  · by_cases e1 : l = i <;> by_cases e2 : l' = i
    · rw [e1, e2]
    · rw [if_pos e1, if_neg e2] at e
      have := h.rlt hl'; omega
    · rw [if_neg e1, if_pos e2] at e
      have := h.rlt hl; omega
    · rw [if_neg e1, if_neg e2] at e
      exact h.inj l hl l' hl' e
  · by_cases e : l = i
    · rw [if_pos e]
      have := h.bn
      omega
    · rw [if_neg e]
      exact h.off l hl
def swp (r f i : Nat) : Nat := if i = f then r else if i = r then f else i
theorem swp_lt {r f i m : Nat} (hr : r < m) (hf : f < m) (hi : i < m) : swp r f i < m := by
  unfold swp
  split
  · exact hr
  · split
    · exact hf
    · exact hi
theorem swp_swp {r f i : Nat} : swp r f (swp r f i) = i := by
  unfold swp
  by_cases h1 : i = f
  · subst h1
    rw [if_pos rfl]
    by_cases h2 : r = i
    · rw [if_pos h2, h2]
    · rw [if_neg h2, if_pos rfl]
  · rw [if_neg h1]
    by_cases h2 : i = r
    · rw [if_pos h2, if_pos rfl, h2]
    · rw [if_neg h2, if_neg h1, if_neg h2]
/-- two rows change places -/
theorem RowsAt.swap (h : RowsAt k S n m w b rf A) {r f : Nat} (hr : r < m) (hf : f < m) :
    RowsAt k (S.set n (.lst ((((List.range m).map fun i => D.ref (rf i)).set r (.ref (rf f))).set f (.ref (rf r))))) n m w b (fun l => rf (swp r f l)) fun l => A (swp r f l) := by
  refine ⟨?_, fun l hl => ?_, fun l hl l' hl' e => ?_, fun l hl => h.off _ (swp_lt hr hf hl), h.bn⟩
  · rw [List.getElem?_set_self h.lt]
    congr 2
    refine List.ext_getElem? fun l => ?_
    rw [List.getElem?_set, List.getElem?_set, List.length_set, List.length_map, List.length_range, List.getElem?_map, List.getElem?_map]
    by_cases hl : l < m
    · rw [List.getElem?_range hl]
      show _ = some (D.ref (rf (swp r f l)))
      unfold swp
      by_cases e1 : l = f
      · rw [if_pos e1.symm, if_pos hf, if_pos e1]
      · rw [if_neg (Ne.symm e1), if_neg e1]
        by_cases e2 : l = r
        · rw [if_pos e2.symm, if_pos hr, if_pos e2]
        · rw [if_neg (Ne.symm e2), if_neg e2]
          rfl
    · rw [if_neg (by omega), if_neg (by omega), List.getElem?_eq_none (by rw [List.length_range]; omega)]
      rfl
  · rw [List.getElem?_set_ne (Ne.symm (h.off _ (swp_lt hr hf hl)).1)]
    exact h.row _ (swp_lt hr hf hl)
  · have := h.inj _ (swp_lt hr hf hl) _ (swp_lt hr hf hl') e
    rw [← swp_swp (r := r) (f := f) (i := l), this, swp_swp]
theorem refs_at {rf : Nat → Nat} {m i : Nat} (hi : i < m) : L2.atI ((List.range m).map fun i => D.ref (rf i)) (i : Nat) = some (.ref (rf i)) := atI_of (by omega) (by rw [Int.toNat_natCast, List.getElem?_map, List.getElem?_range hi]; rfl)
theorem refs_len {rf : Nat → Nat} {m : Nat} : ((List.range m).map fun i => D.ref (rf i)).length = m := by rw [List.length_map, List.length_range]
end
/-! ### a multiple of a row is added to another one -/
def a_addrow : ASp := fun ds S Q _ => ∃ (k : Bk) (n m w b : Nat) (rf : Nat → Nat) (A : Mt (.b k)) (to row : Nat) (x : k.T) (e ex e' : Nat), ds = [k.dom, .ref n, .int (to : Nat), k.enc x, .int (row : Nat)] ∧ k.ok ∧ RowsAt k S n m w b rf A ∧ to < m ∧ row < m ∧ to ≠ row ∧ (Dk.b k).Has ex 1 x ∧
  (Dk.b k).VHas e 1 w (A to) ∧ (Dk.b k).VHas e' 1 w (A row) ∧ e + ex + e' + 2 < 45000000 ∧ ((Dk.b k).VHas (e + ex + e' + 2) 1 w (fun j => A to j + x * A row j) → Q .non (S.set (rf to) (.lst ((Dk.b k).vs w fun j => A to j + x * A row j))))
theorem len_add_row : ∀ ds S Q XX, a_addrow ds S Q XX → ds.length = 5 := by rintro ds S Q XX ⟨_, _, _, _, _, _, _, _, _, _, _, _, _, rfl, _⟩; rfl
/-! ### elimination -/
/-- how large the entries are behind t pivots -/
abbrev elE (e t : Nat) : Nat := (e + 1) * 4 ^ t - 1
theorem elE_step {e t : Nat} : elE e (t + 1) = 4 * elE e t + 3 := by
  show (e + 1) * 4 ^ (t + 1) - 1 = 4 * ((e + 1) * 4 ^ t - 1) + 3
  have : 0 < (e + 1) * 4 ^ t := Nat.mul_pos (by omega) (Nat.pow_pos (by decide))
  rw [Nat.pow_succ, ← Nat.mul_assoc]
  omega
theorem elE_mono {e s t : Nat} (h : s ≤ t) : elE e s ≤ elE e t := by
  have := Nat.mul_le_mul_left (e + 1) (Nat.pow_le_pow_right (show 0 < 4 by decide) h)
  show _ - 1 ≤ _ - 1
  omega
theorem elE_zero {e : Nat} : elE e 0 = e := by show (e + 1) * 4 ^ 0 - 1 = e; rw [Nat.pow_zero]; omega
theorem inv_has {k : Bk} (fl : k.fld) {x u : k.T} {e : Nat} (h : (Dk.b k).Has e 1 x) (hu : x * u = 1) : (Dk.b k).Has e 1 u := by
  obtain ⟨z, hz, f⟩ := h
  have hz : z = x := hz
  subst hz
  exact ⟨u, rfl, f.inv fl hu⟩
theorem inv_ok {k : Bk} {x : k.T} {e : Nat} (h : (Dk.b k).Has e 1 x) (he : e < 45000000) : k.InvOk x := by
  obtain ⟨z, hz, f⟩ := h
  have hz : z = x := hz
  subst hz
  exact Bk.InvOk_of f (by omega) (by omega)
theorem has_neg {k : Dk} {e L : Nat} {x : k.R} (h : k.Has e L x) : k.Has e L (-x) := by
  obtain ⟨z, hz, f⟩ := h
  obtain ⟨y, hy⟩ := k.has_neg z
  exact ⟨y, by rw [hy, hz], f.neg hy⟩
/-- the places from r on that are not zero -/
def nzs {k : Bk} (R : Mt (.b k)) (r i j : Nat) : List Nat := ((List.range i).map fun t => r + t).filter fun l => decide (R l j ≠ 0)
theorem nzs_succ {k : Bk} {R : Mt (.b k)} {r i j : Nat} : nzs R r (i + 1) j = nzs R r i j ++ if R (r + i) j ≠ 0 then [r + i] else [] := by
  unfold nzs
  rw [List.range_succ, List.map_append, List.filter_append]
  congr 1
  show List.filter _ [r + i] = _
  rw [List.filter_cons, List.filter_nil]
  by_cases h : R (r + i) j = 0
  · rw [if_neg (by rw [decide_eq_false (by rw [h]; exact fun z => z rfl)]; decide), if_neg fun z => z h]
  · rw [if_pos (decide_eq_true h), if_pos h]
theorem nzs_nil {k : Bk} {R : Mt (.b k)} {r i j : Nat} (h : nzs R r i j = []) : ∀ l, r ≤ l → l < r + i → R l j = 0 := by
  intro l h1 h2
  unfold nzs at h
  rw [List.filter_eq_nil_iff] at h
  have := h l (List.mem_map.mpr ⟨l - r, List.mem_range.mpr (by omega), by omega⟩)
  by_cases z : R l j = 0
  · exact z
  · exact absurd (decide_eq_true z) this
theorem nzs_cons {k : Bk} {R : Mt (.b k)} {r i j f : Nat} {l : List Nat} (h : nzs R r i j = f :: l) : r ≤ f ∧ f < r + i ∧ R f j ≠ 0 := by
  have hf : f ∈ nzs R r i j := by rw [h]; exact .head _
  unfold nzs at hf
  obtain ⟨h1, h2⟩ := List.mem_filter.mp hf
  obtain ⟨t, ht, rfl⟩ := List.mem_map.mp h1
  have := List.mem_range.mp ht
  exact ⟨by omega, by omega, of_decide_eq_true h2⟩
def nint (n : Nat) : D := .int (n : Nat)
def a_elim (e : XN → Value) : ASp := fun ds S Q _ => ∃ (k : Bk) (n m w c b : Nat) (rf : Nat → Nat) (A : Mt (.b k)) (e1 : Nat), ds = [k.dom, .ref n, nint c] ∧ k.fld ∧ RowsAt k S n m w b rf A ∧ c ≤ w ∧ m < 1000000 ∧ w < 1000000 ∧ (Dk.b k).MHas e1 1 m w A ∧ elE e1 m < 10000000 ∧
  ∀ (S' : Sto) (rf' : Nat → Nat) (R : Mt (.b k)) (p : List Nat), RowsAt k S' n m w b rf' R → S'.take b = S.take b → Ech m R c p → (∀ v, Nul m w R v ↔ Nul m w A v) → (Dk.b k).MHas (elE e1 p.length) 1 m w R → Q (.tup (p.map nint)) S'
theorem len_eliminate {e : XN → Value} : ∀ ds S Q XX, a_elim e ds S Q XX → ds.length = 3 := by rintro ds S Q XX ⟨_, _, _, _, _, _, _, _, _, rfl, _⟩; rfl
/-! ### matrices beside the identity -/
theorem sm_split {R : Type} [Lean.Grind.CommRing R] (n m : Nat) (f : Nat → R) : sm (n + m) f = sm n f + sm m fun j => f (n + j) := by
  induction m with
  | zero => simp only [sm, Nat.add_zero]; grind
  | succ m ih =>
    show sm (n + m) f + f (n + m) = _
    rw [ih]
    simp only [sm]
    grind
def aug {R : Type} [Lean.Grind.CommRing R] (n : Nat) (A : Nat → Nat → R) : Nat → Nat → R := fun i j => if j < n then A i j else mid i (j - n)
theorem aug_l {R : Type} [Lean.Grind.CommRing R] {n : Nat} {A : Nat → Nat → R} {i j : Nat} (h : j < n) : aug n A i j = A i j := if_pos h
theorem aug_r {R : Type} [Lean.Grind.CommRing R] {n : Nat} {A : Nat → Nat → R} {i j : Nat} : aug n A i (n + j) = mid i j := by unfold aug; rw [if_neg (by omega), Nat.add_sub_cancel_left]
section
open Lean.Grind
variable {T : Type} [CommRing T] {m n : Nat} {A R : Nat → Nat → T}
/-- what the null vectors of a matrix beside the identity tell -/
theorem aug_sum (c : Nat → T) {l : Nat} (hl : l < m) : (sm (n + m) fun x => aug n A l x * c x) = (sm n fun x => A l x * c x) + c (n + l) := by
  rw [sm_split, sm_congr (g := fun x => A l x * c x) fun x hx => by rw [aug_l hx]]
  congr 1
  rw [sm_congr (g := fun j => mid l j * c (n + j)) fun j _ => by rw [aug_r], sm_one hl fun j _ hj => by unfold mid; rw [if_neg (Ne.symm hj)]; grind]
  unfold mid
  rw [if_pos rfl]
  grind
theorem aug_left (h : ∀ c, Nul m (n + m) R c ↔ Nul m (n + m) (aug n A) c) (c : Nat → T) : Nul m n R c ↔ Nul m n A c := by
  have key : ∀ (B : Nat → Nat → T) (l : Nat), (sm (n + m) fun x => B l x * if x < n then c x else 0) = sm n fun x => B l x * c x := fun B l => by
    rw [sm_split, sm_congr (g := fun x => B l x * c x) fun x hx => by rw [if_pos hx], sm_congr (g := fun _ => 0) (n := m) fun x hx => by rw [if_neg (by omega)]; grind, sm_zero]
    grind
  have h1 := h fun x => if x < n then c x else 0
  constructor
  · intro g l hl
    have := h1.mp (fun l hl => by rw [key]; exact g l hl) l hl
    rw [aug_sum _ hl, if_neg (by omega), sm_congr (g := fun x => A l x * c x) fun x hx => by rw [if_pos hx]] at this
    grind
  · intro g l hl
    have := h1.mpr (fun l hl => by rw [aug_sum _ hl, if_neg (by omega), sm_congr (g := fun x => A l x * c x) fun x hx => by rw [if_pos hx], g l hl]; grind) l hl
    rwa [key] at this
theorem aug_mul (h : ∀ c, Nul m (n + m) R c ↔ Nul m (n + m) (aug n A) c) {i x : Nat} (hi : i < m) (hx : x < n) : mmul m (fun i j => R i (n + j)) A i x = R i x := by
  have h1 := (h fun y => if y < n then (if y = x then 1 else 0) else -A (y - n) x).mpr fun l hl => by
    rw [aug_sum _ hl, if_neg (by omega), Nat.add_sub_cancel_left, sm_congr (g := fun y => A l y * if y = x then 1 else 0) fun y hy => by (try dsimp only); rw [if_pos hy], sm_one hx fun y _ hne => by (try dsimp only); rw [if_neg hne]; grind, if_pos rfl]
    grind
  have := h1 i hi
  rw [sm_split, sm_congr (g := fun y => R i y * if y = x then 1 else 0) fun y hy => by (try dsimp only); rw [if_pos hy], sm_one hx fun y _ hne => by (try dsimp only); rw [if_neg hne]; grind, if_pos rfl,
    sm_congr (g := fun j => -1 * (R i (n + j) * A j x)) (n := m) fun j _ => by (try dsimp only); rw [if_neg (by omega), Nat.add_sub_cancel_left]; grind, sm_mul_left] at this
  show (sm m fun j => R i (n + j) * A j x) = _
  grind
theorem aug_inj (h : ∀ c, Nul m (n + m) R c ↔ Nul m (n + m) (aug n A) c) {c : Nat → T} (hc : Nul m m (fun i j => R i (n + j)) c) : ∀ x, x < m → c x = 0 := fun x hx => by
  have h1 := (h fun y => if y < n then 0 else c (y - n)).mp fun l hl => by
    rw [sm_split, sm_congr (g := fun _ => 0) fun y hy => by (try dsimp only); rw [if_pos hy]; grind, sm_zero, sm_congr (g := fun j => R l (n + j) * c j) (n := m) fun j _ => by (try dsimp only); rw [if_neg (by omega), Nat.add_sub_cancel_left]]
    have := hc l hl
    rw [this]
    grind
  have := h1 x hx
  rw [aug_sum _ hx] at this
  try dsimp only at this
  rw [if_neg (by omega), Nat.add_sub_cancel_left, sm_congr (g := fun _ => 0) fun y hy => by (try dsimp only); rw [if_pos hy]; grind, sm_zero] at this
  grind
/-- no vector but zero is taken to zero -/
def Inj (n : Nat) (A : Nat → Nat → T) : Prop := ∀ c, Nul n n A c → ∀ x, x < n → c x = 0
theorem inj_of_left {B : Nat → Nat → T} (h : ∀ i, i < n → ∀ j, j < n → mmul n B A i j = mid i j) : Inj n A := fun c hc x hx => by
  have e : c x = sm n fun y => mid x y * c y := by
    rw [sm_one hx fun y _ hne => by unfold mid; rw [if_neg (Ne.symm hne)]; grind]
    unfold mid
    rw [if_pos rfl]
    grind
  rw [e, sm_congr (g := fun y => mmul n B A x y * c y) fun y hy => by rw [h x hx y hy]]
  unfold mmul
  rw [sm_congr (g := fun y => sm n fun l => B x l * (A l y * c y)) fun y _ => by rw [← sm_mul_right]; exact sm_congr fun l _ => by grind, sm_comm,
    sm_congr (g := fun _ => 0) fun l hl => by rw [sm_mul_left, hc l hl]; grind, sm_zero]
/-- a left inverse of what has no kernel is a right one -/
theorem right_of_left {B : Nat → Nat → T} (h : ∀ i, i < n → ∀ j, j < n → mmul n B A i j = mid i j) (hB : Inj n B) : ∀ i, i < n → ∀ j, j < n → mmul n A B i j = mid i j := fun i hi j hj => by
  have z : Nul n n B fun y => mmul n A B y j - mid y j := fun l hl => by
    have e1 : (sm n fun y => B l y * (mmul n A B y j - mid y j)) = mmul n B (mmul n A B) l j - mmul n B mid l j := by
      unfold mmul
      rw [sm_congr (g := fun y => B l y * (sm n fun t => A y t * B t j) + -1 * (B l y * mid y j)) fun y _ => by grind, sm_add, sm_mul_left]
      grind
    rw [e1, ← mmul_assoc, mmul_id_right hj, mmul_congr (A' := mid) (B' := B) (fun t ht => h l hl t ht) (fun _ _ => rfl), mmul_id_left hl]
    grind
  have := hB _ z i hi
  grind
end
theorem vs_take {k : Dk} {n m : Nat} {v : Vc k} : (k.vs (n + m) v).take n = k.vs n v := by
  unfold Dk.vs
  rw [← List.map_take, List.take_range, Nat.min_eq_left (by omega)]
theorem vs_drop {k : Dk} {n m : Nat} {v : Vc k} : (k.vs (n + m) v).drop n = k.vs m fun j => v (n + j) := by
  refine List.ext_getElem? fun l => ?_
  rw [List.getElem?_drop]
  by_cases h : l < m
  · rw [Dk.vs_get h, Dk.vs_get (by omega)]
  · rw [List.getElem?_eq_none (by rw [Dk.vs_len]; omega), List.getElem?_eq_none (by rw [Dk.vs_len]; omega)]
theorem vs_aug {k : Dk} {n m : Nat} {A : Mt k} {i : Nat} : k.vs n (A i) ++ k.vs m (mid i) = k.vs (n + m) (aug n A i) := by
  rw [← List.take_append_drop n (k.vs (n + m) (aug n A i)), vs_take, vs_drop]
  congr 1
  · exact Dk.vs_congr fun j hj => (aug_l hj).symm
  · exact Dk.vs_congr fun j _ => aug_r.symm
/-- what makes no cells known to others: the store ahead stays -/
def Kept (S S' : Sto) : Prop := ∃ g, S' = S ++ g
theorem Kept.refl {S : Sto} : Kept S S := ⟨[], by rw [List.append_nil]⟩
theorem Kept.trans {S S1 S2 : Sto} (a : Kept S S1) (b : Kept S1 S2) : Kept S S2 := by
  obtain ⟨g, rfl⟩ := a
  obtain ⟨g2, rfl⟩ := b
  exact ⟨g ++ g2, by rw [List.append_assoc]⟩
theorem Kept.of_take {S S1 S' : Sto} (a : Kept S S1) (h : S'.take S.length = S1.take S.length) : Kept S S' := by
  obtain ⟨g, rfl⟩ := a
  rw [List.take_left] at h
  refine ⟨S'.drop S.length, ?_⟩
  conv => rhs; rw [← h]
  rw [h]
  conv => rhs; lhs; rw [← h]
  rw [List.take_append_drop]
theorem gives_kept {Q : VKD} {S S' : Sto} {d : D} (n : Nat) (hC : Closed S) (h : Kept S S') (hd : d.cl n = true) (q : Q d S) : Gives Q S.length d S' := by
  obtain ⟨g, rfl⟩ := h
  exact gives_cl hC hd q
theorem givesX_kept {X : XKD} {S S' : Sto} {c : Value} (hC : Closed S) (h : Kept S S') (q : X c none S) : GivesX X S.length c none S' := by
  obtain ⟨g, rfl⟩ := h
  exact .inr ⟨rfl, S, g, rfl, Nat.le_refl _, hC, q⟩
def a_withid (e : XN → Value) : ASp := fun ds S Q _ => ∃ (k : Bk) (m n : Nat) (A : Mt (.b k)), ds = [k.dom, (Dk.b k).em m n A] ∧ k.fld ∧ m < 1000000 ∧ n < 1000000 ∧
  ∀ (S' : Sto) (N : Nat) (rf : Nat → Nat), RowsAt k S' N m (n + m) S.length rf (aug n A) → Kept S S' → Q (.ref N) S'
theorem len_with_identity {e : XN → Value} : ∀ ds S Q XX, a_withid e ds S Q XX → ds.length = 2 := by rintro ds S Q XX ⟨_, _, _, _, rfl, _⟩; rfl
/-- cells made one after the other -/
theorem RowsAt.made {k : Bk} {S : Sto} {m w : Nat} {A : Mt (.b k)} : RowsAt k (S ++ (List.range m).map (fun l => Cel.lst ((Dk.b k).vs w (A l))) ++ [.lst ((List.range m).map fun l => .ref (S.length + l))]) (S.length + m) m w S.length (fun l => S.length + l) A := by
  have hl : (S ++ (List.range m).map (fun l => Cel.lst ((Dk.b k).vs w (A l)))).length = S.length + m := by rw [List.length_append, List.length_map, List.length_range]
  refine ⟨?_, fun i hi => ?_, fun i _ j _ h => by omega, fun i hi => by omega, by omega⟩
  · rw [← hl, last_cell]
  · rw [List.getElem?_append_left (by omega), List.getElem?_append_right (by omega), Nat.add_sub_cancel_left, List.getElem?_map, List.getElem?_range hi]
    rfl
theorem made_kept {S : Sto} {G : List Cel} {c : Cel} : Kept S (S ++ G ++ [c]) := ⟨G ++ [c], by rw [List.append_assoc]⟩
/-! ### pivots, rank -/
def ElOk (k : Bk) (m n : Nat) (A : Mt (.b k)) (e1 : Nat) : Prop := k.fld ∧ m < 1000 ∧ n < 1000 ∧ (Dk.b k).MHas e1 1 m n A ∧ elE e1 m < 10000000
def a_pivots (e : XN → Value) : ASp := fun ds S Q _ => ∃ (k : Bk) (m n : Nat) (A : Mt (.b k)) (e1 : Nat), ds = [k.dom, (Dk.b k).em m n A] ∧ ElOk k m n A e1 ∧
  ∀ (S' : Sto) (N : Nat) (rf : Nat → Nat) (R : Mt (.b k)) (p : List Nat), RowsAt k S' N m n S.length rf R → Kept S S' → Ech m R n p → (∀ v, Nul m n R v ↔ Nul m n A v) → (Dk.b k).MHas (elE e1 p.length) 1 m n R → Q (.tup [.ref N, .tup (p.map nint)]) S'
theorem len_pivots_of {e : XN → Value} : ∀ ds S Q XX, a_pivots e ds S Q XX → ds.length = 2 := by rintro ds S Q XX ⟨_, _, _, _, _, rfl, _⟩; rfl
def a_rank (e : XN → Value) : ASp := fun ds S Q _ => ∃ (k : Bk) (m n : Nat) (A : Mt (.b k)) (e1 : Nat), ds = [k.dom, (Dk.b k).em m n A] ∧ ElOk k m n A e1 ∧ ∀ (R : Mt (.b k)) (p : List Nat), Ech m R n p → (∀ v, Nul m n R v ↔ Nul m n A v) → Q (.int (p.length : Nat)) S
theorem len_rank {e : XN → Value} : ∀ ds S Q XX, a_rank e ds S Q XX → ds.length = 2 := by rintro ds S Q XX ⟨_, _, _, _, _, rfl, _⟩; rfl
theorem nints_cl (p : List Nat) : (D.tup (p.map nint)).cl 1 = true := tup_cl fun d hd => by
  obtain ⟨x, _, rfl⟩ := List.mem_map.mp hd
  rfl
def a_colb (e : XN → Value) : ASp := fun ds S Q _ => ∃ (k : Bk) (m n : Nat) (A : Mt (.b k)) (e1 : Nat), ds = [k.dom, (Dk.b k).em m n A] ∧ ElOk k m n A e1 ∧ ∀ (R : Mt (.b k)) (p : List Nat), Ech m R n p → (∀ v, Nul m n R v ↔ Nul m n A v) → Q (.tup (p.map nint)) S
theorem len_column_basis {e : XN → Value} : ∀ ds S Q XX, a_colb e ds S Q XX → ds.length = 2 := by rintro ds S Q XX ⟨_, _, _, _, _, rfl, _⟩; rfl
/-! ### the inverse -/
theorem aug_has {k : Bk} (ok : k.ok) {m n e1 : Nat} {A : Mt (.b k)} (h : (Dk.b k).MHas e1 1 m n A) : (Dk.b k).MHas e1 1 m (n + m) (aug n A) := fun i hi j hj => by
  unfold aug
  split
  · rename_i hjn; exact h i hi j hjn
  · exact (mid_has (k := .b k) ok i (j - n)).mono (Nat.zero_le _) (Nat.le_refl _)
/-- the rows of a cell, a part of each -/
theorem rows_part {k : Bk} {S : Sto} {N m w b : Nat} {rf : Nat → Nat} {R : Mt (.b k)} (h : RowsAt k S N m w b rf R) {wg : WG} {wt : WT} {we : WE} {σ : ASt} {Q : List D → Sto → Prop} (f : Nat → D)
    (hs : ∀ i acc (R2 : List D → Sto → Prop), i < m → R2 (acc ++ [f i]) S → lcTurn wg wt we σ (.ref (rf i)) acc S R2) (hq : Q ((List.range m).map f) S) : lcC wg wt we σ Q (.cel N) (cellLen S N) 0 [] S := by
  refine lcc_cut N ((List.range m).map fun i => .ref (rf i)) (fun i acc S' => S' = S ∧ acc = (List.range i).map f) ⟨rfl, rfl⟩ ?_ ?_ ?_
  · rintro i acc S' ⟨rfl, _⟩
    exact h.top
  · rintro i d acc S' R2 hd ⟨rfl, rfl⟩ hR2
    obtain ⟨a, ha, rfl⟩ := map_get hd
    have hi : i < m := by have := (List.getElem?_eq_some_iff.mp ha).1; rwa [List.length_range] at this
    rw [List.getElem?_range hi] at ha
    cases ha
    exact hs i _ R2 hi (hR2 _ _ ⟨rfl, by rw [List.range_succ, List.map_append]; rfl⟩)
  · rintro acc S' ⟨rfl, rfl⟩
    rw [refs_len]
    exact hq
theorem cut_low {k : Dk} {n m : Nat} {v : Vc k} : cutL (k.vs (n + m) v) none (some (n : Int)) = k.vs n v := by
  rw [cutL_to _ (by omega) (by rw [Dk.vs_len]; omega), Int.toNat_natCast, vs_take]
theorem cut_high {k : Dk} {n m : Nat} {v : Vc k} : cutL (k.vs (n + m) v) (some (n : Int)) none = k.vs m fun j => v (n + j) := by
  rw [cutL_from _ (by omega), Int.toNat_natCast, vs_drop]
def a_inverted (e : XN → Value) : ASp := fun ds S Q XX => (∃ (k : Bk) (m n : Nat) (x : D), ds = [k.dom, .tup [.int (m : Nat), .int (n : Nat), x]] ∧ k.fld ∧ m ≠ n ∧ XX (e .shape) none S) ∨
  (∃ (k : Bk) (n : Nat) (A : Mt (.b k)) (e1 : Nat), ds = [k.dom, (Dk.b k).em n n A] ∧ ElOk k n n A e1 ∧ (¬Inj n A → XX (e .sing) none S) ∧
    (Inj n A → ∀ B : Mt (.b k), (Dk.b k).MHas (elE e1 n) 1 n n B → (∀ i, i < n → ∀ j, j < n → mmul n B A i j = mid i j) → (∀ i, i < n → ∀ j, j < n → mmul n A B i j = mid i j) → Q ((Dk.b k).em n n B) S))
theorem len_inverted {e : XN → Value} : ∀ ds S Q XX, a_inverted e ds S Q XX → ds.length = 2 := by rintro ds S Q XX (⟨_, _, _, _, rfl, _⟩ | ⟨_, _, _, _, rfl, _⟩) <;> rfl
/-! ### the reduced form with its transformations -/
def a_reduce (e : XN → Value) : ASp := fun ds S Q _ => ∃ (k : Bk) (m n : Nat) (A : Mt (.b k)) (e1 : Nat), ds = [k.dom, (Dk.b k).em m n A] ∧ ElOk k m n A e1 ∧ elE (elE e1 m) m < 10000000 ∧
  ∀ (R T B : Mt (.b k)) (p : List Nat), Ech m R n p → (∀ v, Nul m n R v ↔ Nul m n A v) → (∀ i, i < m → ∀ x, x < n → mmul m T A i x = R i x) → (∀ i, i < m → ∀ j, j < m → mmul m T B i j = mid i j) → (∀ i, i < m → ∀ j, j < m → mmul m B T i j = mid i j) →
    (Dk.b k).MHas (elE e1 m) 1 m n R → (Dk.b k).MHas (elE e1 m) 1 m m T → (Dk.b k).MHas (elE (elE e1 m) m) 1 m m B → Q (.tup [(Dk.b k).em m n R, (Dk.b k).em m m T, (Dk.b k).em m m B, .tup (p.map nint)]) S
theorem len_reduce {e : XN → Value} : ∀ ds S Q XX, a_reduce e ds S Q XX → ds.length = 2 := by rintro ds S Q XX ⟨_, _, _, _, _, rfl, _⟩; rfl
/-! ### parts of a matrix: numbers in range -/
def a_part2 (e : XN → Value) : ASp := fun ds S Q _ => ∃ (k : Dk) (m n : Nat) (A : Mt k) (l1 l2 : List Nat), ds = [k.em m n A, .fl (l1.map nint), .fl (l2.map nint)] ∧ (∀ x ∈ l1, x < m) ∧ (∀ x ∈ l2, x < n) ∧ l1.length < 1000000 ∧ l2.length < 1000000 ∧
  Q (k.em l1.length l2.length fun i j => A (l1.getD i 0) (l2.getD j 0)) S
theorem len_mpart {e : XN → Value} : ∀ ds S Q XX, a_part2 e ds S Q XX → ds.length = 3 := by rintro ds S Q XX ⟨_, _, _, _, _, _, rfl, _⟩; rfl
theorem getD_of {l : List Nat} {i x : Nat} (h : l[i]? = some x) : l.getD i 0 = x := by rw [List.getD_eq_getElem?_getD, h]; rfl
theorem lcL_list {σ : ASt} {wg : WG} {wt : WT} {we : WE} {S : Sto} {Q : List D → Sto → Prop} (l : List Nat) (f : Nat → D) (hs : ∀ i x acc (R : List D → Sto → Prop), l[i]? = some x → R (acc ++ [f i]) S → lcTurn wg wt we σ (nint x) acc S R) (hq : Q ((List.range l.length).map f) S) : lcL wg wt we σ Q (l.map nint) [] S := by
  refine lc_cut (l.map nint) (fun i acc S' => S' = S ∧ acc = (List.range i).map f) ⟨rfl, rfl⟩ ?_ ?_
  · rintro i d acc S' R hd ⟨rfl, rfl⟩ hR
    obtain ⟨x, hx, rfl⟩ := map_get hd
    exact hs i x _ R hx (hR _ _ ⟨rfl, by rw [List.range_succ, List.map_append]; rfl⟩)
  · rintro acc S' ⟨rfl, rfl⟩
    rw [List.length_map]
    exact hq
/-! ### two factors -/
def a_factors (e : XN → Value) : ASp := fun ds S Q _ => ∃ (k : Bk) (m n : Nat) (A : Mt (.b k)) (e1 : Nat), ds = [k.dom, (Dk.b k).em m n A] ∧ ElOk k m n A e1 ∧ ∀ (R : Mt (.b k)) (p : List Nat), Ech m R n p → (∀ v, Nul m n R v ↔ Nul m n A v) →
  Q (.tup [(Dk.b k).em m p.length fun i j => A i (p.getD j 0), (Dk.b k).em p.length n R]) S
theorem len_factors {e : XN → Value} : ∀ ds S Q XX, a_factors e ds S Q XX → ds.length = 2 := by rintro ds S Q XX ⟨_, _, _, _, _, rfl, _⟩; rfl
theorem range_nint (m : Nat) : rangeD 0 m = (List.range m).map nint := List.map_congr_left fun i _ => by show D.int (0 + (i : Nat)) = .int (i : Nat); rw [Int.zero_add]
/-! ### determinants -/
section
open Lean.Grind
variable {T : Type} [CommRing T]
def sgn : Nat → T
  | 0 => 1
  | n + 1 => -sgn n
/-- the rows but one -/
def skip (i r : Nat) : Nat := if r < i then r else r + 1
theorem skip_lt {i r k : Nat} (h : r < k) : skip i r < k + 1 := by unfold skip; split <;> omega
theorem skip_ne {i r : Nat} : skip i r ≠ i := by unfold skip; split <;> omega
theorem skip_inj {i r s : Nat} (h : skip i r = skip i s) : r = s := by unfold skip at h; split at h <;> split at h <;> omega
def unsk (i s : Nat) : Nat := if s < i then s else s - 1
theorem skip_unsk {i s : Nat} (h : s ≠ i) : skip i (unsk i s) = s := by
  unfold skip unsk
  by_cases c : s < i
  · rw [if_pos c, if_pos c]
  · rw [if_neg c, if_neg (by omega)]; omega
theorem unsk_lt {i s k : Nat} (h : s ≠ i) (hs : s < k + 1) (hi : i < k + 1) : unsk i s < k := by unfold unsk; split <;> omega
/-- the determinant, along the last column -/
def dt : Nat → (Nat → Nat → T) → T
  | 0, _ => 1
  | k + 1, A => sm (k + 1) fun i => sgn (k - i) * A i k * dt k fun r c => A (skip i r) c
theorem dt_congr {n : Nat} : ∀ {A B : Nat → Nat → T}, (∀ r, r < n → ∀ c, c < n → A r c = B r c) → dt n A = dt n B := by
  induction n with
  | zero => intro A B _; rfl
  | succ k ih =>
    intro A B h
    refine sm_congr fun i hi => ?_
    rw [h i hi k (by omega), ih fun r hr c hc => h _ (skip_lt hr) c (by omega)]
/-- linear in each row -/
theorem dt_lin {n : Nat} (x : T) : ∀ {A B C : Nat → Nat → T} {s : Nat}, s < n → (∀ r, r < n → r ≠ s → ∀ c, c < n → C r c = A r c ∧ C r c = B r c) → (∀ c, c < n → C s c = x * A s c + B s c) → dt n C = x * dt n A + dt n B := by
  induction n with
  | zero => intro A B C s hs; omega
  | succ k ih =>
    intro A B C s hs h hC
    show sm (k + 1) _ = x * sm (k + 1) _ + sm (k + 1) _
    rw [← sm_mul_left, ← sm_add]
    refine sm_congr fun i hi => ?_
    by_cases e : s = i
    · subst e
      have e1 : dt k (fun r c => A (skip s r) c) = dt k fun r c => C (skip s r) c := dt_congr fun r hr c hc => ((h _ (skip_lt hr) skip_ne c (by omega)).1).symm
      have e2 : dt k (fun r c => B (skip s r) c) = dt k fun r c => C (skip s r) c := dt_congr fun r hr c hc => ((h _ (skip_lt hr) skip_ne c (by omega)).2).symm
      rw [e1, e2, hC k (by omega)]
      grind
    · obtain ⟨h1, h2⟩ := h i hi (Ne.symm e) k (by omega)
      have := ih (A := fun r c => A (skip i r) c) (B := fun r c => B (skip i r) c) (C := fun r c => C (skip i r) c) (s := unsk i s) (unsk_lt e hs hi)
        (fun r hr hne c hc => h _ (skip_lt hr) (fun z => hne (skip_inj (z.trans (skip_unsk e).symm))) c (by omega))
        (fun c hc => by rw [skip_unsk e]; exact hC c (by omega))
      rw [this, ← h1]
      have h3 : B i k = C i k := h2.symm
      rw [h3]
      grind
theorem sm_two {n : Nat} {f : Nat → T} {a b : Nat} (ha : a < n) (hb : b < n) (ne : a ≠ b) (h : ∀ i, i < n → i ≠ a → i ≠ b → f i = 0) : sm n f = f a + f b := by
  rw [sm_congr (g := fun i => (if i = b then 0 else f i) + if i = b then f i else 0) fun i _ => by by_cases c : i = b <;> simp [c] <;> grind, sm_add,
    sm_one ha fun i hi c => by by_cases d : i = b <;> simp [d]; exact h i hi c d, sm_one hb fun i _ c => if_neg c, if_neg ne, if_pos rfl]
/-- equal rows, one below the other -/
theorem dt_adj {n : Nat} : ∀ {A : Nat → Nat → T} {r : Nat}, r + 1 < n → (∀ c, c < n → A r c = A (r + 1) c) → dt n A = 0 := by
  induction n with
  | zero => intro A r hr; omega
  | succ k ih =>
    intro A r hr h
    show sm (k + 1) _ = 0
    rw [sm_two (a := r) (b := r + 1) (by omega) hr (by omega) fun i hi ne1 ne2 => ?_]
    · have e : dt k (fun x c => A (skip r x) c) = dt k fun x c => A (skip (r + 1) x) c := dt_congr fun x hx c hc => by
        by_cases e : x = r
        · subst e
          rw [show skip x x = x + 1 by unfold skip; rw [if_neg (by omega)], show skip (x + 1) x = x by unfold skip; rw [if_pos (by omega)]]
          exact (h c (by omega)).symm
        · rw [show skip r x = skip (r + 1) x by unfold skip; split <;> split <;> omega]
      rw [e, h k (by omega), show k - r = (k - (r + 1)) + 1 by omega]
      show -sgn _ * _ * _ + _ = (0 : T)
      grind
    · have e : dt k (fun x c => A (skip i x) c) = 0 := by
        by_cases c1 : r + 1 < i
        · refine ih (r := r) (by omega) fun c hc => ?_
          rw [show skip i r = r by unfold skip; rw [if_pos (by omega)], show skip i (r + 1) = r + 1 by unfold skip; rw [if_pos (by omega)]]
          exact h c (by omega)
        · refine ih (r := r - 1) (by omega) fun c hc => ?_
          rw [show skip i (r - 1) = r by unfold skip; rw [if_neg (by omega)]; omega, show skip i (r - 1 + 1) = r + 1 by unfold skip; rw [if_neg (by omega)]; omega]
          exact h c (by omega)
      rw [e]
      grind
/-- one row in the place of another -/
def put (A : Nat → Nat → T) (r : Nat) (u : Nat → T) : Nat → Nat → T := fun i => if i = r then u else A i
theorem put_same {A : Nat → Nat → T} {r : Nat} {u : Nat → T} : put A r u r = u := if_pos rfl
theorem put_other {A : Nat → Nat → T} {r i : Nat} {u : Nat → T} (h : i ≠ r) : put A r u i = A i := if_neg h
theorem dt_put {n s : Nat} {A : Nat → Nat → T} (hs : s < n) (x : T) (u v : Nat → T) : dt n (put A s fun c => x * u c + v c) = x * dt n (put A s u) + dt n (put A s v) :=
  dt_lin x hs (fun r _ ne c _ => by rw [put_other ne, put_other ne, put_other ne]; exact ⟨rfl, rfl⟩) fun c _ => by rw [put_same, put_same, put_same]
/-- what vanishes on equal rows changes its sign with the rows -/
theorem dt_pol {n r s : Nat} (hr : r < n) (hs : s < n) (ne : r ≠ s) (h0 : ∀ A : Nat → Nat → T, (∀ c, c < n → A r c = A s c) → dt n A = 0) (A : Nat → Nat → T) (u v : Nat → T) : dt n (put (put A r u) s v) = -dt n (put (put A r v) s u) := by
  have z : ∀ w : Nat → T, dt n (put (put A r w) s w) = 0 := fun w => h0 _ fun c _ => by rw [put_same, put_other ne, put_same]
  have e : ∀ a b : Nat → T, put (put A r a) s b = put (put A s b) r a := fun a b => by
    funext i
    unfold put
    by_cases c1 : i = s
    · rw [if_pos c1, if_neg (by omega), if_pos c1]
    · rw [if_neg c1]
      by_cases c2 : i = r
      · rw [if_pos c2, if_pos c2]
      · rw [if_neg c2, if_neg c2, if_neg c1]
  have h1 := z fun c => 1 * u c + v c
  rw [dt_put hs, e, e, dt_put hr, dt_put hr, ← e, ← e, ← e, ← e, z u, z v] at h1
  grind
theorem dt_alt {n : Nat} : ∀ (d r : Nat) (A : Nat → Nat → T), r + d + 1 < n → (∀ c, c < n → A r c = A (r + d + 1) c) → dt n A = 0 := by
  intro d
  induction d with
  | zero => intro r A hr h; exact dt_adj hr h
  | succ d ih =>
    intro r A hr h
    have hp := dt_pol (T := T) (n := n) (r := r + d + 1) (s := r + d + 2) (by omega) hr (by omega) (fun B hB => dt_adj hr hB) A (A (r + d + 1)) (A (r + d + 2))
    have e1 : put (put A (r + d + 1) (A (r + d + 1))) (r + d + 2) (A (r + d + 2)) = A := by
      funext i
      unfold put
      by_cases c1 : i = r + d + 2
      · rw [if_pos c1, c1]
      · rw [if_neg c1]
        by_cases c2 : i = r + d + 1
        · rw [if_pos c2, c2]
        · rw [if_neg c2]
    have e2 : dt n (put (put A (r + d + 1) (A (r + d + 2))) (r + d + 2) (A (r + d + 1))) = 0 := ih r _ (by omega) fun c hc => by
      rw [put_other (by omega), put_other (by omega), put_other (by omega), put_same]
      exact h c hc
    rw [e1, e2] at hp
    grind
/-- equal rows -/
theorem dt_eq {n r s : Nat} {A : Nat → Nat → T} (hr : r < n) (hs : s < n) (ne : r ≠ s) (h : ∀ c, c < n → A r c = A s c) : dt n A = 0 := by
  by_cases c : r < s
  · exact dt_alt (s - r - 1) r A (by omega) fun x hx => by rw [show r + (s - r - 1) + 1 = s by omega]; exact h x hx
  · exact dt_alt (r - s - 1) s A (by omega) fun x hx => by rw [show s + (r - s - 1) + 1 = r by omega]; exact (h x hx).symm
/-- a swap of rows -/
theorem dt_swap {n r s : Nat} {A B : Nat → Nat → T} (hr : r < n) (hs : s < n) (ne : r ≠ s) (h1 : ∀ c, c < n → B r c = A s c) (h2 : ∀ c, c < n → B s c = A r c) (h3 : ∀ i, i < n → i ≠ r → i ≠ s → ∀ c, c < n → B i c = A i c) : dt n B = -dt n A := by
  have hp := dt_pol hr hs ne (fun C hC => dt_eq hr hs ne hC) A (A s) (A r)
  have e1 : dt n (put (put A r (A r)) s (A s)) = dt n A := dt_congr fun i hi c hc => by
    unfold put
    by_cases c1 : i = s
    · rw [if_pos c1, c1]
    · rw [if_neg c1]
      by_cases c2 : i = r
      · rw [if_pos c2, c2]
      · rw [if_neg c2]
  have e2 : dt n (put (put A r (A s)) s (A r)) = dt n B := dt_congr fun i hi c hc => by
    unfold put
    by_cases c1 : i = s
    · rw [if_pos c1, c1, h2 c hc]
    · rw [if_neg c1]
      by_cases c2 : i = r
      · rw [if_pos c2, c2, h1 c hc]
      · rw [if_neg c2, h3 i hi c2 c1 c hc]
  rw [e1, e2] at hp
  exact hp
/-- a multiple of a row added to another -/
theorem dt_addrow {n r s : Nat} {A B : Nat → Nat → T} (hr : r < n) (hs : s < n) (ne : r ≠ s) (x : T) (h1 : ∀ c, c < n → B s c = x * A r c + A s c) (h3 : ∀ i, i < n → i ≠ s → ∀ c, c < n → B i c = A i c) : dt n B = dt n A := by
  have := dt_lin (n := n) x (A := put A s (A r)) (B := A) (C := B) hs (fun i hi n' c hc => by rw [put_other n']; exact ⟨h3 i hi n' c hc, h3 i hi n' c hc⟩) fun c hc => by rw [put_same]; exact h1 c hc
  rw [this, dt_eq (A := put A s (A r)) hr hs ne fun c _ => by rw [put_same, put_other ne]]
  grind
/-- a row times a number -/
theorem dt_scale {n s : Nat} {A B : Nat → Nat → T} (hs : s < n) (x : T) (h1 : ∀ c, c < n → B s c = x * A s c) (h3 : ∀ i, i < n → i ≠ s → ∀ c, c < n → B i c = A i c) : dt n B = x * dt n A := by
  have z : dt n (put A s fun _ => 0) = 0 := by
    have := dt_put (A := A) hs 1 (fun _ => 0) fun _ => 0
    rw [show (fun c : Nat => (1 : T) * 0 + 0) = fun _ => 0 by funext _; grind] at this
    grind
  have := dt_lin (n := n) x (A := A) (B := put A s fun _ => 0) (C := B) hs (fun i hi n' c hc => by rw [put_other n']; exact ⟨h3 i hi n' c hc, h3 i hi n' c hc⟩) fun c hc => by rw [put_same, h1 c hc]; grind
  rw [this, z]
  grind
theorem dt_zrow {n s : Nat} {A : Nat → Nat → T} (hs : s < n) (h : ∀ c, c < n → A s c = 0) : dt n A = 0 := by
  have := dt_scale (A := A) (B := A) hs 0 (fun c hc => by rw [h c hc]; grind) fun _ _ _ _ _ => rfl
  rw [this]
  grind
/-- an upper triangle -/
def pr (n : Nat) (f : Nat → T) : T := match n with
  | 0 => 1
  | n + 1 => pr n f * f n
theorem dt_up {n : Nat} : ∀ {A : Nat → Nat → T}, (∀ i, i < n → ∀ c, c < i → A i c = 0) → dt n A = pr n fun i => A i i := by
  induction n with
  | zero => intro A _; rfl
  | succ k ih =>
    intro A h
    show sm (k + 1) _ = pr k _ * A k k
    rw [sm_one (j := k) (Nat.lt_succ_self k) fun i hi ne => ?_]
    · rw [Nat.sub_self, show dt k (fun r c => A (skip k r) c) = dt k A from dt_congr fun r hr c _ => by rw [show skip k r = r by unfold skip; rw [if_pos hr]], ih fun i hi c hc => h i (by omega) c hc]
      show (1 : T) * _ * _ = _
      grind
    · have e : dt k (fun r c => A (skip i r) c) = 0 := dt_zrow (s := k - 1) (by omega) fun c hc => by
        rw [show skip i (k - 1) = k by unfold skip; rw [if_neg (by omega)]; omega]
        exact h k (by omega) c hc
      rw [e]
      grind
end
/-! ### the sum over all orders -/
section
open Lean.Grind
variable {T : Type} [CommRing T]
def ins (i k : Nat) (l : List Nat) : List Nat := l.take i ++ [k] ++ l.drop i
def ords : Nat → List (List Nat)
  | 0 => [[]]
  | k + 1 => (ords k).flatMap fun l => (List.range (k + 1)).map fun i => ins i k l
/-- how many pairs stand the wrong way round -/
def inv : List Nat → Nat
  | [] => 0
  | x :: l => (l.filter fun y => decide (y < x)).length + inv l
theorem inv_snoc (l : List Nat) (x : Nat) : inv (l ++ [x]) = inv l + (l.filter fun y => decide (x < y)).length := by
  induction l with
  | nil => rfl
  | cons a l ih =>
    show ((l ++ [x]).filter _).length + inv (l ++ [x]) = (l.filter _).length + inv l + _
    rw [ih, List.filter_append, List.length_append, List.filter_cons (x := a)]
    by_cases c : x < a
    · rw [if_pos (decide_eq_true c), List.filter_cons, if_pos (decide_eq_true c)]
      simp only [List.filter_nil, List.length_cons, List.length_nil]
      omega
    · rw [if_neg (by rw [decide_eq_false c]; decide), List.filter_cons, if_neg (by rw [decide_eq_false c]; decide)]
      simp only [List.filter_nil, List.length_nil]
      omega
theorem inv_ins {k : Nat} : ∀ (p q : List Nat), (∀ x ∈ p, x < k) → (∀ x ∈ q, x < k) → inv (p ++ k :: q) = inv (p ++ q) + q.length
  | [], q, _, hq => by
    show (q.filter _).length + inv q = inv q + q.length
    rw [List.filter_eq_self.mpr fun x hx => decide_eq_true (hq x hx)]
    omega
  | a :: p, q, hp, hq => by
    show ((p ++ k :: q).filter _).length + inv (p ++ k :: q) = ((p ++ q).filter _).length + inv (p ++ q) + q.length
    have := hp a (List.mem_cons_self ..)
    rw [inv_ins p q (fun x hx => hp x (List.mem_cons_of_mem _ hx)) hq, List.filter_append, List.filter_append, List.filter_cons, if_neg (by rw [_root_.decide_eq_false (show ¬k < a by omega)]; decide)]
    omega
theorem ords_ok : ∀ {n : Nat}, ∀ l ∈ ords n, l.length = n ∧ ∀ x ∈ l, x < n := by
  intro n
  induction n with
  | zero =>
    intro l hl
    rw [List.mem_singleton.mp hl]
    exact ⟨rfl, fun x hx => absurd hx List.not_mem_nil⟩
  | succ k ih =>
    intro l hl
    obtain ⟨l0, h0, h⟩ := List.mem_flatMap.mp hl
    obtain ⟨i, hi, rfl⟩ := List.mem_map.mp h
    obtain ⟨h1, h2⟩ := ih l0 h0
    have hi := List.mem_range.mp hi
    refine ⟨?_, fun x hx => ?_⟩
    · unfold ins
      rw [List.length_append, List.length_append, List.length_take, List.length_drop]
      show min i l0.length + 1 + _ = _
      omega
    · rcases List.mem_append.mp hx with hx | hx
      · rcases List.mem_append.mp hx with hx | hx
        · have := h2 x (List.mem_of_mem_take hx); omega
        · rw [List.mem_singleton.mp hx]; omega
      · have := h2 x (List.mem_of_mem_drop hx); omega
theorem sgn_add (a b : Nat) : (sgn (a + b) : T) = sgn a * sgn b := by
  induction b with
  | zero => show sgn a = sgn a * 1; grind
  | succ b ih => show -sgn (a + b) = sgn a * -sgn b; rw [ih]; grind
theorem sgn_ins {k i : Nat} {l : List Nat} (hl : l.length = k) (hx : ∀ x ∈ l, x < k) (hi : i ≤ k) : (sgn (inv (ins i k l)) : T) = sgn (k - i) * sgn (inv l) := by
  unfold ins
  rw [List.append_assoc, show [k] ++ l.drop i = k :: l.drop i from rfl, inv_ins _ _ (fun x h => hx x (List.mem_of_mem_take h)) fun x h => hx x (List.mem_of_mem_drop h), List.take_append_drop, sgn_add, List.length_drop, hl]
  grind
theorem pr_congr {n : Nat} {f g : Nat → T} (h : ∀ i, i < n → f i = g i) : pr n f = pr n g := by
  induction n with
  | zero => rfl
  | succ k ih => show pr k f * f k = pr k g * g k; rw [ih fun i hi => h i (by omega), h k (by omega)]
theorem pr_skip {k : Nat} (f : Nat → T) : ∀ {i : Nat}, i ≤ k → pr (k + 1) f = f i * pr k fun r => f (skip i r) := by
  induction k with
  | zero =>
    intro i hi
    obtain rfl : i = 0 := by omega
    show (1 : T) * f 0 = f 0 * 1
    grind
  | succ k ih =>
    intro i hi
    show pr (k + 1) f * f (k + 1) = f i * (pr k (fun r => f (skip i r)) * f (skip i k))
    by_cases c : i = k + 1
    · subst c
      have : pr (k + 1) f = pr (k + 1) fun r => f (skip (k + 1) r) := pr_congr fun r hr => by rw [show skip (k + 1) r = r by unfold skip; rw [if_pos hr]]
      rw [this]
      show _ = f (k + 1) * pr (k + 1) fun r => f (skip (k + 1) r)
      grind
    · rw [ih (show i ≤ k by omega), show skip i k = k + 1 by unfold skip; rw [if_neg (by omega)]]
      grind
theorem ins_at {i k : Nat} {l : List Nat} (hi : i ≤ l.length) : (ins i k l).getD i 0 = k := by
  unfold ins
  rw [List.getD_eq_getElem?_getD, List.append_assoc, List.getElem?_append_right (by rw [List.length_take]; omega), List.length_take, Nat.min_eq_left hi, Nat.sub_self]
  rfl
theorem ins_skip {i k r : Nat} {l : List Nat} (hi : i ≤ l.length) : (ins i k l).getD (skip i r) 0 = l.getD r 0 := by
  unfold ins skip
  have ht : (l.take i).length = i := by rw [List.length_take]; omega
  rw [List.getD_eq_getElem?_getD, List.getD_eq_getElem?_getD, List.append_assoc]
  by_cases c : r < i
  · rw [if_pos c, List.getElem?_append_left (by omega), List.getElem?_take_of_lt c]
  · rw [if_neg c, List.getElem?_append_right (by omega), ht, List.getElem?_append_right (by show 1 ≤ _; omega), List.getElem?_drop]
    show (l[i + (r + 1 - i - 1)]?).getD 0 = _
    rw [show i + (r + 1 - i - 1) = r by omega]
/-- a sum over a list -/
def lsm {α : Type} (l : List α) (f : α → T) : T := match l with
  | [] => 0
  | x :: l => f x + lsm l f
theorem lsm_append {α : Type} (l r : List α) (f : α → T) : lsm (l ++ r) f = lsm l f + lsm r f := by
  induction l with
  | nil => show lsm r f = 0 + lsm r f; grind
  | cons x l ih => show f x + lsm (l ++ r) f = f x + lsm l f + lsm r f; rw [ih]; grind
theorem lsm_range (n : Nat) {α : Type} (g : Nat → α) (f : α → T) : lsm ((List.range n).map g) f = sm n fun i => f (g i) := by
  induction n with
  | zero => rfl
  | succ n ih =>
    rw [List.range_succ, List.map_append, lsm_append, ih]
    show sm n _ + (f (g n) + 0) = sm n _ + f (g n)
    grind
theorem lsm_flat {α β : Type} (l : List α) (g : α → List β) (f : β → T) : lsm (l.flatMap g) f = lsm l fun x => lsm (g x) f := by
  induction l with
  | nil => rfl
  | cons x l ih => rw [List.flatMap_cons, lsm_append, ih]; rfl
theorem lsm_congr {α : Type} {l : List α} {f g : α → T} (h : ∀ x ∈ l, f x = g x) : lsm l f = lsm l g := by
  induction l with
  | nil => rfl
  | cons x l ih => show f x + lsm l f = g x + lsm l g; rw [h x (List.mem_cons_self ..), ih fun y hy => h y (List.mem_cons_of_mem _ hy)]
theorem lsm_sm {α : Type} (l : List α) (n : Nat) (f : α → Nat → T) : lsm l (fun x => sm n fun i => f x i) = sm n fun i => lsm l fun x => f x i := by
  induction l with
  | nil => exact (sm_zero n).symm
  | cons x l ih => show sm n _ + lsm l _ = _; rw [ih, ← sm_add]; rfl
theorem lsm_mul {α : Type} (l : List α) (a : T) (f : α → T) : lsm l (fun x => a * f x) = a * lsm l f := by
  induction l with
  | nil => show (0 : T) = a * 0; grind
  | cons x l ih => show a * f x + lsm l _ = a * (f x + lsm l f); rw [ih]; grind
/-- the determinant as the sum over all orders -/
theorem dt_ords {n : Nat} : ∀ (A : Nat → Nat → T), (lsm (ords n) fun l => sgn (inv l) * pr n fun i => A i (l.getD i 0)) = dt n A := by
  induction n with
  | zero => intro A; show (1 : T) * 1 + 0 = 1; grind
  | succ k ih =>
    intro A
    show lsm ((ords k).flatMap _) _ = sm (k + 1) fun i => sgn (k - i) * A i k * dt k fun r c => A (skip i r) c
    rw [lsm_flat, lsm_congr (g := fun l => sm (k + 1) fun i => sgn (k - i) * A i k * (sgn (inv l) * pr k fun r => A (skip i r) (l.getD r 0))) fun l hl => ?_, lsm_sm]
    · refine sm_congr fun i hi => ?_
      rw [lsm_mul, ih fun r c => A (skip i r) c]
    · obtain ⟨h1, h2⟩ := ords_ok l hl
      rw [lsm_range]
      refine sm_congr fun i hi => ?_
      rw [sgn_ins h1 h2 (by omega), pr_skip (i := i) _ (by omega), ins_at (by omega), pr_congr (g := fun r => A (skip i r) (l.getD r 0)) fun r hr => by rw [ins_skip (by omega)]]
      grind
end
/-! ### determinants over a field -/
section
open Lean.Grind
variable {T : Type} [CommRing T] {n : Nat}
theorem dt_clear {r : Nat} {A B : Nat → Nat → T} (hr : r < n) (m : Nat → T) (h0 : ∀ c, c < n → B r c = A r c) (h : ∀ i, i < n → i ≠ r → ∀ c, c < n → B i c = m i * A r c + A i c) : dt n B = dt n A := by
  have key : ∀ t, t ≤ n → dt n (fun i c => if i < t ∧ i ≠ r then m i * A r c + A i c else A i c) = dt n A := by
    intro t
    induction t with
    | zero => intro _; exact dt_congr fun i _ c _ => if_neg fun z => Nat.not_lt_zero _ z.1
    | succ t ih =>
      intro ht
      rw [← ih (by omega)]
      by_cases e : t = r
      · exact dt_congr fun i hi c _ => by
          by_cases c1 : i < t ∧ i ≠ r
          · rw [if_pos c1, if_pos ⟨by omega, c1.2⟩]
          · rw [if_neg c1, if_neg fun z => c1 ⟨by omega, z.2⟩]
      · refine dt_addrow (r := r) (s := t) hr (by omega) (Ne.symm e) (m t) (fun c hc => ?_) fun i hi ne c hc => ?_
        · show (if t < t + 1 ∧ t ≠ r then m t * A r c + A t c else A t c) = m t * (if r < t ∧ r ≠ r then m r * A r c + A r c else A r c) + (if t < t ∧ t ≠ r then m t * A r c + A t c else A t c)
          rw [if_pos ⟨Nat.lt_succ_self t, e⟩, if_neg fun z => z.2 rfl, if_neg fun z => Nat.lt_irrefl _ z.1]
        · show (if i < t + 1 ∧ i ≠ r then m i * A r c + A i c else A i c) = if i < t ∧ i ≠ r then m i * A r c + A i c else A i c
          by_cases c1 : i < t ∧ i ≠ r
          · rw [if_pos c1, if_pos ⟨by omega, c1.2⟩]
          · rw [if_neg c1, if_neg fun z => c1 ⟨by omega, z.2⟩]
  rw [← key n (Nat.le_refl n)]
  refine dt_congr fun i hi c hc => ?_
  by_cases e : i = r
  · subst e
    rw [h0 c hc, if_neg fun z => z.2 rfl]
  · rw [h i hi e c hc, if_pos ⟨hi, e⟩]
theorem dt_swp {r f : Nat} {R : Nat → Nat → T} (hr : r < n) (hf : f < n) : dt n (fun i => R (swp r f i)) = 0 ↔ dt n R = 0 := by
  by_cases e : r = f
  · subst e
    rw [show (fun i => R (swp r r i)) = R by funext i; congr 1; unfold swp; split <;> (try split) <;> omega]
  · have := dt_swap (A := R) (B := fun i => R (swp r f i)) hr hf e (fun c _ => by show R (swp r f r) c = _; unfold swp; rw [if_neg e, if_pos rfl]) (fun c _ => by show R (swp r f f) c = _; unfold swp; rw [if_pos rfl])
      fun i _ n1 n2 c _ => by show R (swp r f i) c = _; unfold swp; rw [if_neg n2, if_neg n1]
    rw [this]
    constructor <;> intro h <;> grind
theorem turn_ex {r f j : Nat} {u : T} {R : Nat → Nat → T} (hrf : r ≤ f) (hf : f < n) (hj : j < n) (hu : R f j * u = 1) : ∃ R', Turn n n r f j R R' u ∧ (dt n R' = 0 ↔ dt n R = 0) := by
  have hr : r < n := by omega
  refine ⟨fun i x => if i = r then u * R f x else R (swp r f i) x - R (swp r f i) j * (u * R f x), ⟨hrf, hf, hu, fun x _ => if_pos rfl, swp r f, fun i hi ne => ⟨swp_lt hr hf hi, ?_, ?_, ?_, fun x _ => if_neg ne⟩, fun l hl ne => ⟨swp r f l, swp_lt hr hf hl, ?_, swp_swp⟩⟩, ?_⟩
  · unfold swp
    by_cases c : i = f
    · rw [if_pos c]; omega
    · rw [if_neg c, if_neg ne]; exact c
  · intro h
    unfold swp
    by_cases c : i = f
    · rw [if_pos c]; omega
    · rw [if_neg c, if_neg ne]; exact h
  · intro h
    unfold swp
    rw [if_neg (by omega), if_neg ne]
  · unfold swp
    rw [if_neg ne]
    by_cases c : l = r
    · rw [if_pos c]; omega
    · rw [if_neg c]; exact c
  · have e1 := dt_scale (A := fun i => R (swp r f i)) (B := fun i x => if i = r then u * R f x else R (swp r f i) x) hr u (fun c _ => by
      show (if r = r then u * R f c else _) = u * R (swp r f r) c
      rw [if_pos rfl]
      unfold swp
      by_cases c : r = f
      · rw [if_pos c, c]
      · rw [if_neg c, if_pos rfl]) fun i _ ne c _ => if_neg ne
    have e2 := dt_clear (n := n) (A := fun i x => if i = r then u * R f x else R (swp r f i) x) (B := fun i x => if i = r then u * R f x else R (swp r f i) x - R (swp r f i) j * (u * R f x)) hr (fun i => -R (swp r f i) j)
      (fun c _ => by show (if r = r then u * R f c else _) = if r = r then u * R f c else _; rw [if_pos rfl, if_pos rfl]) fun i _ ne c _ => by
        show (if i = r then u * R f c else R (swp r f i) c - R (swp r f i) j * (u * R f c)) = -R (swp r f i) j * (if r = r then u * R f c else _) + if i = r then u * R f c else R (swp r f i) c
        rw [if_neg ne, if_neg ne, if_pos rfl]
        grind
    rw [e2, e1, ← dt_swp hr hf]
    constructor
    · intro h
      have : R f j * (u * dt n fun i => R (swp r f i)) = 0 := by rw [h]; grind
      have h2 : R f j * (u * dt n fun i => R (swp r f i)) = (R f j * u) * dt n fun i => R (swp r f i) := by grind
      rw [h2, hu] at this
      grind
    · intro h
      rw [h]
      grind
/-- each matrix has a reduced form, with a determinant that is zero or not as its own -/
theorem ech_ex (hinv : ∀ x : T, x ≠ 0 → ∃ u, x * u = 1) (A : Nat → Nat → T) : ∀ j, j ≤ n → ∃ R p, Ech n R j p ∧ (∀ v, Nul n n R v ↔ Nul n n A v) ∧ (dt n R = 0 ↔ dt n A = 0) := by
  intro j
  induction j with
  | zero => intro _; exact ⟨A, [], .nil, fun _ => Iff.rfl, Iff.rfl⟩
  | succ j ih =>
    intro hj
    obtain ⟨R, p, he, hN, hd⟩ := ih (by omega)
    by_cases c : ∃ f, p.length ≤ f ∧ f < n ∧ R f j ≠ 0
    · obtain ⟨f, h1, h2, h3⟩ := c
      obtain ⟨u, hu⟩ := hinv _ h3
      obtain ⟨R', t, hd'⟩ := turn_ex h1 h2 (show j < n by omega) hu
      exact ⟨R', p ++ [j], t.ech (show j < n by omega) he, fun v => (t.nul v).trans (hN v), hd'.trans hd⟩
    · refine ⟨R, p, .free he fun l hl hp => ?_, hN, hd⟩
      by_cases z : R l j = 0
      · exact z
      · exact absurd ⟨l, hp, hl, z⟩ c
theorem dt_mid : dt n (mid : Nat → Nat → T) = 1 := by
  rw [dt_up fun i _ c h => by unfold mid; rw [if_neg (by omega)]]
  induction n with
  | zero => rfl
  | succ k ih => show pr k _ * mid k k = 1; rw [ih]; unfold mid; rw [if_pos rfl]; grind
/-- a matrix takes no vector but zero to zero exactly if its determinant is not zero -/
theorem inj_dt (ne : (1 : T) ≠ 0) (hinv : ∀ x : T, x ≠ 0 → ∃ u, x * u = 1) {A : Nat → Nat → T} : Inj n A ↔ dt n A ≠ 0 := by
  obtain ⟨R, p, he, hN, hd⟩ := ech_ex (n := n) hinv A n (Nat.le_refl n)
  by_cases c : p.length = n
  · have e := he.count c
    subst e
    have h1 : dt n R = 1 := by rw [← dt_mid (n := n) (T := T)]; exact dt_congr fun r hr x hx => he.all r hr x hx
    constructor
    · intro _ z
      rw [hd.mpr z] at h1
      exact ne h1.symm
    · intro _ v hv x hx
      have := (hN v).mpr hv x hx
      rw [sm_congr (g := fun y => mid x y * v y) fun y hy => by rw [he.all x hx y hy], sm_one hx fun y _ hne => by unfold mid; rw [if_neg (Ne.symm hne)]; grind] at this
      unfold mid at this
      rw [if_pos rfl] at this
      grind
  · have lt : p.length < n := by have := he.le; omega
    have h0 : dt n R = 0 := dt_zrow (s := n - 1) (by omega) fun x hx => he.low (n - 1) (by omega) (by omega) x hx
    constructor
    · intro hi
      exfalso
      have := he.full ne fun v hv => hi v ((hN v).mp hv)
      rw [this, List.length_range] at lt
      omega
    · intro h
      exact absurd (hd.mp h0) h
end
/-! ### alternating forms of the rows over a field -/
section
open Lean.Grind
variable {T : Type} [CommRing T] {n : Nat}
structure Alt (n : Nat) (F : (Nat → Nat → T) → T) : Prop where
  congr : ∀ {A B : Nat → Nat → T}, (∀ r, r < n → ∀ c, c < n → A r c = B r c) → F A = F B
  lin : ∀ (x : T) {A B C : Nat → Nat → T} {s : Nat}, s < n → (∀ r, r < n → r ≠ s → ∀ c, c < n → C r c = A r c ∧ C r c = B r c) → (∀ c, c < n → C s c = x * A s c + B s c) → F C = x * F A + F B
  eq : ∀ {A : Nat → Nat → T} {r s : Nat}, r < n → s < n → r ≠ s → (∀ c, c < n → A r c = A s c) → F A = 0
theorem dt_isalt : Alt (T := T) n (dt n) := ⟨dt_congr, fun x => dt_lin x, dt_eq⟩
variable {F : (Nat → Nat → T) → T}
theorem Alt.putr (hF : Alt n F) {s : Nat} {A : Nat → Nat → T} (hs : s < n) (x : T) (u v : Nat → T) : F (put A s fun c => x * u c + v c) = x * F (put A s u) + F (put A s v) :=
  hF.lin x hs (fun r _ ne c _ => by rw [put_other ne, put_other ne, put_other ne]; exact ⟨rfl, rfl⟩) fun c _ => by rw [put_same, put_same, put_same]
theorem Alt.pol (hF : Alt n F) {r s : Nat} (hr : r < n) (hs : s < n) (ne : r ≠ s) (h0 : ∀ A : Nat → Nat → T, (∀ c, c < n → A r c = A s c) → F A = 0) (A : Nat → Nat → T) (u v : Nat → T) : F (put (put A r u) s v) = -F (put (put A r v) s u) := by
  have z : ∀ w : Nat → T, F (put (put A r w) s w) = 0 := fun w => h0 _ fun c _ => by rw [put_same, put_other ne, put_same]
  have e : ∀ a b : Nat → T, put (put A r a) s b = put (put A s b) r a := fun a b => by
    funext i
    unfold put
    by_cases c1 : i = s
    · rw [if_pos c1, if_neg (by omega), if_pos c1]
    · rw [if_neg c1]
      by_cases c2 : i = r
      · rw [if_pos c2, if_pos c2]
      · rw [if_neg c2, if_neg c2, if_neg c1]
  have h1 := z fun c => 1 * u c + v c
  rw [hF.putr hs, e, e, hF.putr hr, hF.putr hr, ← e, ← e, ← e, ← e, z u, z v] at h1
  grind
theorem Alt.swap (hF : Alt n F) {r s : Nat} {A B : Nat → Nat → T} (hr : r < n) (hs : s < n) (ne : r ≠ s) (h1 : ∀ c, c < n → B r c = A s c) (h2 : ∀ c, c < n → B s c = A r c) (h3 : ∀ i, i < n → i ≠ r → i ≠ s → ∀ c, c < n → B i c = A i c) : F B = -F A := by
  have hp := hF.pol hr hs ne (fun C hC => hF.eq hr hs ne hC) A (A s) (A r)
  have e1 : F (put (put A r (A r)) s (A s)) = F A := hF.congr fun i hi c hc => by
    unfold put
    by_cases c1 : i = s
    · rw [if_pos c1, c1]
    · rw [if_neg c1]
      by_cases c2 : i = r
      · rw [if_pos c2, c2]
      · rw [if_neg c2]
  have e2 : F (put (put A r (A s)) s (A r)) = F B := hF.congr fun i hi c hc => by
    unfold put
    by_cases c1 : i = s
    · rw [if_pos c1, c1, h2 c hc]
    · rw [if_neg c1]
      by_cases c2 : i = r
      · rw [if_pos c2, c2, h1 c hc]
      · rw [if_neg c2, h3 i hi c2 c1 c hc]
  rw [e1, e2] at hp
  exact hp
theorem Alt.addrow (hF : Alt n F) {r s : Nat} {A B : Nat → Nat → T} (hr : r < n) (hs : s < n) (ne : r ≠ s) (x : T) (h1 : ∀ c, c < n → B s c = x * A r c + A s c) (h3 : ∀ i, i < n → i ≠ s → ∀ c, c < n → B i c = A i c) : F B = F A := by
  have := hF.lin x (A := put A s (A r)) (B := A) (C := B) hs (fun i hi n' c hc => by rw [put_other n']; exact ⟨h3 i hi n' c hc, h3 i hi n' c hc⟩) fun c hc => by rw [put_same]; exact h1 c hc
  rw [this, hF.eq (A := put A s (A r)) hr hs ne fun c _ => by rw [put_same, put_other ne]]
  grind
theorem Alt.scale (hF : Alt n F) {s : Nat} {A B : Nat → Nat → T} (hs : s < n) (x : T) (h1 : ∀ c, c < n → B s c = x * A s c) (h3 : ∀ i, i < n → i ≠ s → ∀ c, c < n → B i c = A i c) : F B = x * F A := by
  have z : F (put A s fun _ => 0) = 0 := by
    have := hF.putr (A := A) hs 1 (fun _ => 0) fun _ => 0
    rw [show (fun c : Nat => (1 : T) * 0 + 0) = fun _ => 0 by funext _; grind] at this
    grind
  have := hF.lin x (A := A) (B := put A s fun _ => 0) (C := B) hs (fun i hi n' c hc => by rw [put_other n']; exact ⟨h3 i hi n' c hc, h3 i hi n' c hc⟩) fun c hc => by rw [put_same, h1 c hc]; grind
  rw [this, z]
  grind
theorem Alt.zrow (hF : Alt n F) {s : Nat} {A : Nat → Nat → T} (hs : s < n) (h : ∀ c, c < n → A s c = 0) : F A = 0 := by
  have := hF.scale (A := A) (B := A) hs 0 (fun c hc => by rw [h c hc]; grind) fun _ _ _ _ _ => rfl
  rw [this]
  grind
theorem Alt.clear (hF : Alt n F) {r : Nat} {A B : Nat → Nat → T} (hr : r < n) (m : Nat → T) (h0 : ∀ c, c < n → B r c = A r c) (h : ∀ i, i < n → i ≠ r → ∀ c, c < n → B i c = m i * A r c + A i c) : F B = F A := by
  have key : ∀ t, t ≤ n → F (fun i c => if i < t ∧ i ≠ r then m i * A r c + A i c else A i c) = F A := by
    intro t
    induction t with
    | zero => intro _; exact hF.congr fun i _ c _ => if_neg fun z => Nat.not_lt_zero _ z.1
    | succ t ih =>
      intro ht
      rw [← ih (by omega)]
      by_cases e : t = r
      · exact hF.congr fun i hi c _ => by
          by_cases c1 : i < t ∧ i ≠ r
          · rw [if_pos c1, if_pos ⟨by omega, c1.2⟩]
          · rw [if_neg c1, if_neg fun z => c1 ⟨by omega, z.2⟩]
      · refine hF.addrow (r := r) (s := t) hr (by omega) (Ne.symm e) (m t) (fun c hc => ?_) fun i hi ne c hc => ?_
        · show (if t < t + 1 ∧ t ≠ r then m t * A r c + A t c else A t c) = m t * (if r < t ∧ r ≠ r then m r * A r c + A r c else A r c) + (if t < t ∧ t ≠ r then m t * A r c + A t c else A t c)
          rw [if_pos ⟨Nat.lt_succ_self t, e⟩, if_neg fun z => z.2 rfl, if_neg fun z => Nat.lt_irrefl _ z.1]
        · show (if i < t + 1 ∧ i ≠ r then m i * A r c + A i c else A i c) = if i < t ∧ i ≠ r then m i * A r c + A i c else A i c
          by_cases c1 : i < t ∧ i ≠ r
          · rw [if_pos c1, if_pos ⟨by omega, c1.2⟩]
          · rw [if_neg c1, if_neg fun z => c1 ⟨by omega, z.2⟩]
  rw [← key n (Nat.le_refl n)]
  refine hF.congr fun i hi c hc => ?_
  by_cases e : i = r
  · subst e
    rw [h0 c hc, if_neg fun z => z.2 rfl]
  · rw [h i hi e c hc, if_pos ⟨hi, e⟩]
theorem swp_alt {r f : Nat} {R : Nat → Nat → T} (hr : r < n) (hf : f < n) : ∃ κ κ' : T, κ * κ' = 1 ∧ ∀ F : (Nat → Nat → T) → T, Alt n F → F (fun i => R (swp r f i)) = κ * F R := by
  by_cases e : r = f
  · subst e
    refine ⟨1, 1, by grind, fun F hF => ?_⟩
    rw [show (fun i => R (swp r r i)) = R by funext i; congr 1; unfold swp; split <;> (try split) <;> omega]
    grind
  · refine ⟨-1, -1, by grind, fun F hF => ?_⟩
    rw [hF.swap (A := R) (B := fun i => R (swp r f i)) hr hf e (fun c _ => by show R (swp r f r) c = _; unfold swp; rw [if_neg e, if_pos rfl]) (fun c _ => by show R (swp r f f) c = _; unfold swp; rw [if_pos rfl])
      fun i _ n1 n2 c _ => by show R (swp r f i) c = _; unfold swp; rw [if_neg n2, if_neg n1]]
    grind
theorem turn_alt {r f j : Nat} {u : T} {R : Nat → Nat → T} (hrf : r ≤ f) (hf : f < n) (hj : j < n) (hu : R f j * u = 1) : ∃ (R' : Nat → Nat → T) (κ κ' : T), Turn n n r f j R R' u ∧ κ * κ' = 1 ∧ ∀ F : (Nat → Nat → T) → T, Alt n F → F R' = κ * F R := by
  have hr : r < n := by omega
  obtain ⟨k1, k2, hk, hs⟩ := swp_alt (R := R) hr hf
  refine ⟨fun i x => if i = r then u * R f x else R (swp r f i) x - R (swp r f i) j * (u * R f x), u * k1, k2 * R f j, ⟨hrf, hf, hu, fun x _ => if_pos rfl, swp r f, fun i hi ne => ⟨swp_lt hr hf hi, ?_, ?_, ?_, fun x _ => if_neg ne⟩, fun l hl ne => ⟨swp r f l, swp_lt hr hf hl, ?_, swp_swp⟩⟩, by grind, fun F hF => ?_⟩
  · unfold swp
    by_cases c : i = f
    · rw [if_pos c]; omega
    · rw [if_neg c, if_neg ne]; exact c
  · intro h
    unfold swp
    by_cases c : i = f
    · rw [if_pos c]; omega
    · rw [if_neg c, if_neg ne]; exact h
  · intro h
    unfold swp
    rw [if_neg (by omega), if_neg ne]
  · unfold swp
    rw [if_neg ne]
    by_cases c : l = r
    · rw [if_pos c]; omega
    · rw [if_neg c]; exact c
  · have e1 := hF.scale (A := fun i => R (swp r f i)) (B := fun i x => if i = r then u * R f x else R (swp r f i) x) hr u (fun c _ => by
      show (if r = r then u * R f c else _) = u * R (swp r f r) c
      rw [if_pos rfl]
      unfold swp
      by_cases c : r = f
      · rw [if_pos c, c]
      · rw [if_neg c, if_pos rfl]) fun i _ ne c _ => if_neg ne
    have e2 := hF.clear (A := fun i x => if i = r then u * R f x else R (swp r f i) x) (B := fun i x => if i = r then u * R f x else R (swp r f i) x - R (swp r f i) j * (u * R f x)) hr (fun i => -R (swp r f i) j)
      (fun c _ => by show (if r = r then u * R f c else _) = if r = r then u * R f c else _; rw [if_pos rfl, if_pos rfl]) fun i _ ne c _ => by
        show (if i = r then u * R f c else R (swp r f i) c - R (swp r f i) j * (u * R f c)) = -R (swp r f i) j * (if r = r then u * R f c else _) + if i = r then u * R f c else R (swp r f i) c
        rw [if_neg ne, if_neg ne, if_pos rfl]
        grind
    rw [e2, e1, hs F hF]
    grind
theorem ech_alt (hinv : ∀ x : T, x ≠ 0 → ∃ u, x * u = 1) (A : Nat → Nat → T) : ∀ j, j ≤ n → ∃ (R : Nat → Nat → T) (p : List Nat) (κ κ' : T), Ech n R j p ∧ κ * κ' = 1 ∧ ∀ F : (Nat → Nat → T) → T, Alt n F → F R = κ * F A := by
  intro j
  induction j with
  | zero => intro _; exact ⟨A, [], 1, 1, .nil, by grind, fun F _ => by grind⟩
  | succ j ih =>
    intro hj
    obtain ⟨R, p, k1, k2, he, hk, hF⟩ := ih (by omega)
    by_cases c : ∃ f, p.length ≤ f ∧ f < n ∧ R f j ≠ 0
    · obtain ⟨f, h1, h2, h3⟩ := c
      obtain ⟨u, hu⟩ := hinv _ h3
      obtain ⟨R', k3, k4, t, hk', hF'⟩ := turn_alt h1 h2 (show j < n by omega) hu
      exact ⟨R', p ++ [j], k3 * k1, k2 * k4, t.ech (show j < n by omega) he, by grind, fun F h => by rw [hF' F h, hF F h]; grind⟩
    · refine ⟨R, p, k1, k2, .free he fun l hl hp => ?_, hk, hF⟩
      by_cases z : R l j = 0
      · exact z
      · exact absurd ⟨l, hp, hl, z⟩ c
/-- an alternating form is the determinant times its value at the unit matrix -/
theorem alt_dt (hinv : ∀ x : T, x ≠ 0 → ∃ u, x * u = 1) (hF : Alt n F) (A : Nat → Nat → T) : F A = dt n A * F mid := by
  obtain ⟨R, p, κ, κ', he, hk, h⟩ := ech_alt (n := n) hinv A n (Nat.le_refl n)
  have h1 := h F hF
  have h2 := h (dt n) dt_isalt
  by_cases c : p.length = n
  · have e := he.count c
    subst e
    have e1 : dt n R = 1 := by rw [← dt_mid (n := n) (T := T)]; exact dt_congr fun r hr x hx => he.all r hr x hx
    have e2 : F R = F mid := hF.congr fun r hr x hx => he.all r hr x hx
    rw [e1] at h2
    rw [e2] at h1
    have h3 : κ * (F A - dt n A * F mid) = 0 := by grind
    have h4 : κ' * (κ * (F A - dt n A * F mid)) = 0 := by rw [h3]; grind
    have h5 : κ' * (κ * (F A - dt n A * F mid)) = κ * κ' * (F A - dt n A * F mid) := by grind
    rw [h5, hk] at h4
    grind
  · have lt : p.length < n := by have := he.le; omega
    have e1 : dt n R = 0 := dt_zrow (s := n - 1) (by omega) fun x hx => he.low (n - 1) (by omega) (by omega) x hx
    have e2 : F R = 0 := hF.zrow (s := n - 1) (by omega) fun x hx => he.low (n - 1) (by omega) (by omega) x hx
    rw [e1] at h2
    rw [e2] at h1
    have h3 : ∀ y : T, 0 = κ * y → y = 0 := fun y hy => by
      have : κ' * (κ * y) = 0 := by rw [← hy]; grind
      have h5 : κ' * (κ * y) = κ * κ' * y := by grind
      rw [h5, hk] at this
      grind
    rw [h3 _ h1, h3 _ h2]
    grind
/-- the determinant of a product -/
theorem dt_mul (hinv : ∀ x : T, x ≠ 0 → ∃ u, x * u = 1) (A B : Nat → Nat → T) : dt n (mmul n A B) = dt n A * dt n B := by
  have hF : Alt (T := T) n fun A => dt n (mmul n A B) := by
    refine ⟨fun {A A'} h => dt_congr fun r hr c _ => sm_congr fun l hl => by rw [h r hr l hl], fun x {A A' C s} hs h1 h2 => ?_, fun {A r s} hr hs ne h => dt_eq hr hs ne fun c _ => sm_congr fun l hl => by rw [h l hl]⟩
    refine dt_lin x hs (fun r hr ne c _ => ⟨sm_congr fun l hl => by rw [(h1 r hr ne l hl).1], sm_congr fun l hl => by rw [(h1 r hr ne l hl).2]⟩) fun c _ => ?_
    unfold mmul
    rw [← sm_mul_left, ← sm_add]
    exact sm_congr fun l hl => by rw [h2 l hl]; grind
  have := alt_dt (F := fun A => dt n (mmul n A B)) hinv hF A
  rw [this]
  congr 1
  exact dt_congr fun r hr c hc => mmul_id_left hr
end
/-! ### columns -/
section
open Lean.Grind
variable {T : Type} [CommRing T]
theorem dt_collin {n : Nat} (x : T) : ∀ {A B C : Nat → Nat → T} {s : Nat}, s < n → (∀ r, r < n → ∀ c, c < n → c ≠ s → C r c = A r c ∧ C r c = B r c) → (∀ r, r < n → C r s = x * A r s + B r s) → dt n C = x * dt n A + dt n B := by
  induction n with
  | zero => intro A B C s hs; omega
  | succ k ih =>
    intro A B C s hs h hC
    show sm (k + 1) _ = x * sm (k + 1) _ + sm (k + 1) _
    rw [← sm_mul_left, ← sm_add]
    refine sm_congr fun i hi => ?_
    by_cases e : s = k
    · subst e
      have e1 : dt s (fun r c => A (skip i r) c) = dt s fun r c => C (skip i r) c := dt_congr fun r hr c hc => ((h _ (skip_lt hr) c (by omega) (by omega)).1).symm
      have e2 : dt s (fun r c => B (skip i r) c) = dt s fun r c => C (skip i r) c := dt_congr fun r hr c hc => ((h _ (skip_lt hr) c (by omega) (by omega)).2).symm
      rw [e1, e2, hC i hi]
      grind
    · obtain ⟨h1, h2⟩ := h i hi k (by omega) (by omega)
      have := ih (A := fun r c => A (skip i r) c) (B := fun r c => B (skip i r) c) (C := fun r c => C (skip i r) c) (s := s) (by omega)
        (fun r hr c hc ne => h _ (skip_lt hr) c (by omega) ne) fun r hr => hC _ (skip_lt hr)
      rw [this, ← h1]
      have h3 : B i k = C i k := h2.symm
      rw [h3]
      grind
theorem dt_coleq {n r s : Nat} (ne1 : (1 : T) ≠ 0) (hinv : ∀ x : T, x ≠ 0 → ∃ u, x * u = 1) {A : Nat → Nat → T} (hr : r < n) (hs : s < n) (ne : r ≠ s) (h : ∀ i, i < n → A i r = A i s) : dt n A = 0 := by
  by_cases c : dt n A = 0
  · exact c
  · have := (inj_dt ne1 hinv).mpr c (fun x => (if x = r then 1 else 0) + -1 * if x = s then 1 else 0) (fun l hl => by
      rw [sm_congr (g := fun x => A l x * (if x = r then 1 else 0) + -1 * (A l x * if x = s then 1 else 0)) fun x _ => by grind, sm_add, sm_mul_left,
        sm_one hr fun x _ hx => by rw [if_neg hx]; grind, sm_one hs fun x _ hx => by rw [if_neg hx]; grind, if_pos rfl, if_pos rfl, h l hl]
      grind) r hr
    rw [if_pos rfl, if_neg ne] at this
    have e : (1 : T) + -1 * 0 = 1 := by clear this c h hinv; grind
    exact absurd (e.symm.trans this) ne1
/-- rows and columns exchanged -/
theorem dt_tr {n : Nat} (ne1 : (1 : T) ≠ 0) (hinv : ∀ x : T, x ≠ 0 → ∃ u, x * u = 1) (A : Nat → Nat → T) : dt n (fun i j => A j i) = dt n A := by
  have hF : Alt (T := T) n fun A => dt n fun i j => A j i :=
    ⟨fun {A A'} h => dt_congr fun r hr c hc => h c hc r hr, fun x {A A' C s} hs h1 h2 => dt_collin x hs (fun r hr c hc ne => h1 c hc ne r hr) fun r hr => h2 r hr, fun {A r s} hr hs ne h => dt_coleq ne1 hinv hr hs ne fun i hi => h i hi⟩
  have := alt_dt (F := fun A => dt n fun i j => A j i) hinv hF A
  have e : dt n (fun i j => (mid : Nat → Nat → T) j i) = 1 := by
    rw [← dt_mid (n := n) (T := T)]
    exact dt_congr fun r _ c _ => by unfold mid; by_cases c1 : c = r <;> simp [c1]; intro z; exact absurd z.symm c1
  rw [this, e]
  grind
end
/-! ### Hadamard's bound -/
section
open Lean.Grind
def ip (n : Nat) (u v : Nat → Rat) : Rat := sm n fun c => u c * v c
theorem ip_sub (n : Nat) (w v z : Nat → Rat) (x : Rat) : ip n (fun c => x * v c + w c) z = x * ip n v z + ip n w z := by
  unfold ip
  rw [← sm_mul_left, ← sm_add]
  exact sm_congr fun c _ => by grind
theorem ip_comm (n : Nat) (u v : Nat → Rat) : ip n u v = ip n v u := sm_congr fun c _ => by grind
theorem sq_nonneg' (x : Rat) : 0 ≤ x * x := by
  rcases (Rat.le_total : 0 ≤ x ∨ x ≤ 0) with h | h
  · exact Rat.mul_nonneg h h
  · have : 0 ≤ -x * -x := Rat.mul_nonneg (by grind) (by grind)
    grind
theorem ip_nonneg (n : Nat) (u : Nat → Rat) : 0 ≤ ip n u u := by
  unfold ip
  induction n with
  | zero => exact Rat.le_refl
  | succ n ih =>
    show 0 ≤ sm n _ + u n * u n
    have := sq_nonneg' (u n)
    grind
theorem ip_zero (n : Nat) (u v : Nat → Rat) (h : ip n v v = 0) : ip n u v = 0 := by
  unfold ip at h ⊢
  induction n with
  | zero => rfl
  | succ n ih =>
    have h : sm n (fun c => v c * v c) + v n * v n = 0 := h
    have h1 := ip_nonneg n v
    unfold ip at h1
    have h2 := sq_nonneg' (v n)
    have h3 : sm n (fun c => v c * v c) = 0 := by grind
    have h4 : v n * v n = 0 := by grind
    show sm n _ + u n * v n = 0
    have h5 : v n = 0 := by
      rcases Rat.mul_eq_zero.mp h4 with z | z <;> exact z
    rw [ih h3, h5]
    grind
theorem rat_inv' : ∀ x : Rat, x ≠ 0 → ∃ u, x * u = 1 := fun x h => ⟨x⁻¹, Rat.mul_inv_cancel x h⟩
/-- one row made orthogonal to those ahead -/
theorem gs_row {n t : Nat} {B : Nat → Nat → Rat} (ht : t < n) (ho : ∀ i j, i < t → j < i → ip n (B i) (B j) = 0) : ∀ s, s ≤ t → ∃ w : Nat → Rat, dt n (put B t w) = dt n B ∧ (∀ i, i < s → ip n w (B i) = 0) ∧ ip n w w ≤ ip n (B t) (B t) := by
  intro s
  induction s with
  | zero => intro _; exact ⟨B t, dt_congr fun i _ c _ => by unfold put; by_cases e : i = t <;> simp [e], fun i hi => absurd hi (Nat.not_lt_zero _), Rat.le_refl⟩
  | succ s ih =>
    intro hs
    obtain ⟨w, h1, h2, h3⟩ := ih (by omega)
    by_cases z : ip n (B s) (B s) = 0
    · refine ⟨w, h1, fun i hi => ?_, h3⟩
      by_cases e : i = s
      · rw [e]; exact ip_zero n w (B s) z
      · exact h2 i (by omega)
    · obtain ⟨u, hu⟩ := rat_inv' _ z
      have hq := ip_nonneg n (B s)
      have e0 : ∀ y, ip n (fun c => -(ip n w (B s) * u) * B s c + w c) y = -(ip n w (B s) * u) * ip n (B s) y + ip n w y := fun y => ip_sub n w (B s) y _
      refine ⟨fun c => -(ip n w (B s) * u) * B s c + w c, ?_, fun i hi => ?_, ?_⟩
      · rw [← h1]
        refine dt_addrow (r := s) (s := t) (by omega) ht (by omega) (-(ip n w (B s) * u)) (fun c _ => ?_) fun i _ ne c _ => ?_
        · rw [put_same, put_same, put_other (by omega)]
        · rw [put_other ne, put_other ne]
      · rw [e0]
        by_cases e : i = s
        · rw [e]; grind
        · rw [ho s i (by omega) (by omega), h2 i (by omega)]; grind
      · refine Rat.le_trans ?_ h3
        have a2 := (ip_comm n (B s) (fun c => -(ip n w (B s) * u) * B s c + w c)).trans (e0 (B s))
        have a3 := (ip_comm n w (fun c => -(ip n w (B s) * u) * B s c + w c)).trans (e0 w)
        have a1 := e0 fun c => -(ip n w (B s) * u) * B s c + w c
        rw [a1, a2, a3, ip_comm n (B s) w]
        clear a1 a2 a3 e0
        generalize ip n (B s) (B s) = q at *
        generalize ip n w (B s) = a at *
        have hu0 : 0 ≤ u := by
          have h5 : 0 ≤ q * (u * u) := Rat.mul_nonneg hq (sq_nonneg' u)
          have h6 : q * (u * u) = q * u * u := by clear h5; grind
          rw [h6, hu, Rat.one_mul] at h5
          exact h5
        have h5 := Rat.mul_nonneg (sq_nonneg' a) hu0
        have h6 : ∀ N : Rat, -(a * u) * (-(a * u) * q + a) + (-(a * u) * a + N) = a * a * u * (q * u) + (N - a * a * u - a * a * u) := fun N => by clear h5 hu hq h1 h2 h3 ih; grind
        rw [h6, hu]
        clear h6 h1 h2 ih hu
        grind
theorem gs {n : Nat} (A : Nat → Nat → Rat) : ∀ t, t ≤ n → ∃ B : Nat → Nat → Rat, dt n B = dt n A ∧ (∀ i, i < n → ip n (B i) (B i) ≤ ip n (A i) (A i)) ∧ (∀ i j, i < t → j < i → ip n (B i) (B j) = 0) := by
  intro t
  induction t with
  | zero => intro _; exact ⟨A, rfl, fun i _ => Rat.le_refl, fun i j hi => absurd hi (Nat.not_lt_zero _)⟩
  | succ t ih =>
    intro ht
    obtain ⟨B, h1, h2, h3⟩ := ih (by omega)
    obtain ⟨w, g1, g2, g3⟩ := gs_row (show t < n by omega) h3 t (Nat.le_refl t)
    refine ⟨put B t w, g1.trans h1, fun i hi => ?_, fun i j hi hj => ?_⟩
    · by_cases e : i = t
      · subst e; rw [put_same]; exact Rat.le_trans g3 (h2 i hi)
      · rw [put_other e]; exact h2 i hi
    · by_cases e : i = t
      · subst e; rw [put_same, put_other (by omega)]; exact g2 j hj
      · rw [put_other e, put_other (by omega)]; exact h3 i j (by omega) hj
theorem pr_le {n : Nat} {f g : Nat → Rat} (h : ∀ i, i < n → 0 ≤ f i ∧ f i ≤ g i) : 0 ≤ pr n f ∧ pr n f ≤ pr n g := by
  induction n with
  | zero => exact ⟨by show (0 : Rat) ≤ 1; decide, Rat.le_refl⟩
  | succ n ih =>
    obtain ⟨a, b⟩ := ih fun i hi => h i (by omega)
    obtain ⟨c, d⟩ := h n (by omega)
    refine ⟨Rat.mul_nonneg a c, ?_⟩
    show pr n f * f n ≤ pr n g * g n
    have h1 : 0 ≤ (pr n g - pr n f) * g n := Rat.mul_nonneg (by grind) (by grind)
    have h2 : 0 ≤ pr n f * (g n - f n) := Rat.mul_nonneg a (by grind)
    grind
/-- the square of a determinant is at most the product of the squares of its rows -/
theorem hadamard {n : Nat} (A : Nat → Nat → Rat) : dt n A * dt n A ≤ pr n fun i => ip n (A i) (A i) := by
  obtain ⟨B, h1, h2, h3⟩ := gs A n (Nat.le_refl n)
  have e1 : dt n (mmul n B fun i j => B j i) = dt n B * dt n B := by
    rw [dt_mul rat_inv', dt_tr (by decide) rat_inv']
  have e2 : dt n (mmul n B fun i j => B j i) = pr n fun i => ip n (B i) (B i) := dt_up fun i hi c hc => h3 i c hi hc
  rw [← h1, ← e1, e2]
  exact (pr_le fun i hi => ⟨ip_nonneg n (B i), h2 i hi⟩).2
end
section
open Lean.Grind
theorem rc_sm (n : Nat) (f : Nat → Int) : ((sm n f : Int) : Rat) = sm n fun i => ((f i : Int) : Rat) := by
  induction n with
  | zero => rfl
  | succ n ih => show ((sm n f + f n : Int) : Rat) = sm n _ + _; rw [Rat.intCast_add, ih]
theorem rc_sgn (n : Nat) : (((sgn n : Int) : Int) : Rat) = sgn n := by
  induction n with
  | zero => rfl
  | succ n ih => show ((-(sgn n : Int) : Int) : Rat) = -sgn n; rw [Rat.intCast_neg, ih]
theorem rc_dt (n : Nat) : ∀ A : Nat → Nat → Int, ((dt n A : Int) : Rat) = dt n fun i j => ((A i j : Int) : Rat) := by
  induction n with
  | zero => intro A; rfl
  | succ n ih =>
    intro A
    show ((sm (n + 1) _ : Int) : Rat) = sm (n + 1) _
    rw [rc_sm]
    exact sm_congr fun i _ => by rw [Rat.intCast_mul, Rat.intCast_mul, rc_sgn, ih]
theorem rc_pr (n : Nat) (f : Nat → Int) : ((pr n f : Int) : Rat) = pr n fun i => ((f i : Int) : Rat) := by
  induction n with
  | zero => rfl
  | succ n ih => show ((pr n f * f n : Int) : Rat) = pr n _ * _; rw [Rat.intCast_mul, ih]
theorem hada_int {n : Nat} (A : Nat → Nat → Int) : dt n A * dt n A ≤ pr n fun i => sm n fun c => A i c * A i c := by
  have h := hadamard (n := n) fun i j => ((A i j : Int) : Rat)
  rw [← rc_dt, ← Rat.intCast_mul] at h
  have e : (pr n fun i => ip n (fun j => ((A i j : Int) : Rat)) fun j => ((A i j : Int) : Rat)) = ((pr n fun i => sm n fun c => A i c * A i c : Int) : Rat) := by
    rw [rc_pr]
    refine pr_congr fun i _ => ?_
    rw [rc_sm]
    exact sm_congr fun c _ => (Rat.intCast_mul _ _).symm
  rw [e] at h
  exact Rat.intCast_le_intCast.mp h
theorem pr_sq (n : Nat) (b : Nat → Int) : (pr n fun i => b i * b i) = pr n b * pr n b := by
  induction n with
  | zero => rfl
  | succ n ih => show pr n _ * (b n * b n) = pr n b * b n * (pr n b * b n); rw [ih]; grind
theorem pr_le_int {n : Nat} {f g : Nat → Int} (h : ∀ i, i < n → 0 ≤ f i ∧ f i ≤ g i) : 0 ≤ pr n f ∧ pr n f ≤ pr n g := by
  induction n with
  | zero => exact ⟨by show (0 : Int) ≤ 1; decide, Int.le_refl _⟩
  | succ n ih =>
    obtain ⟨a, b⟩ := ih fun i hi => h i (by omega)
    obtain ⟨c, d⟩ := h n (by omega)
    exact ⟨Int.mul_nonneg a c, Int.mul_le_mul b d c (by omega)⟩
/-- a determinant is at most the product of the lengths of its rows -/
theorem dt_bound {n : Nat} (A : Nat → Nat → Int) (b : Nat → Int) (h : ∀ i, i < n → 0 ≤ b i ∧ (sm n fun c => A i c * A i c) ≤ b i * b i) : ((dt n A).natAbs : Int) ≤ pr n b := by
  have h1 := hada_int (n := n) A
  have nn : ∀ i, 0 ≤ sm n fun c => A i c * A i c := fun i => by
    clear h h1
    induction n with
    | zero => exact Int.le_refl _
    | succ n ih =>
      show 0 ≤ sm n _ + A i n * A i n
      have : 0 ≤ A i n * A i n := by
        rcases Int.le_total 0 (A i n) with z | z
        · exact Int.mul_nonneg z z
        · have := Int.mul_nonneg (show 0 ≤ -A i n by omega) (show 0 ≤ -A i n by omega)
          rwa [Int.neg_mul_neg] at this
      omega
  have h2 := (pr_le_int (n := n) fun i hi => ⟨nn i, (h i hi).2⟩).2
  rw [pr_sq] at h2
  have h3 := (pr_le_int (n := n) (f := fun _ => 0) (g := b) fun i hi => ⟨Int.le_refl 0, (h i hi).1⟩)
  have h4 : 0 ≤ pr n b := by omega
  have h5 : ((dt n A).natAbs : Int) * ((dt n A).natAbs : Int) ≤ pr n b * pr n b := by
    rw [Int.natAbs_mul_self']
    omega
  rcases Int.lt_or_le (pr n b) ((dt n A).natAbs : Int) with z | z
  · have g1 : pr n b * pr n b ≤ pr n b * ((dt n A).natAbs : Int) := Int.mul_le_mul_of_nonneg_left (Int.le_of_lt z) h4
    have g2 : pr n b * ((dt n A).natAbs : Int) < ((dt n A).natAbs : Int) * ((dt n A).natAbs : Int) := Int.mul_lt_mul_of_pos_right z (by omega)
    omega
  · exact z
end
/-! ### the law's determinant -/
def ol (l : List Nat) : D := .fl (l.map nint)
theorem ords_len : ∀ k, k ≤ 5 → (ords k).length ≤ 120 := by
  intro k hk
  rcases (show k = 0 ∨ k = 1 ∨ k = 2 ∨ k = 3 ∨ k = 4 ∨ k = 5 by omega) with rfl | rfl | rfl | rfl | rfl | rfl <;> decide +kernel
theorem flat_len {α β : Type} (l : List α) (g : α → List β) (c : Nat) (h : ∀ x ∈ l, (g x).length = c) : (l.flatMap g).length = l.length * c := by
  induction l with
  | nil => show 0 = 0 * c; omega
  | cons x l ih => rw [List.flatMap_cons, List.length_append, h x (List.mem_cons_self ..), ih fun y hy => h y (List.mem_cons_of_mem _ hy), List.length_cons, Nat.add_mul]; omega
def a_orders : ASp := fun ds S Q _ => ∃ n : Nat, ds = [.int (n : Nat)] ∧ n ≤ 5 ∧ Q (.fl ((ords n).map ol)) S
theorem len_orders : ∀ ds S Q XX, a_orders ds S Q XX → ds.length = 1 := by rintro ds S Q XX ⟨_, rfl, _⟩; rfl
theorem p_orders : ∀ ds S Q XX, Closed S → a_orders ds S Q XX → w__law_orders (endOf Q S.length) (startD ["n", "found", "k", "longer", "one_v", "i"] ds) S (GivesX XX S.length) := by
  rintro ds S Q XX hC ⟨n, rfl, hn, q⟩
  unfold w__law_orders
  walk_at "ax"
  rw [Int.toNat_natCast]
  refine ⟨by omega, ?_⟩
  refine rng_cut 0 n (fun k σ S' => S = S' ∧ ∃ a b c, σ = [some (.int (n : Nat)), some (.fl ((ords k).map ol)), a, b, c, none]) ⟨rfl, _, _, _, rfl⟩ ?_ ?_
  · rintro k σ S1 R2 hk ⟨rfl, a, b, c, rfl⟩ hR2
    rw [Int.zero_add]
    walk_at "ax"
    have hlen := ords_len k (by omega)
    refine forl_cut ((ords k).map ol) (fun j σ S' => S = S' ∧ ∃ c, σ = [some (.int (n : Nat)), some (.fl ((ords k).map ol)), some (.int (k : Nat)), some (.fl ((((ords k).take j).flatMap fun l => (List.range (k + 1)).map fun i => ins i k l).map ol)), c, none]) ⟨rfl, _, rfl⟩ ?_ ?_
    · rintro j d σ S1 R3 hd ⟨rfl, c, rfl⟩ hR3
      obtain ⟨l, hl, rfl⟩ := map_get hd
      obtain ⟨l1, l2⟩ := ords_ok l (get_mem hl)
      have hj := (List.getElem?_eq_some_iff.mp hl).1
      rw [show ol l = .fl (l.map nint) from rfl]
      walk_at "ax"
      rw [rangeD_len, show ((k : Int) + 1).toNat = k + 1 by omega]
      refine ⟨by omega, by omega, ?_⟩
      refine lcL_range 0 (k + 1) (fun i => ol (ins i k l)) ?_ ?_
      · intro i acc R4 hi hR4
        rw [Int.zero_add]
        walk_at "ax"
        rw [if_pos True.intro, cutL_to _ (by omega) (by rw [List.length_map]; omega), cutL_from _ (by omega), Int.toNat_natCast]
        have e : (l.map nint).take i ++ [D.int (k : Nat)] ++ (l.map nint).drop i = (ins i k l).map nint := by
          unfold ins
          rw [List.map_append, List.map_append, List.map_take, List.map_drop]
          rfl
        rw [e]
        refine ⟨by rw [List.length_take, List.length_map]; omega, by rw [List.length_append, List.length_take, List.length_drop, List.length_map]; show _ + 1 + _ ≤ _; omega, ?_⟩
        exact hR4
      walk_at "ax"
      rw [flat_len _ _ (k + 1) fun x _ => by rw [List.length_map, List.length_range], List.length_take, List.length_range]
      refine ⟨?_, ?_⟩
      · have : min j (ords k).length * (k + 1) ≤ 120 * 6 := Nat.mul_le_mul (by omega) (by omega)
        omega
      have e : (((ords k).take (j + 1)).flatMap fun l => (List.range (k + 1)).map fun i => ins i k l).map ol = (((ords k).take j).flatMap fun l => (List.range (k + 1)).map fun i => ins i k l).map ol ++ (List.range (k + 1)).map fun i => ol (ins i k l) := by
        rw [List.take_succ, hl, show Option.toList (some l) = [l] from rfl, List.flatMap_append, List.map_append, List.flatMap_cons, List.flatMap_nil, List.append_nil, List.map_map]
        rfl
      rw [e] at hR3
      exact hR3 _ _ ⟨rfl, _, rfl⟩
    · rintro σ S1 ⟨rfl, c, rfl⟩
      rw [List.length_map, List.take_length] 
      walk_at "ax"
      exact hR2 _ _ ⟨rfl, _, _, _, rfl⟩
  · rintro σ S1 ⟨rfl, a, b, c, rfl⟩
    walk_at "ax"
    exact gives_now q
/-! ### the sign of an order -/
def sgz (n : Nat) : Int := sgn n
theorem sgz_succ (n : Nat) : sgz (n + 1) = 0 - sgz n := by show -sgn n = 0 - (sgn n : Int); omega
def a_lsign : ASp := fun ds S Q _ => ∃ l : List Nat, ds = [ol l] ∧ l.length < 1000 ∧ Q (.int (sgz (inv l))) S
theorem len_lsign : ∀ ds S Q XX, a_lsign ds S Q XX → ds.length = 1 := by rintro ds S Q XX ⟨_, rfl, _⟩; rfl
theorem p_lsign : ∀ ds S Q XX, Closed S → a_lsign ds S Q XX → w__law_sign (endOf Q S.length) (startD ["order", "sign", "i", "j"] ds) S (GivesX XX S.length) := by
  rintro ds S Q XX hC ⟨l, rfl, hl, q⟩
  have at_l : ∀ {i x : Nat} {Q' : D → Prop}, l[i]? = some x → atQ (l.map nint) ((i : Nat) : Int) Q' = Q' (.int (x : Nat)) := fun {i x Q'} h => atQ_of (atI_of (by omega) (by rw [Int.toNat_natCast, List.getElem?_map, h]; rfl))
  unfold w__law_sign
  rw [show ol l = .fl (l.map nint) from rfl]
  walk_at "ax"
  rw [Int.toNat_natCast]
  refine ⟨by omega, ?_⟩
  refine rng_cut 0 l.length (fun i σ S' => S = S' ∧ ∃ a b, σ = [some (.fl (l.map nint)), some (.int (sgz (inv (l.take i)))), a, b]) ⟨rfl, _, _, rfl⟩ ?_ ?_
  · rintro i σ S1 R2 hi ⟨rfl, a, b, rfl⟩ hR2
    rw [Int.zero_add]
    have hx : l[i]? = some l[i] := List.getElem?_eq_getElem hi
    generalize l[i] = x at hx
    walk_at "ax"
    rw [Int.toNat_natCast]
    refine ⟨by omega, ?_⟩
    refine rng_cut 0 i (fun j σ S' => S = S' ∧ ∃ b, σ = [some (.fl (l.map nint)), some (.int (sgz (inv (l.take i) + ((l.take j).filter fun y => decide (x < y)).length))), some (.int (i : Nat)), b]) ⟨rfl, _, rfl⟩ ?_ ?_
    · rintro j σ S1 R3 hj ⟨rfl, b, rfl⟩ hR3
      rw [Int.zero_add]
      have hjl : j < l.length := by omega
      have hy : l[j]? = some l[j] := List.getElem?_eq_getElem hjl
      generalize l[j] = y at hy
      walk_at "ax"
      rw [at_l hy]
      walk_at "ax"
      rw [at_l hx]
      walk_at "ax"
      by_cases c : x < y
      · rw [if_pos (show ((x : Nat) : Int) < (y : Nat) by omega)]
        walk_at "ax"
        rw [List.take_succ, hy, List.filter_append, List.length_append, show Option.toList (some y) = [y] from rfl, List.filter_cons, if_pos (decide_eq_true c), List.filter_nil, show [y].length = 1 from rfl, ← Nat.add_assoc, sgz_succ] at hR3
        exact hR3 _ _ ⟨rfl, _, rfl⟩
      · rw [if_neg (show ¬((x : Nat) : Int) < (y : Nat) by omega)]
        walk_at "ax"
        rw [List.take_succ, hy, List.filter_append, List.length_append, show Option.toList (some y) = [y] from rfl, List.filter_cons, if_neg (by rw [decide_eq_false c]; decide), List.filter_nil] at hR3
        exact hR3 _ _ ⟨rfl, _, rfl⟩
    · rintro σ S1 ⟨rfl, b, rfl⟩
      rw [List.take_succ, hx, show Option.toList (some x) = [x] from rfl, inv_snoc] at hR2
      exact hR2 _ _ ⟨rfl, _, _, rfl⟩
  · rintro σ S1 ⟨rfl, a, b, rfl⟩
    rw [List.take_length]
    walk_at "ax"
    exact gives_now q
/-! ### the sum -/
theorem sg_has {k : Dk} (ok : k.base.ok) (n : Nat) : k.Has 0 1 (sgn n) := by
  induction n with
  | zero => exact k.has_o ok
  | succ n ih => exact has_neg ih
theorem sgz_val {R : Type} [Lean.Grind.CommRing R] (n : Nat) : (Lean.Grind.Ring.intCast.intCast (sgz n) : R) = sgn n := by
  induction n with
  | zero => exact num1
  | succ n ih => rw [sgz_succ, show (0 : Int) - sgz n = -sgz n by omega, num_neg, ih]; rfl
def a_ldet : ASp := fun ds S Q _ => ∃ (k : Dk) (n : Nat) (A : Mt k) (e L l : Nat), ds = [k.dom, k.em n n A] ∧ k.base.ok ∧ n ≤ 5 ∧ k.MHas e L n n A ∧ 0 < L ∧ (n + 1) * (L + 1) ≤ 2 ^ l ∧ (n + 1) * (L + 1) < 1000000 ∧ 121 * (n * (e + l) + 1) + e + l < 45000000 ∧
  (k.Has (121 * (n * (e + l) + 1)) ((n + 1) * (L + 1)) (dt n A) → Q (k.en (dt n A)) S)
theorem len_ldet : ∀ ds S Q XX, a_ldet ds S Q XX → ds.length = 2 := by rintro ds S Q XX ⟨_, _, _, _, _, _, rfl, _⟩; rfl
noncomputable def lterm {k : Dk} (A : Mt k) (i : Nat) (l : List Nat) : k.R := sgn (inv l) * pr i fun i => A i (l.getD i 0)
theorem p_ldet : ∀ ds S Q XX, Closed S → a_ldet ds S Q XX → w__law_determinant a_zero a_orders a_int a_lsign a_mul a_add (endOf Q S.length) (startD ["d", "a", "total", "order", "term", "i"] ds) S (GivesX XX S.length) := by
  rintro ds S Q XX hC ⟨k, n, A, e, L, l, rfl, ok, hn, hA, hL0, hL, hLb, hb, q⟩
  unfold w__law_determinant
  walk_at "ax"
  refine zero_at ok fun _ => ?_
  walk_at "ax"
  rw [em_ix0]
  walk_at "ax"
  refine ⟨n, rfl, hn, ?_⟩
  walk_at "ax"
  have hlen := ords_len n hn
  refine forl_cut ((ords n).map ol) (fun j σ S' => S = S' ∧ k.Has (j * (n * (e + l) + 1)) ((n + 1) * (L + 1)) (lsm ((ords n).take j) (lterm A n)) ∧ ∃ a b c, σ = [some k.dom, some (k.em n n A), some (k.en (lsm ((ords n).take j) (lterm A n))), a, b, c])
    ⟨rfl, (k.has_zero ok).mono (Nat.zero_le _) (by show 1 ≤ _; exact Nat.mul_pos (by omega) (by omega)), _, _, _, rfl⟩ ?_ ?_
  · rintro j d σ S1 R2 hd ⟨rfl, ht, a, b, c, rfl⟩ hR2
    obtain ⟨o, ho, rfl⟩ := map_get hd
    obtain ⟨o1, o2⟩ := ords_ok o (get_mem ho)
    have hj := (List.getElem?_eq_some_iff.mp ho).1
    walk_at "ax"
    refine ⟨o, rfl, by omega, ?_⟩
    walk_at "ax"
    refine num_at (k := k) (v := sgn (inv o)) (sgz_val _) ?_
    walk_at "ax"
    rw [em_ix0]
    walk_at "ax"
    rw [Int.toNat_natCast]
    refine ⟨by omega, ?_⟩
    have e0 : lterm A 0 o = sgn (inv o) := by show _ * (1 : k.R) = _; grind
    rw [← e0]
    refine rng_cut 0 n (fun i σ S' => S = S' ∧ k.Has (i * (e + l)) (i * L + 1) (lterm A i o) ∧ ∃ c, σ = [some k.dom, some (k.em n n A), some (k.en (lsm ((ords n).take j) (lterm A n))), some (ol o), some (k.en (lterm A i o)), c])
      ⟨rfl, by rw [e0]; exact (sg_has ok _).mono (Nat.zero_le _) (by omega), _, rfl⟩ ?_ ?_
    · rintro i σ S1 R3 hi ⟨rfl, hh, c, rfl⟩ hR3
      rw [Int.zero_add]
      have hx : o[i]? = some o[i] := List.getElem?_eq_getElem (by omega)
      generalize o[i]'(by omega) = x at hx
      have hxn := o2 x (get_mem hx)
      walk_at "ax"
      rw [em_ix2]
      walk_at "ax"
      rw [atQ_of (Dk.rs_at hi)]
      rw [show ol o = .fl (o.map nint) from rfl]
      walk_at "ax"
      rw [atQ_of (atI_of (d := .int (x : Nat)) (by omega) (by rw [Int.toNat_natCast, List.getElem?_map, hx]; rfl))]
      simp only [Dk.ev]
      walk_at "ax"
      rw [atQ_of (Dk.vs_at hxn)]
      walk_at "ax"
      have a1 : (i + 1) * L ≤ (n + 1) * L := Nat.mul_le_mul_right _ (by omega)
      have a2 : (n + 1) * (L + 1) = (n + 1) * L + (n + 1) := Nat.mul_succ _ _
      have a3 : (i + 1) * L = i * L + L := Nat.succ_mul _ _
      have a4 : i * (e + l) ≤ n * (e + l) := Nat.mul_le_mul_right _ (by omega)
      have a5 : (i + 1) * (e + l) = i * (e + l) + (e + l) := Nat.succ_mul _ _
      refine mul_at hh (hA i hi x hxn) (l := l) (by omega) (by omega) fun h2 => ?_
      walk_at "ax"
      have e2 : lterm A i o * A i x = lterm A (i + 1) o := by
        show sgn _ * pr i _ * A i x = sgn _ * (pr i _ * A i (o.getD i 0))
        rw [List.getD_eq_getElem?_getD, hx]
        show _ = sgn _ * (pr i _ * A i x)
        grind
      rw [e2] at h2 ⊢
      exact hR3 _ _ ⟨rfl, h2.mono (by omega) (by omega), _, rfl⟩
    · rintro σ S1 ⟨rfl, hh, c, rfl⟩
      walk_at "ax"
      have a2 : (n + 1) * (L + 1) = (n + 1) * L + (n + 1) := Nat.mul_succ _ _
      have a3 : (n + 1) * L = n * L + L := Nat.succ_mul _ _
      have a4 : j * (n * (e + l) + 1) ≤ 120 * (n * (e + l) + 1) := Nat.mul_le_mul_right _ (by omega)
      have a5 : (j + 1) * (n * (e + l) + 1) = j * (n * (e + l) + 1) + (n * (e + l) + 1) := Nat.succ_mul _ _
      refine add_at ht hh (by omega) fun h2 => ?_
      walk_at "ax"
      have e2 : lsm ((ords n).take (j + 1)) (lterm A n) = lsm ((ords n).take j) (lterm A n) + lterm A n o := by
        rw [List.take_succ, ho, show Option.toList (some o) = [o] from rfl, lsm_append]
        show _ + (lterm A n o + 0) = _
        grind
      rw [e2] at hR2
      exact hR2 _ _ ⟨rfl, h2.mono (by omega) (by omega), _, _, _, rfl⟩
  · rintro σ S1 ⟨rfl, ht, a, b, c, rfl⟩
    rw [List.length_map, List.take_length] at ht ⊢
    have e1 : lsm (ords n) (lterm A n) = dt n A := dt_ords A
    rw [e1] at ht ⊢
    walk_at "ax"
    exact gives_now (q (ht.mono (Nat.mul_le_mul_right _ (by omega)) (Nat.le_refl _)))
/-! ### integer matrices of low rank -/
def a_zlow : ASp := fun ds S Q _ => ∃ (c : Nat) (m n : Nat), ds = [.ref c, .int (m : Nat), .int (n : Nat)] ∧ Dr S c ∧ m ≤ 6 ∧ n ≤ 6 ∧ ∀ (A : Mt (.b .z)) S', (Dk.b .z).MHas 90 3 m n A → DrTo S c S' → Q ((Dk.b .z).em m n A) S'
theorem len_zlow : ∀ ds S Q XX, a_zlow ds S Q XX → ds.length = 3 := by rintro ds S Q XX ⟨_, _, _, rfl, _⟩; rfl
theorem p_zlow : ∀ ds S Q XX, Closed S → a_zlow ds S Q XX → w__law_low a_take a_lmatrix a_product (endOf Q S.length) (startD ["c", "m", "n", "d", "k", "r"] ds) S (GivesX XX S.length) := by
  rintro ds S Q XX hC ⟨c, m, n, rfl, hd, hm, hn, q⟩
  have ok : (Dk.b .z).base.ok := trivial
  unfold w__law_low
  walk_at "ax"
  refine ⟨c, 5, rfl, hd, by omega, fun r1 S1 t1 a0 a1 => ?_⟩
  have h1 := hd.to t1
  have plain : ∀ {Q' : VKD} {X'}, (∀ (A : Mt (.b .z)) S2, (Dk.b .z).MHas 6 2 m n A → DrTo S c S2 → Q' ((Dk.b .z).em m n A) S2) → a_lmatrix [.ref c, .tup [.str "Z"], .int (m : Nat), .int (n : Nat)] S1 Q' X' := fun {Q' X'} g => ⟨c, .b .z, m, n, rfl, h1, ok, by omega, by omega, fun A S2 hA t2 => g A S2 hA (t1.trans t2)⟩
  walk_at "ax"
  by_cases z : 1 < r1
  · rw [if_pos z]
    walk_at "ax"
    exact plain fun A S2 hA t2 => gives_now (q A S2 (MHas_mono hA (by omega) (by omega)) t2)
  rw [if_neg z]
  walk_at "ax"
  by_cases zm : (m : Int) < 1
  · rw [if_pos zm]
    walk_at "ax"
    exact plain fun A S2 hA t2 => gives_now (q A S2 (MHas_mono hA (by omega) (by omega)) t2)
  rw [if_neg zm]
  walk_at "ax"
  by_cases zn : (n : Int) < 1
  · rw [if_pos zn]
    walk_at "ax"
    exact plain fun A S2 hA t2 => gives_now (q A S2 (MHas_mono hA (by omega) (by omega)) t2)
  rw [if_neg zn]
  walk_at "ax"
  refine ⟨c, _, rfl, h1, by omega, fun r2 S2 t2 b0 b1 => ?_⟩
  have h2 := h1.to t2
  obtain ⟨r, rfl⟩ : ∃ r : Nat, r2 = (r : Nat) := ⟨r2.toNat, by omega⟩
  have hr : r ≤ 6 := by omega
  walk_at "ax"
  refine ⟨c, .b .z, m, r, rfl, h2, ok, by omega, by omega, fun A S3 hA t3 => ?_⟩
  walk_at "ax"
  refine ⟨c, .b .z, r, n, rfl, h2.to t3, ok, by omega, by omega, fun B S4 hB t4 => ?_⟩
  walk_at "ax"
  have hd6 : dotE r 6 6 2 ≤ 6 * 15 := Nat.mul_le_mul_right _ hr
  refine ⟨.b .z, m, r, n, A, B, 6, 2, 6, 2, 2, rfl, ok, hA, hB, by omega, by omega, fun hAB => ?_⟩
  exact gives_now (q _ S4 (MHas_mono hAB (by omega) (by omega)) (((t1.trans t2).trans t3).trans t4))
/-! ### roots -/
def a_root : ASp := fun ds S Q _ => ∃ n : Int, ds = [.int n] ∧ n.natAbs < 2 ^ 1000 ∧ ∀ r : Int, (n < 2 → r = n) → (2 ≤ n → 0 < r ∧ r * r ≤ n ∧ n < (r + 1) * (r + 1)) → Q (.int r) S
theorem len_root : ∀ ds S Q XX, a_root ds S Q XX → ds.length = 1 := by rintro ds S Q XX ⟨n, rfl, _⟩; rfl
theorem newton {n g : Int} (h2 : 2 ≤ n) (hg : 0 < g) (h : n < g * g) :
    0 < (g + n / g) / 2 ∧ (g + n / g) / 2 < g ∧ n < ((g + n / g) / 2 + 1) * ((g + n / g) / 2 + 1) := by
  have g2 : 2 ≤ g := by
    rcases Int.lt_or_le g 2 with x | x
    · rw [show g = 1 by omega] at h; omega
    · exact x
  have q1 : n / g < g := Int.ediv_lt_of_lt_mul hg h
  have q0 : 0 ≤ n / g := Int.ediv_nonneg (by omega) (by omega)
  have qm : n < g * (n / g + 1) := by
    have := Int.lt_mul_ediv_self_add (x := n) (k := g) hg
    rw [Int.mul_add, Int.mul_one]; exact this
  generalize n / g = q at *
  have e1 : g + q + 1 ≤ 2 * ((g + q) / 2 + 1) := by omega
  refine ⟨by omega, by omega, ?_⟩
  generalize (g + q) / 2 + 1 = z at *
  have a : (g + q + 1) * (g + q + 1) ≤ (2 * z) * (2 * z) := Int.mul_le_mul e1 e1 (by omega) (by omega)
  have b : 0 ≤ (g - q - 1) * (g - q - 1) := by
    have := Int.mul_nonneg (a := g - q - 1) (b := g - q - 1) (by omega) (by omega)
    exact this
  have c : (g + q + 1) * (g + q + 1) = (g - q - 1) * (g - q - 1) + 4 * (g * (q + 1)) := by grind
  have d : (2 * z) * (2 * z) = 4 * (z * z) := by grind
  omega
theorem bits_two {n : Int} (h : 2 ≤ n) : n < (2 : Int) ^ (Builtin.Int.intBits n) := by
  unfold Builtin.Int.intBits
  rw [if_neg (by simp; omega)]
  have := Nat.lt_log2_self (n := n.natAbs)
  have e : ((2 : Int) ^ (n.natAbs.log2 + 1)) = (((2 : Nat) ^ (n.natAbs.log2 + 1) : Nat) : Int) := by rw [Int.natCast_pow]; rfl
  rw [e]
  omega
theorem bits_le {n : Int} {m : Nat} (h : n.natAbs < 2 ^ m) : Builtin.Int.intBits n ≤ m := by
  unfold Builtin.Int.intBits
  split
  · exact Nat.zero_le _
  · rename_i h0
    have : n.natAbs ≠ 0 := by simp at h0; omega
    exact (Nat.log2_lt this).mpr h
theorem p_root : ∀ ds S Q XX, Closed S → a_root ds S Q XX → w_root (endOf Q S.length) (startD ["n", "guess"] ds) S (GivesX XX S.length) := by
  rintro ds S Q XX hC ⟨n, rfl, hn, q⟩
  unfold w_root
  refine seq_cut (fun σ S' => S = S' ∧ σ = [some (.int n), none] ∧ 2 ≤ n) ?_ ?_
  rotate_left
  · intro R hR
    walk_at "aw"
    split
    · exact gives_now (q n (fun _ => rfl) (fun h => by omega))
    · exact hR _ _ ⟨rfl, rfl, by omega⟩
  rintro _ _ ⟨rfl, rfl, h2⟩
  have hb := bits_le hn
  have hb2 := bits_two h2
  generalize hz : Builtin.Int.intBits n = b at *
  obtain ⟨k, hk, hk2⟩ : ∃ k : Nat, ((b : Int) + 1).fdiv 2 = k ∧ b ≤ k + k ∧ k ≤ 600 := by
    rw [fdiv_pos (by decide)]
    exact ⟨((b : Int) + 1).toNat / 2, by omega, by omega⟩
  walk_at "aw"
  simp only [hz]
  refine ⟨⟨by decide, by decide⟩, ?_⟩
  rw [hk]
  refine ⟨by omega, ?_⟩
  have e : ((2 : Int) ^ ((k : Int)).toNat) = (((2 : Nat) ^ k : Nat) : Int) := by rw [Int.natCast_pow]; rfl
  rw [e, Int.one_mul]
  have pk : 0 < (2 : Nat) ^ k := Nat.pow_pos (by decide)
  have lk : (2 : Nat) ^ k ≤ 2 ^ 600 := Nat.pow_le_pow_right (by decide) hk2.2
  have big : n < ((2 ^ k : Nat) : Int) * ((2 ^ k : Nat) : Int) := by
    have a : (2 : Nat) ^ b ≤ 2 ^ k * 2 ^ k := by rw [← Nat.pow_add]; exact Nat.pow_le_pow_right (by decide) hk2.1
    have e2 : ((2 : Int) ^ b) = (((2 : Nat) ^ b : Nat) : Int) := by rw [Int.natCast_pow]; rfl
    rw [e2] at hb2
    rw [← Int.natCast_mul]
    omega
  generalize hG : (2 : Nat) ^ k = G at *
  have up : n < ((G : Int) + 1) * ((G : Int) + 1) := by
    have : ((G : Int) + 1) * ((G : Int) + 1) = (G : Int) * G + 2 * G + 1 := by grind
    omega
  let P : Nat → ASt → Sto → Prop := fun m σ S' => S = S' ∧ ∃ g : Int, 0 < g ∧ g ≤ G ∧ n < (g + 1) * (g + 1) ∧ m = g.toNat ∧ σ = [some (.int n), some (.int g)]
  refine while_cut P G ⟨rfl, G, by omega, by omega, up, by omega, rfl⟩ ?_
  rintro m σ S' R2 ⟨rfl, g, g0, gG, gn, rfl, rfl⟩ hR2
  have gb : g.natAbs < 2 ^ 601 := Nat.lt_of_le_of_lt (show g.natAbs ≤ 2 ^ 600 by omega) (Nat.pow_lt_pow_right (by decide) (by decide))
  walk_at "aw"
  refine ⟨mulOk_of gb gb (by decide), ?_⟩
  split
  · rename_i h
    obtain ⟨a, b, c⟩ := newton h2 g0 h
    rw [fdiv_pos (by omega), fdiv_pos (by omega)]
    refine ⟨divOk_of (by omega) (lt_big gb), divOk_of (by decide) (by decide), ?_⟩
    exact hR2 _ _ _ (by omega) ⟨rfl, _, a, by omega, c, rfl, rfl⟩
  · exact gives_now (q g (fun h => by omega) (fun _ => ⟨g0, by omega, gn⟩))
/-! ### bounds -/
theorem sum_sm (n : Nat) (f : Nat → Int) : ((List.range n).map f).sum = sm n f := by
  induction n with
  | zero => rfl
  | succ n ih => rw [List.range_succ, List.map_append, List.sum_append, ih]; show sm n f + (f n + 0) = sm n f + f n; omega
def Sml (n : Nat) (v : Nat → Int) : Prop := ∀ j, j < n → (v j).natAbs < 2 ^ 100
def a_rowsq : ASp := fun ds S Q _ => ∃ (n : Nat) (v : Vc (.b .z)), ds = [(Dk.b .z).ev n v] ∧ n < 1000 ∧ Sml n v ∧ Q (.int (sm n fun c => v c * v c : Int)) S
theorem len_row_square : ∀ ds S Q XX, a_rowsq ds S Q XX → ds.length = 1 := by rintro ds S Q XX ⟨_, _, rfl, _⟩; rfl
theorem en_z {x : Int} : (Dk.b .z).en x = .int x := rfl
theorem p_row_square : ∀ ds S Q XX, Closed S → a_rowsq ds S Q XX → w_row_square (endOf Q S.length) (startD ["row", "x"] ds) S (GivesX XX S.length) := by
  rintro ds S Q XX hC ⟨n, v, rfl, hn, hv, q⟩
  unfold w_row_square
  simp only [Dk.ev]
  walk_at "ax"
  rw [Dk.vs_len]
  refine ⟨by omega, ?_⟩
  refine lcL_each (List.range n) (fun j => (Dk.b .z).en (v j)) (fun j => .int (v j * v j : Int)) ?_ ?_
  · intro j a acc R ha hR
    have hj : j < n := by have := (List.getElem?_eq_some_iff.mp ha).1; rwa [List.length_range] at this
    rw [List.getElem?_range hj] at ha
    cases ha
    rw [en_z]
    walk_at "ax"
    rw [if_pos True.intro]
    exact ⟨mulOk_of (hv j hj) (hv j hj) (by decide), hR⟩
  walk_at "ax"
  rw [show ((List.range n).map fun j => D.int (v j * v j : Int)) = ((List.range n).map fun j => (v j * v j : Int)).map D.int by rw [List.map_map]; rfl, inQs_map, sum_sm]
  exact gives_now q
def Rt (s r : Int) : Prop := (s < 2 → r = s) ∧ (2 ≤ s → 0 < r ∧ r * r ≤ s ∧ s < (r + 1) * (r + 1))
theorem rt_small {s x : Int} (h0 : 0 ≤ s) (hs : s.natAbs < 2 ^ 240) (h : Rt s x) : 0 ≤ x ∧ x.natAbs < 2 ^ 121 := by
  by_cases c : s < 2
  · have := h.1 c
    exact ⟨by omega, by omega⟩
  · obtain ⟨g0, g1, _⟩ := h.2 (by omega)
    refine ⟨by omega, ?_⟩
    rcases Nat.lt_or_ge x.natAbs (2 ^ 121) with z | z
    · exact z
    · have h1 : (2 ^ 121 : Nat) * 2 ^ 121 ≤ x.natAbs * x.natAbs := Nat.mul_le_mul z z
      have h2 : x.natAbs * x.natAbs = (x * x).natAbs := (Int.natAbs_mul x x).symm
      have h3 : 0 ≤ x * x := Int.mul_nonneg (by omega) (by omega)
      omega
theorem sm_nn (n : Nat) (v : Nat → Int) : 0 ≤ sm n fun c => v c * v c := by
  induction n with
  | zero => exact Int.le_refl _
  | succ n ih =>
    show 0 ≤ sm n _ + v n * v n
    have : 0 ≤ v n * v n := by
      rcases Int.le_total 0 (v n) with z | z
      · exact Int.mul_nonneg z z
      · have := Int.mul_nonneg (show 0 ≤ -v n by omega) (show 0 ≤ -v n by omega)
        rwa [Int.neg_mul_neg] at this
    omega
def a_dbound (e : XN → Value) : ASp := fun ds S Q _ => ∃ (n : Nat) (A : Mt (.b .z)), ds = [(Dk.b .z).em n n A] ∧ n ≤ 5 ∧ (∀ i, i < n → Sml n (A i) ∧ (sm n fun c => A i c * A i c : Int).natAbs < 2 ^ 240) ∧ ∀ r : Nat → Int, (∀ i, i < n → Rt (sm n fun c => A i c * A i c) (r i)) → Q (.int (pr n fun i => r i + 1)) S
theorem len_dbound {e : XN → Value} : ∀ ds S Q XX, a_dbound e ds S Q XX → ds.length = 1 := by rintro ds S Q XX ⟨_, _, rfl, _⟩; rfl
theorem p_dbound {e : XN → Value} : ∀ ds S Q XX, Closed S → a_dbound e ds S Q XX → w_determinant_bound (a_needq e) a_root a_rowsq (endOf Q S.length) (startD ["a", "bound", "row"] ds) S (GivesX XX S.length) := by
  rintro ds S Q XX hC ⟨n, A, rfl, hn, hA, q⟩
  unfold w_determinant_bound
  walk_at "ax"
  refine needq_ok ?_
  walk_at "ax"
  rw [em_ix2]
  walk_at "ax"
  refine forl_cut ((Dk.b .z).rs n n A) (fun i σ S' => S = S' ∧ ∃ r : Nat → Int, (∀ l, l < i → Rt (sm n fun c => A l c * A l c) (r l)) ∧ (pr i fun l => r l + 1).natAbs < 2 ^ (123 * i + 1) ∧ ∃ a, σ = [some ((Dk.b .z).em n n A), some (.int (pr i fun l => r l + 1)), a]) ⟨rfl, fun _ => 0, fun l h => absurd h (Nat.not_lt_zero _), by show (1 : Int).natAbs < 2 ^ 1; decide, _, rfl⟩ ?_ ?_
  · rintro i d σ S1 R2 hd ⟨rfl, r, hr, hb, a, rfl⟩ hR2
    have hi : i < n := by rw [← (Dk.b .z).rs_len n n A]; exact (List.getElem?_eq_some_iff.mp hd).1
    rw [Dk.rs_get hi] at hd
    cases hd
    obtain ⟨g1, g2⟩ := hA i hi
    walk_at "ax"
    refine ⟨n, A i, rfl, by omega, g1, ?_⟩
    walk_at "ax"
    refine ⟨_, rfl, Nat.lt_of_lt_of_le g2 (Nat.pow_le_pow_right (by decide) (by decide)), fun x x0 x1 => ?_⟩
    walk_at "ax"
    have hx : Rt (sm n fun c => A i c * A i c) x := ⟨x0, x1⟩
    obtain ⟨y0, y1⟩ := rt_small (sm_nn n (A i)) g2 hx
    refine ⟨mulOk_of (b := 123) hb (by omega) (by omega), ?_⟩
    let r' : Nat → Int := fun l => if l = i then x else r l
    have e1 : (pr (i + 1) fun l => r' l + 1) = (pr i fun l => r l + 1) * (x + 1) := by
      show pr i (fun l => r' l + 1) * ((if i = i then x else r i) + 1) = _
      rw [if_pos rfl, pr_congr (g := fun l => r l + 1) fun l hl => by show (if l = i then x else r l) + 1 = _; rw [if_neg (by omega)]]
    rw [← e1]
    refine hR2 _ _ ⟨rfl, r', fun l hl => ?_, ?_, _, rfl⟩
    · show Rt _ (if l = i then x else r l)
      by_cases e : l = i
      · rw [if_pos e, e]; exact hx
      · rw [if_neg e]; exact hr l (by omega)
    · rw [e1, Int.natAbs_mul]
      have h5 : (pr i fun l => r l + 1).natAbs * (x + 1).natAbs < 2 ^ (123 * i + 1) * 2 ^ 123 := Nat.mul_lt_mul_of_lt_of_le hb (by omega) (Nat.two_pow_pos _)
      rw [← Nat.pow_add] at h5
      exact Nat.lt_of_lt_of_le h5 (Nat.pow_le_pow_right (by decide) (by omega))
  · rintro σ S1 ⟨rfl, r, hr, hb, a, rfl⟩
    rw [Dk.rs_len] at hr ⊢
    walk_at "ax"
    exact gives_now (q r hr)
def a_cbound (e : XN → Value) : ASp := fun ds S Q _ => ∃ (n : Nat) (A : Mt (.b .z)), ds = [(Dk.b .z).em n n A] ∧ n ≤ 5 ∧ (∀ i, i < n → Sml n (A i) ∧ (sm n fun c => A i c * A i c : Int).natAbs < 2 ^ 240) ∧ ∀ r : Nat → Int, (∀ i, i < n → Rt (sm n fun c => A i c * A i c) (r i)) → Q (.int (pr n fun i => r i + 2)) S
theorem len_cbound {e : XN → Value} : ∀ ds S Q XX, a_cbound e ds S Q XX → ds.length = 1 := by rintro ds S Q XX ⟨_, _, rfl, _⟩; rfl
theorem p_cbound {e : XN → Value} : ∀ ds S Q XX, Closed S → a_cbound e ds S Q XX → w_coefficient_bound (a_needq e) a_root a_rowsq (endOf Q S.length) (startD ["a", "bound", "row"] ds) S (GivesX XX S.length) := by
  rintro ds S Q XX hC ⟨n, A, rfl, hn, hA, q⟩
  unfold w_coefficient_bound
  walk_at "ax"
  refine needq_ok ?_
  walk_at "ax"
  rw [em_ix2]
  walk_at "ax"
  refine forl_cut ((Dk.b .z).rs n n A) (fun i σ S' => S = S' ∧ ∃ r : Nat → Int, (∀ l, l < i → Rt (sm n fun c => A l c * A l c) (r l)) ∧ (pr i fun l => r l + 2).natAbs < 2 ^ (123 * i + 1) ∧ ∃ a, σ = [some ((Dk.b .z).em n n A), some (.int (pr i fun l => r l + 2)), a]) ⟨rfl, fun _ => 0, fun l h => absurd h (Nat.not_lt_zero _), by show (1 : Int).natAbs < 2 ^ 1; decide, _, rfl⟩ ?_ ?_
  · rintro i d σ S1 R2 hd ⟨rfl, r, hr, hb, a, rfl⟩ hR2
    have hi : i < n := by rw [← (Dk.b .z).rs_len n n A]; exact (List.getElem?_eq_some_iff.mp hd).1
    rw [Dk.rs_get hi] at hd
    cases hd
    obtain ⟨g1, g2⟩ := hA i hi
    walk_at "ax"
    refine ⟨n, A i, rfl, by omega, g1, ?_⟩
    walk_at "ax"
    refine ⟨_, rfl, Nat.lt_of_lt_of_le g2 (Nat.pow_le_pow_right (by decide) (by decide)), fun x x0 x1 => ?_⟩
    walk_at "ax"
    have hx : Rt (sm n fun c => A i c * A i c) x := ⟨x0, x1⟩
    obtain ⟨y0, y1⟩ := rt_small (sm_nn n (A i)) g2 hx
    refine ⟨mulOk_of (b := 123) hb (by omega) (by omega), ?_⟩
    let r' : Nat → Int := fun l => if l = i then x else r l
    have e1 : (pr (i + 1) fun l => r' l + 2) = (pr i fun l => r l + 2) * (x + 2) := by
      show pr i (fun l => r' l + 2) * ((if i = i then x else r i) + 2) = _
      rw [if_pos rfl, pr_congr (g := fun l => r l + 2) fun l hl => by show (if l = i then x else r l) + 2 = _; rw [if_neg (by omega)]]
    rw [← e1]
    refine hR2 _ _ ⟨rfl, r', fun l hl => ?_, ?_, _, rfl⟩
    · show Rt _ (if l = i then x else r l)
      by_cases e : l = i
      · rw [if_pos e, e]; exact hx
      · rw [if_neg e]; exact hr l (by omega)
    · rw [e1, Int.natAbs_mul]
      have h5 : (pr i fun l => r l + 2).natAbs * (x + 2).natAbs < 2 ^ (123 * i + 1) * 2 ^ 123 := Nat.mul_lt_mul_of_lt_of_le hb (by omega) (Nat.two_pow_pos _)
      rw [← Nat.pow_add] at h5
      exact Nat.lt_of_lt_of_le h5 (Nat.pow_le_pow_right (by decide) (by omega))
  · rintro σ S1 ⟨rfl, r, hr, hb, a, rfl⟩
    rw [Dk.rs_len] at hr ⊢
    walk_at "ax"
    exact gives_now (q r hr)
/-! ### the law's roots -/
def a_lroot : ASp := fun ds S Q _ => ∃ s : Int, ds = [.int s] ∧ 0 ≤ s ∧ s.natAbs < 2 ^ 240 ∧ ∀ r : Int, 0 ≤ r → r * r ≤ s → s < (r + 1) * (r + 1) → Q (.int r) S
theorem len_lroot : ∀ ds S Q XX, a_lroot ds S Q XX → ds.length = 1 := by rintro ds S Q XX ⟨_, rfl, _⟩; rfl
theorem p_lroot : ∀ ds S Q XX, Closed S → a_lroot ds S Q XX → w__law_root (endOf Q S.length) (startD ["n", "low", "high", "middle"] ds) S (GivesX XX S.length) := by
  rintro ds S Q XX hC ⟨s, rfl, h0, hs, q⟩
  unfold w__law_root
  walk_at "ax"
  have small : ∀ h : Int, 0 ≤ h → h * h ≤ s → h.natAbs < 2 ^ 121 := fun h hh hl => by
    rcases Nat.lt_or_ge h.natAbs (2 ^ 121) with z | z
    · exact z
    · have h1 : (2 ^ 121 : Nat) * 2 ^ 121 ≤ h.natAbs * h.natAbs := Nat.mul_le_mul z z
      have h2 : h.natAbs * h.natAbs = (h * h).natAbs := (Int.natAbs_mul h h).symm
      have h3 : 0 ≤ h * h := Int.mul_nonneg hh hh
      omega
  refine whl_cut (fun m σ S' => S = S' ∧ ∃ h : Int, 1 ≤ h ∧ h.natAbs < 2 ^ 122 ∧ m = (s + 1 - h).toNat ∧ σ = [some (.int s), some (.int 0), some (.int h), none]) _ ⟨rfl, 1, by decide, by decide, rfl, rfl⟩ ?_
  rintro m σ S1 R ⟨rfl, h, g1, g2, rfl, rfl⟩ hR
  walk_at "ax"
  refine ⟨mulOk_of g2 g2 (by decide), ?_⟩
  by_cases c : h * h ≤ s
  · rw [if_pos c]
    walk_at "ax"
    have g3 := small h (by omega) c
    have g4 : h ≤ h * h := by
      have := Int.mul_le_mul_of_nonneg_left g1 (show 0 ≤ h by omega)
      omega
    refine ⟨mulOk_of (a := 2) (by decide) g2 (by decide), ?_⟩
    exact hR _ _ _ (by omega) ⟨rfl, 2 * h, by omega, by omega, rfl, rfl⟩
  · rw [if_neg c]
    walk_at "ax"
    refine whl_cut (fun m σ S' => S = S' ∧ ∃ (lo hi : Int) (o : Option D), 0 ≤ lo ∧ lo < hi ∧ lo * lo ≤ s ∧ s < hi * hi ∧ hi.natAbs < 2 ^ 122 ∧ m = (hi - lo).toNat ∧ σ = [some (.int s), some (.int lo), some (.int hi), o]) _ ⟨rfl, 0, h, _, by decide, by omega, by omega, by omega, g2, rfl, rfl⟩ ?_
    rintro m σ S1 R2 ⟨rfl, lo, hi, o, k1, k2, k3, k4, k5, rfl, rfl⟩ hR2
    walk_at "ax"
    by_cases c2 : 1 < hi - lo
    · rw [if_pos c2]
      walk_at "ax"
      refine ⟨divOk_small (by decide) (by decide), ?_⟩
      rw [show (lo + hi).fdiv 2 = (lo + hi) / 2 from Int.fdiv_eq_ediv_of_nonneg _ (by decide)]
      have e1 : lo < (lo + hi) / 2 := by omega
      have e2 : (lo + hi) / 2 < hi := by omega
      generalize (lo + hi) / 2 = y at e1 e2
      refine ⟨mulOk_of (a := 122) (b := 122) (by omega) (by omega) (by decide), ?_⟩
      by_cases c3 : y * y ≤ s
      · rw [if_pos c3]
        walk_at "ax"
        exact hR2 _ _ _ (by omega) ⟨rfl, y, hi, _, by omega, e2, c3, k4, k5, rfl, rfl⟩
      · rw [if_neg c3]
        walk_at "ax"
        exact hR2 _ _ _ (by omega) ⟨rfl, lo, y, _, k1, e1, k3, by omega, by omega, rfl, rfl⟩
    · rw [if_neg c2]
      walk_at "ax"
      obtain rfl : hi = lo + 1 := by omega
      exact gives_now (q lo k1 k3 k4)
/-! ### the law's bounds -/
def Rq (s r : Int) : Prop := 0 ≤ r ∧ r * r ≤ s ∧ s < (r + 1) * (r + 1)
def a_lbound : ASp := fun ds S Q _ => ∃ (n more : Nat) (A : Mt (.b .z)), ds = [.tup ((Dk.b .z).rs n n A), .int (more : Nat)] ∧ n ≤ 5 ∧ more ≤ 2 ∧ (∀ i, i < n → Sml n (A i) ∧ (sm n fun c => A i c * A i c : Int).natAbs < 2 ^ 240) ∧ ∀ r : Nat → Int, (∀ i, i < n → Rq (sm n fun c => A i c * A i c) (r i)) → Q (.int (pr n fun i => r i + (more : Nat))) S
theorem len_lbound : ∀ ds S Q XX, a_lbound ds S Q XX → ds.length = 2 := by rintro ds S Q XX ⟨_, _, _, rfl, _⟩; rfl
theorem p_lbound : ∀ ds S Q XX, Closed S → a_lbound ds S Q XX → w__law_bound a_lroot (endOf Q S.length) (startD ["rows", "more", "total", "row", "x"] ds) S (GivesX XX S.length) := by
  rintro ds S Q XX hC ⟨n, more, A, rfl, hn, hm, hA, q⟩
  unfold w__law_bound
  walk_at "ax"
  refine forl_cut ((Dk.b .z).rs n n A) (fun i σ S' => S = S' ∧ ∃ r : Nat → Int, (∀ l, l < i → Rq (sm n fun c => A l c * A l c) (r l)) ∧ (pr i fun l => r l + (more : Nat)).natAbs < 2 ^ (123 * i + 1) ∧ ∃ a, σ = [some (.tup ((Dk.b .z).rs n n A)), some (.int (more : Nat)), some (.int (pr i fun l => r l + (more : Nat))), a, none]) ⟨rfl, fun _ => 0, fun l h => absurd h (Nat.not_lt_zero _), by show (1 : Int).natAbs < 2 ^ 1; decide, _, rfl⟩ ?_ ?_
  · rintro i d σ S1 R2 hd ⟨rfl, r, hr, hb, a, rfl⟩ hR2
    have hi : i < n := by rw [← (Dk.b .z).rs_len n n A]; exact (List.getElem?_eq_some_iff.mp hd).1
    rw [Dk.rs_get hi] at hd
    cases hd
    obtain ⟨g1, g2⟩ := hA i hi
    simp only [Dk.ev]
    walk_at "ax"
    rw [Dk.vs_len]
    refine ⟨by omega, ?_⟩
    refine lcL_each (List.range n) (fun j => (Dk.b .z).en (A i j)) (fun j => .int (A i j * A i j : Int)) ?_ ?_
    · intro j a acc R ha hR
      have hj : j < n := by have := (List.getElem?_eq_some_iff.mp ha).1; rwa [List.length_range] at this
      rw [List.getElem?_range hj] at ha
      cases ha
      rw [en_z]
      walk_at "ax"
      rw [if_pos True.intro]
      exact ⟨mulOk_of (g1 j hj) (g1 j hj) (by decide), hR⟩
    walk_at "ax"
    rw [show ((List.range n).map fun j => D.int (A i j * A i j : Int)) = ((List.range n).map fun j => (A i j * A i j : Int)).map D.int by rw [List.map_map]; rfl, inQs_map, sum_sm]
    walk_at "ax"
    refine ⟨_, rfl, sm_nn n (A i), g2, fun x x0 x1 x2 => ?_⟩
    walk_at "ax"
    have y1 : x.natAbs < 2 ^ 121 := by
      rcases Nat.lt_or_ge x.natAbs (2 ^ 121) with z | z
      · exact z
      · have h1 : (2 ^ 121 : Nat) * 2 ^ 121 ≤ x.natAbs * x.natAbs := Nat.mul_le_mul z z
        have h2 : x.natAbs * x.natAbs = (x * x).natAbs := (Int.natAbs_mul x x).symm
        have h3 : 0 ≤ x * x := Int.mul_nonneg x0 x0
        omega
    refine ⟨mulOk_of (b := 123) hb (by omega) (by omega), ?_⟩
    let r' : Nat → Int := fun l => if l = i then x else r l
    have e1 : (pr (i + 1) fun l => r' l + (more : Nat)) = (pr i fun l => r l + (more : Nat)) * (x + (more : Nat)) := by
      show pr i (fun l => r' l + (more : Nat)) * ((if i = i then x else r i) + (more : Nat)) = _
      rw [if_pos rfl, pr_congr (g := fun l => r l + (more : Nat)) fun l hl => by show (if l = i then x else r l) + (more : Nat) = _; rw [if_neg (by omega)]]
    rw [← e1]
    refine hR2 _ _ ⟨rfl, r', fun l hl => ?_, ?_, _, rfl⟩
    · show Rq _ (if l = i then x else r l)
      by_cases e : l = i
      · rw [if_pos e, e]; exact ⟨x0, x1, x2⟩
      · rw [if_neg e]; exact hr l (by omega)
    · rw [e1, Int.natAbs_mul]
      have h5 : (pr i fun l => r l + (more : Nat)).natAbs * (x + (more : Nat)).natAbs < 2 ^ (123 * i + 1) * 2 ^ 123 := Nat.mul_lt_mul_of_lt_of_le hb (by omega) (Nat.two_pow_pos _)
      rw [← Nat.pow_add] at h5
      exact Nat.lt_of_lt_of_le h5 (Nat.pow_le_pow_right (by decide) (by omega))
  · rintro σ S1 ⟨rfl, r, hr, hb, a, rfl⟩
    rw [Dk.rs_len] at hr ⊢
    walk_at "ax"
    exact gives_now (q r hr)
theorem rq_lt {s r r' : Int} (h : Rq s r) (h' : Rq s r') : ¬r < r' := fun c => by
  obtain ⟨a0, _, a2⟩ := h
  obtain ⟨_, b1, _⟩ := h'
  have : (r + 1) * (r + 1) ≤ r' * r' := Int.mul_le_mul (by omega) (by omega) (by omega) (by omega)
  omega
theorem rq_uniq {s r r' : Int} (h : Rq s r) (h' : Rq s r') : r = r' := by
  have := rq_lt h h'
  have := rq_lt h' h
  omega
theorem rt_rq {s r : Int} (h0 : 0 ≤ s) (h : Rt s r) : Rq s r := by
  by_cases c : s < 2
  · obtain rfl := h.1 c
    rcases (show r = 0 ∨ r = 1 by omega) with rfl | rfl <;> exact ⟨by decide, by decide, by decide⟩
  · obtain ⟨g0, g1, g2⟩ := h.2 (by omega)
    exact ⟨by omega, g1, g2⟩
/-! ### the law's primes -/
theorem p_isp : ∀ ds S Q XX, Closed S → a_isp ds S Q XX → w__law_is_prime (endOf Q S.length) (startD ["n", "k"] ds) S (GivesX XX S.length) := by
  rintro ds S Q XX hC ⟨n, rfl, hn, q⟩
  unfold w__law_is_prime
  walk_at "ax"
  by_cases c : n < 2
  · rw [if_pos c]
    walk_at "ax"
    exact gives_now (q false ⟨fun z => (by cases z), fun p => by have := p.1; omega⟩)
  rw [if_neg c]
  walk_at "ax"
  refine whl_cut (fun m σ S' => S = S' ∧ ∃ k : Int, 2 ≤ k ∧ k ≤ n + 1 ∧ (∀ j, 2 ≤ j → j < k → n % j ≠ 0) ∧ m = (n + 2 - k).toNat ∧ σ = [some (.int n), some (.int k)]) _ ⟨rfl, 2, by decide, by omega, fun j h1 h2 => by omega, rfl, rfl⟩ ?_
  rintro m σ S1 R ⟨rfl, k, k2, k3, hi, rfl, rfl⟩ hR
  walk_at "ax"
  refine ⟨mulOk_of (a := 65) (b := 65) (by omega) (by omega) (by decide), ?_⟩
  by_cases c2 : k * k ≤ n
  · rw [if_pos c2]
    walk_at "ax"
    have e : n.fmod k = n % k := Int.fmod_eq_emod_of_nonneg _ (by omega)
    rw [e]
    refine ⟨by omega, ?_⟩
    by_cases c3 : n % k = 0
    · rw [if_pos c3]
      walk_at "ax"
      exact gives_now (q false (isp_not k2 c2 c3))
    · rw [if_neg c3]
      walk_at "ax"
      have k4 : k ≤ n := by
        have := Int.mul_le_mul_of_nonneg_left k2 (show 0 ≤ k by omega)
        omega
      refine hR _ _ _ (by omega) ⟨rfl, k + 1, by omega, by omega, fun j j2 jk => ?_, rfl, rfl⟩
      rcases (show j < k ∨ j = k by omega) with z | rfl
      · exact hi j j2 z
      · exact c3
  · rw [if_neg c2]
    walk_at "ax"
    refine gives_now (q true ⟨fun _ => ⟨by omega, fun j j2 jj hj => ?_⟩, fun _ => rfl⟩)
    rcases Int.lt_or_le j k with x | x
    · exact hi j j2 x hj
    · have := Int.mul_le_mul x x (by omega) (by omega)
      omega
/-! ### the primes above 32768 -/
def pl : List Int := [32768, 32771, 32779, 32783, 32789, 32797, 32801, 32803, 32831, 32833, 32839]
def pj (j : Nat) : Int := pl.getD j 0
theorem isp_of {n : Nat} (h1 : 32768 < n) (h2 : n < 33000) (h : (List.range 182).all (fun k => decide (k < 2) || n % k != 0) = true) : IsP (n : Nat) := by
  refine ⟨by omega, fun k k2 kk hk => ?_⟩
  have k3 : k < 182 := by
    rcases Int.lt_or_le k 182 with z | z
    · exact z
    · have := Int.mul_le_mul z z (by decide) (by omega)
      omega
  rw [List.all_eq_true] at h
  have g := h k.toNat (List.mem_range.mpr (by omega))
  rw [Bool.or_eq_true, decide_eq_true_eq, bne_iff_ne] at g
  rcases g with g | g
  · omega
  · have e3 : ((n : Nat) : Int) % k = ((n % k.toNat : Nat) : Int) := by
      rw [Int.natCast_emod, show ((k.toNat : Nat) : Int) = k by omega]
    omega
def compB (n : Nat) : Bool := (List.range 182).any fun k => decide (2 ≤ k) && decide (k * k ≤ n) && decide (n % k = 0)
theorem comp_not {n : Nat} (h : compB n = true) : ¬IsP (n : Nat) := by
  unfold compB at h
  rw [List.any_eq_true] at h
  obtain ⟨k, _, hk⟩ := h
  rw [Bool.and_eq_true, Bool.and_eq_true, decide_eq_true_eq, decide_eq_true_eq, decide_eq_true_eq] at hk
  obtain ⟨⟨a, b⟩, c⟩ := hk
  intro p
  refine p.2 (k : Nat) (by omega) ?_ ?_
  · rw [← Int.natCast_mul]; exact Int.ofNat_le.mpr b
  · rw [← Int.natCast_emod, c]; rfl
theorem pj_tab : ∀ j : Fin 10, 32768 < (pj (j + 1)).toNat ∧ pj (j + 1) < 33000 ∧ pj j < pj (j + 1) ∧ pj (j + 1) % 2 = 1 ∧ (List.range 182).all (fun k => decide (k < 2) || (pj (j + 1)).toNat % k != 0) = true := by decide +kernel
theorem comp_tab : ∀ d : Fin 71, compB (32769 + d) = true ∨ ∃ j : Fin 10, pj (j + 1) = ((32769 + d.val : Nat) : Int) := by decide +kernel
theorem pj_isp {j : Nat} (h : j < 10) : IsP (pj (j + 1)) := by
  obtain ⟨a, b, _, _, c⟩ := pj_tab ⟨j, h⟩
  have := isp_of a (by omega) c
  rwa [show (((pj (j + 1)).toNat : Nat) : Int) = pj (j + 1) by have a : 32768 < (pj (j + 1)).toNat := a; omega] at this
theorem pj_lt {j : Nat} (h : j < 10) : pj j < pj (j + 1) := (pj_tab ⟨j, h⟩).2.2.1
theorem pj_mono {i j : Nat} (h : j ≤ 10) (c : i < j) : pj i < pj j := by
  induction j with
  | zero => omega
  | succ j ih =>
    have := pj_lt (j := j) (by omega)
    rcases (show i < j ∨ i = j by omega) with z | rfl
    · have := ih (by omega) z; omega
    · exact this
theorem pj_mem {x : Int} (h : IsP x) (h0 : 32768 < x) (h1 : x < 32840) : ∃ i, i < 10 ∧ x = pj (i + 1) := by
  have g := comp_tab ⟨(x - 32769).toNat, by omega⟩
  have e : ((32769 + (x - 32769).toNat : Nat) : Int) = x := by omega
  rcases g with g | ⟨j, g⟩
  · have := comp_not g
    rw [e] at this
    exact absurd h this
  · exact ⟨j.val, j.isLt, by rw [g]; exact e.symm⟩
theorem pj_big {j : Nat} (h : j ≤ 10) : 32768 ≤ pj j ∧ pj j ≤ 32839 := by
  have a : pj 0 = 32768 := rfl
  have b : pj 10 = 32839 := rfl
  constructor
  · rcases Nat.eq_zero_or_pos j with rfl | z
    · omega
    · have := pj_mono h z; omega
  · rcases Nat.lt_or_ge j 10 with z | z
    · have := pj_mono (Nat.le_refl 10) z; omega
    · obtain rfl : j = 10 := by omega
      omega
/-- the next prime is the next of the list -/
theorem pj_next {j : Nat} (h : j < 10) {q : Int} (h1 : pj j < q) (h2 : IsP q) (h3 : ∀ x, pj j < x → x < q → ¬IsP x) : q = pj (j + 1) := by
  obtain ⟨b0, b1⟩ := pj_big (j := j) (by omega)
  obtain ⟨c0, c1⟩ := pj_big (j := j + 1) (by omega)
  rcases Int.lt_or_le (pj (j + 1)) q with z | z
  · exact absurd (pj_isp h) (h3 _ (pj_lt h) z)
  · obtain ⟨i, hi, rfl⟩ := pj_mem h2 (by omega) (by omega)
    rcases (show i < j ∨ i = j ∨ j < i by omega) with y | y | y
    · rcases (show i + 1 < j ∨ i + 1 = j by omega) with w | w
      · have := pj_mono (i := i + 1) (j := j) (by omega) w; omega
      · rw [w] at h1; omega
    · rw [y]
    · have := pj_mono (i := j + 1) (j := i + 1) (by omega) (by omega); omega
def pp (j : Nat) : Int := pr j fun i => pj (i + 1)
theorem pp_succ (j : Nat) : pp (j + 1) = pp j * pj (j + 1) := rfl
theorem pp_small {j : Nat} (h : j ≤ 10) : (pp j).natAbs < 2 ^ (16 * j + 1) := by
  induction j with
  | zero => decide
  | succ j ih =>
    obtain ⟨b0, b1⟩ := pj_big h
    rw [pp_succ, Int.natAbs_mul, show 16 * (j + 1) + 1 = 16 * j + 1 + 16 by omega, Nat.pow_add]
    exact Nat.mul_lt_mul_of_lt_of_le (ih (by omega)) (by omega) (Nat.two_pow_pos _)
theorem pp_nine {m : Int} (h : m.natAbs < 2 ^ 134) : m < pp 9 := by
  have : (2 ^ 134 : Int) < pp 9 := by decide +kernel
  have e : ((2 ^ 134 : Nat) : Int) = 2 ^ 134 := by norm_cast
  generalize (2 ^ 134 : Nat) = T at h e
  omega
/-- how many of them a number asks for -/
def PF (m : Int) (j : Nat) : Prop := j ≤ 9 ∧ m < pp j ∧ ∀ i, i < j → pp i ≤ m
theorem pf_uniq {m : Int} {i j : Nat} (hi : PF m i) (hj : PF m j) : i = j := by
  rcases (show i < j ∨ i = j ∨ j < i by omega) with z | z | z
  · have := hj.2.2 i z; have := hi.2.1; omega
  · exact z
  · have := hi.2.2 j z; have := hj.2.1; omega
def pds (j : Nat) : List D := (List.range j).map fun i => .int (pj (i + 1))
theorem pds_succ (j : Nat) : pds (j + 1) = pds j ++ [.int (pj (j + 1))] := by unfold pds; rw [List.range_succ, List.map_append]; rfl
theorem pds_len (j : Nat) : (pds j).length = j := by unfold pds; rw [List.length_map, List.length_range]
theorem pds_cl (j : Nat) : (D.fl (pds j)).cl 2 = true := by
  rw [D.cl, List.all_eq_true]
  intro x hx
  obtain ⟨i, _, rfl⟩ := List.mem_map.mp hx
  rfl
def a_primesfor : ASp := fun ds S Q _ => ∃ m : Int, ds = [.int m] ∧ m.natAbs < 2 ^ 134 ∧ ∀ j, PF m j → Q (.fl (pds j)) S
theorem len_primes_for : ∀ ds S Q XX, a_primesfor ds S Q XX → ds.length = 1 := by rintro ds S Q XX ⟨_, rfl, _⟩; rfl
theorem frz_pds (S : Sto) (j : Nat) : Frz (S ++ [.lst (pds j)]) S.length (.ref S.length) (.fl (pds j)) := by
  refine .cell (Nat.le_refl _) (last_cell S _) (FrzL.same (belowL_all _ _ fun x hx => ?_))
  obtain ⟨i, _, rfl⟩ := List.mem_map.mp hx
  rfl
theorem p_primes_for : ∀ ds S Q XX, Closed S → a_primesfor ds S Q XX → w_primes_for a_next (endOf Q S.length) (startD ["m", "found", "product", "p"] ds) S (GivesX XX S.length) := by
  rintro ds S Q XX hC ⟨m, rfl, hm, q⟩
  unfold w_primes_for
  walk_at "ax"
  refine whl_cut (fun t σ S' => ∃ j, t = 10 - j ∧ j ≤ 9 ∧ (∀ i, i < j → pp i ≤ m) ∧ S' = S ++ [.lst (pds j)] ∧ σ = [some (.int m), some (.ref S.length), some (.int (pp j)), some (.int (pj j))]) 10 ⟨0, rfl, by omega, fun i h => by omega, rfl, rfl⟩ ?_
  rintro t σ S1 R ⟨j, rfl, hj, hi, rfl, rfl⟩ hR
  walk_at "ax"
  by_cases c : pp j ≤ m
  · rw [if_pos c]
    walk_at "ax"
    have j9 : j < 9 := by
      rcases Nat.lt_or_ge j 9 with z | z
      · exact z
      · obtain rfl : j = 9 := by omega
        have := pp_nine hm; omega
    obtain ⟨b0, b1⟩ := pj_big (j := j) (by omega)
    obtain ⟨c0, c1⟩ := pj_big (j := j + 1) (by omega)
    refine ⟨_, rfl, by omega, fun x ⟨h1, _, h2, h3⟩ => ?_⟩
    obtain rfl := pj_next (by omega) h1 h2 h3
    walk_at "ax"
    rw [ref_ap (last_cell S _)]
    walk_at "ax"
    rw [ref_app (last_cell S _), pds_len, last_set, ← pds_succ]
    refine ⟨by rw [sizeLine_eq]; omega, ?_⟩
    walk_at "ax"
    refine ⟨mulOk_of (b := 16) (pp_small (by omega)) (by omega) (by omega), ?_⟩
    exact hR _ _ _ (by omega) ⟨j + 1, rfl, by omega, fun i h => by
      rcases (show i < j ∨ i = j by omega) with z | rfl
      · exact hi i z
      · exact c, rfl, rfl⟩
  · rw [if_neg c]
    walk_at "ax"
    exact .inr ⟨S, .fl (pds j), _, rfl, Nat.le_refl _, hC, frz_pds S j, q j ⟨hj, by omega, hi⟩⟩
def a_lprimes : ASp := a_primesfor
theorem len_lprimes : ∀ ds S Q XX, a_lprimes ds S Q XX → ds.length = 1 := len_primes_for
theorem p_lprimes : ∀ ds S Q XX, Closed S → a_lprimes ds S Q XX → w__law_primes a_isp (endOf Q S.length) (startD ["m", "found", "product", "n"] ds) S (GivesX XX S.length) := by
  rintro ds S Q XX hC ⟨m, rfl, hm, q⟩
  unfold w__law_primes
  walk_at "ax"
  refine whl_cut (fun t σ S' => ∃ (j : Nat) (n : Int), t = (32841 - n).toNat ∧ j ≤ 9 ∧ pj j < n ∧ n ≤ pj (j + 1) ∧ n % 2 = 1 ∧ (∀ i, i < j → pp i ≤ m) ∧ S' = S ++ [.lst (pds j)] ∧ σ = [some (.int m), some (.ref S.length), some (.int (pp j)), some (.int n)]) 72 ⟨0, 32769, rfl, by omega, by decide, by decide, by decide, fun i h => by omega, rfl, rfl⟩ ?_
  rintro t σ S1 R ⟨j, n, rfl, hj, g0, g1, odd, hi, rfl, rfl⟩ hR
  walk_at "ax"
  by_cases c : pp j ≤ m
  · rw [if_pos c]
    walk_at "ax"
    have j9 : j < 9 := by
      rcases Nat.lt_or_ge j 9 with z | z
      · exact z
      · obtain rfl : j = 9 := by omega
        have := pp_nine hm; omega
    obtain ⟨b0, b1⟩ := pj_big (j := j) (by omega)
    obtain ⟨c0, c1⟩ := pj_big (j := j + 1) (by omega)
    have hodd := (pj_tab ⟨j, by omega⟩).2.2.2.1
    have hodd2 := (pj_tab ⟨j + 1, by omega⟩).2.2.2.1
    have hlt := pj_lt (j := j + 1) (by omega)
    have hodd : pj (j + 1) % 2 = 1 := hodd
    have hodd2 : pj (j + 1 + 1) % 2 = 1 := hodd2
    refine ⟨n, rfl, by omega, fun b hb => ?_⟩
    cases b with
    | true =>
      walk_at "ax"
      have hp := hb.mp rfl
      obtain rfl : n = pj (j + 1) := by
        rcases Int.lt_or_le n (pj (j + 1)) with z | z
        · obtain ⟨i, hi, rfl⟩ := pj_mem hp (by omega) (by omega)
          rcases (show i < j ∨ i = j ∨ j < i by omega) with y | y | y
          · rcases (show i + 1 < j ∨ i + 1 = j by omega) with w | w
            · have := pj_mono (i := i + 1) (j := j) (by omega) w; omega
            · rw [w] at g0; omega
          · rw [y]
          · have := pj_mono (i := j + 1) (j := i + 1) (by omega) (by omega); omega
        · omega
      rw [ref_ap (last_cell S _)]
      walk_at "ax"
      rw [ref_app (last_cell S _), pds_len, last_set, ← pds_succ]
      refine ⟨by rw [sizeLine_eq]; omega, ?_⟩
      walk_at "ax"
      refine ⟨mulOk_of (b := 16) (pp_small (by omega)) (by omega) (by omega), ?_⟩
      exact hR _ _ _ (by omega) ⟨j + 1, pj (j + 1) + 2, rfl, by omega, by omega, by omega, by omega, fun i h => by
        rcases (show i < j ∨ i = j by omega) with z | rfl
        · exact hi i z
        · exact c, rfl, rfl⟩
    | false =>
      walk_at "ax"
      have hne : n ≠ pj (j + 1) := fun e => by
        have := hb.mpr (e ▸ pj_isp (by omega))
        cases this
      exact hR _ _ _ (by omega) ⟨j, n + 2, rfl, hj, by omega, by omega, by omega, hi, rfl, rfl⟩
  · rw [if_neg c]
    walk_at "ax"
    exact .inr ⟨S, .fl (pds j), _, rfl, Nat.le_refl _, hC, frz_pds S j, q j ⟨hj, by omega, hi⟩⟩
/-! ### the law -/
theorem has_z {e L : Nat} {x : Int} (h : (Dk.b .z).Has e L x) : x.natAbs ≤ 2 ^ e := by
  obtain ⟨z, rfl, _, D, _, _, h⟩ := h
  exact h
theorem sq_small {n : Nat} {v : Nat → Int} (hn : n ≤ 5) (h : ∀ j, j < n → (v j).natAbs ≤ 2 ^ 90) : (sm n fun c => v c * v c : Int).natAbs < 2 ^ 240 := by
  have g : ∀ i, i ≤ n → (sm i fun c => v c * v c : Int).natAbs ≤ i * 2 ^ 180 := by
    intro i
    induction i with
    | zero => intro _; exact Nat.zero_le _
    | succ i ih =>
      intro hi
      have a := ih (by omega)
      have b : (v i * v i).natAbs ≤ 2 ^ 180 := by
        rw [Int.natAbs_mul]
        exact Nat.le_trans (Nat.mul_le_mul (h i (by omega)) (h i (by omega))) (by decide)
      show (sm i (fun c => v c * v c) + v i * v i : Int).natAbs ≤ (i + 1) * 2 ^ 180
      generalize (sm i fun c => v c * v c : Int) = s at a
      omega
  have := g n (Nat.le_refl _)
  omega
theorem p_law : ∀ ds S Q XX, Closed S → aspLaw ds S Q XX → w_law a_start a_take a_zlow (a_dbound XE) a_lbound (a_cbound XE) a_ldet a_raised a_primesfor a_lprimes (endOf Q S.length) (startD ["script", "c", "n", "a", "bound", "m"] ds) S (GivesX XX S.length) := by
  rintro ds S Q XX hC ⟨ns, hl, hd, rfl, q⟩
  have fin : ∀ S', AW.Gives Q 0 (.bl true) S' := fun S' => gives_now (q S')
  obtain ⟨d0, rfl⟩ : ∃ d0, ds = [d0] := by rcases hd with h | h <;> exact ⟨_, h⟩
  have ok : (Dk.b .z).base.ok := trivial
  unfold w_law
  walk_at "ax"
  refine ⟨ns, hl, hd, rfl, fun S1 _ h1 => ?_⟩
  walk_at "ax"
  refine ⟨0, 5, rfl, h1, by omega, fun r2 S2 t2 a0 a1 => ?_⟩
  replace h1 := h1.to t2
  obtain ⟨n, rfl⟩ : ∃ n : Nat, r2 = (n : Nat) := ⟨r2.toNat, by omega⟩
  have hn : n ≤ 4 := by omega
  walk_at "ax"
  refine ⟨0, n, n, rfl, h1, by omega, by omega, fun A S3 hA3 t3 => ?_⟩
  replace h1 := h1.to t3
  have hA : (Dk.b .z).MHas 90 1 n n A := mhas_b1 hA3
  have hb : ∀ i, i < n → Sml n (A i) ∧ (sm n fun c => A i c * A i c : Int).natAbs < 2 ^ 240 := fun i hi =>
    ⟨fun j hj => Nat.lt_of_le_of_lt (has_z (hA i hi j hj)) (by decide), sq_small (by omega) fun j hj => has_z (hA i hi j hj)⟩
  walk_at "ax"
  refine ⟨n, A, rfl, by omega, hb, fun r hr => ?_⟩
  have hq : ∀ i, i < n → Rq (sm n fun c => A i c * A i c) (r i) := fun i hi => rt_rq (sm_nn n (A i)) (hr i hi)
  walk_at "ax"
  rw [em_ix2]
  walk_at "ax"
  refine ⟨n, 1, A, rfl, by omega, by omega, hb, fun r' hr' => ?_⟩
  have e1 : (pr n fun i => r' i + ((1 : Nat) : Int)) = pr n fun i => r i + 1 := pr_congr fun i hi => by rw [rq_uniq (hr' i hi) (hq i hi)]; rfl
  rw [e1]
  walk_at "ax"
  refine ⟨n, A, rfl, by omega, hb, fun r3 hr3 => ?_⟩
  walk_at "ax"
  rw [em_ix2]
  walk_at "ax"
  refine ⟨n, 2, A, rfl, by omega, by omega, hb, fun r4 hr4 => ?_⟩
  have e2 : (pr n fun i => r4 i + ((2 : Nat) : Int)) = pr n fun i => r3 i + 2 := pr_congr fun i hi => by rw [rq_uniq (hr4 i hi) (rt_rq (sm_nn n (A i)) (hr3 i hi))]; rfl
  rw [e2]
  walk_at "ax"
  refine ⟨.b .z, n, A, 90, 1, 4, rfl, ok, by omega, hA, by omega, by omega, by omega, by omega, fun _ => ?_⟩
  rw [en_z]
  walk_at "ax"
  have hd : ((dt n A).natAbs : Int) ≤ pr n fun i => r i + 1 := dt_bound A _ fun i hi => by
    obtain ⟨g0, g1, g2⟩ := hq i hi
    exact ⟨by omega, by omega⟩
  rw [if_neg (by omega)]
  walk_at "ax"
  refine ⟨0, 40000, rfl, h1, by omega, fun r5 S5 t5 b0 b1 => ?_⟩
  replace h1 := h1.to t5
  walk_at "ax"
  refine ⟨mulOk_of (a := 16) (b := 16) (by decide) (by decide) (by decide), ?_⟩
  walk_at "ax"
  refine ⟨0, 3, rfl, h1, by omega, fun r6 S6 t6 c0 c1 => ?_⟩
  replace h1 := h1.to t6
  walk_at "ax"
  refine ⟨0, 40, rfl, h1, by omega, fun r7 S7 t7 d0' d1' => ?_⟩
  replace h1 := h1.to t7
  walk_at "ax"
  refine ⟨10, r7, rfl, by decide, by omega, by omega, ?_⟩
  walk_at "ax"
  refine ⟨0, 6, rfl, h1, by omega, fun r8 S8 t8 f0 f1 => ?_⟩
  replace h1 := h1.to t8
  walk_at "ax"
  obtain ⟨m, hm, e⟩ := at_ints [r5, 32771, 32770, 1074200609 - r6, 10 ^ r7.toNat, 0] f0 f1
  simp only [List.map_cons, List.map_nil] at e
  simp only [List.mem_cons, List.not_mem_nil, or_false] at hm
  rw [atQ_of e]
  clear e
  have hms : m.natAbs < 2 ^ 134 := by
    have hp : (10 ^ r7.toNat : Int).natAbs ≤ 10 ^ 39 := by
      rw [Int.natAbs_pow]
      exact Nat.pow_le_pow_right (by decide) (by omega)
    rcases hm with rfl | rfl | rfl | rfl | rfl | rfl
    · omega
    · decide
    · decide
    · omega
    · exact Nat.lt_of_le_of_lt hp (by decide)
    · decide
  clear hm
  walk_at "ax"
  refine ⟨m, rfl, hms, fun j hj => ?_⟩
  walk_at "ax"
  refine ⟨m, rfl, hms, fun j2 hj2 => ?_⟩
  obtain rfl := pf_uniq hj hj2
  walk_at "ax"
  refine ⟨eqOk_dt (D.cl_dt _ _ (pds_cl j)) (D.cl_dt _ _ (pds_cl j)), ?_⟩
  rw [show (D.fl (pds j)).eqb (D.fl (pds j)) = true from eqv_self _]
  exact fin _
end My
namespace My
open PySem PySem.Spec PyProof.Rows L2 AW
theorem all_mk {l : PySem.W.OpenLaw} {w : World} {K : PySem.W.Frag} {h : Heap} {mg : Str → Option Value} {fa f0 f1 f2 f3 f4 f5 f6 f7 f8 f9 f10 f11 f12 f13 f14 f15 f16 f17 f18 f19 f20 f21 f22 f23 f24 f25 f26 f27 f28 f29 f30 f31 f32 f33 f34 : Addr} (X : K.In h) (G : h.Ns mainGlobals mg) (hfa : mg "law" = some (.ref fa)) (tr : l.prog.given.tree = none)
    {od0 an0 od1 an1 od2 an2 od3 an3 od4 an4 od5 an5 od6 an6 od7 an7 od8 an8 od9 an9 od10 an10 od11 an11 od12 an12 od13 an13 od14 an14 od15 an15 od16 an16 od17 an17 od18 an18 od19 an19 od20 an20 od21 an21 od22 an22 od23 an23 od24 an24 od25 an25 od26 an26 od27 an27 od28 an28 od29 an29 od30 an30 od31 an31 od32 an32 od33 an33 od34 an34 : Option Addr} {sl0 sl1 sl2 sl3 sl4 sl5 sl6 sl7 sl8 sl9 sl10 sl11 sl12 sl13 sl14 sl15 sl16 sl17 sl18 sl19 sl20 sl21 sl22 sl23 sl24 sl25 sl26 sl27 sl28 sl29 sl30 sl31 sl32 sl33 sl34 : Array (Option Value)} {oc0 kV0 dc0 pm0 cd0 ct0 oc1 kV1 dc1 pm1 cd1 ct1 oc2 kV2 dc2 pm2 cd2 ct2 oc3 kV3 dc3 pm3 cd3 ct3 oc4 kV4 dc4 pm4 cd4 ct4 oc5 kV5 dc5 pm5 cd5 ct5 oc6 kV6 dc6 pm6 cd6 ct6 oc7 kV7 dc7 pm7 cd7 ct7 oc8 kV8 dc8 pm8 cd8 ct8 oc9 kV9 dc9 pm9 cd9 ct9 oc10 kV10 dc10 pm10 cd10 ct10 oc11 kV11 dc11 pm11 cd11 ct11 oc12 kV12 dc12 pm12 cd12 ct12 oc13 kV13 dc13 pm13 cd13 ct13 oc14 kV14 dc14 pm14 cd14 ct14 oc15 kV15 dc15 pm15 cd15 ct15 oc16 kV16 dc16 pm16 cd16 ct16 oc17 kV17 dc17 pm17 cd17 ct17 oc18 kV18 dc18 pm18 cd18 ct18 oc19 kV19 dc19 pm19 cd19 ct19 oc20 kV20 dc20 pm20 cd20 ct20 oc21 kV21 dc21 pm21 cd21 ct21 oc22 kV22 dc22 pm22 cd22 ct22 oc23 kV23 dc23 pm23 cd23 ct23 oc24 kV24 dc24 pm24 cd24 ct24 oc25 kV25 dc25 pm25 cd25 ct25 oc26 kV26 dc26 pm26 cd26 ct26 oc27 kV27 dc27 pm27 cd27 ct27 oc28 kV28 dc28 pm28 cd28 ct28 oc29 kV29 dc29 pm29 cd29 ct29 oc30 kV30 dc30 pm30 cd30 ct30 oc31 kV31 dc31 pm31 cd31 ct31 oc32 kV32 dc32 pm32 cd32 ct32 oc33 kV33 dc33 pm33 cd33 ct33 oc34 kV34 dc34 pm34 cd34 ct34 : Value}
    {uy0 : Tok}
    {e0 e1 : Addr}
    (a0 : PySem.W.nsIn K mainGlobals "_law_start" = some (some (.ref f0))) (l0 : K.lookup f0 = some ⟨oc0, od0, .func (PySem.W.fnOf "_law_start" "_law_start" (defArgs s__law_start) (defBody s__law_start) (defScope s__law_start) .none kV0 dc0 pm0 an0 cd0 ct0), sl0⟩) (c0 : PySem.W.codeIn K cd0 "_law_start" = true) (k0 : PySem.W.keepIn K (.ref f0) = true)
    (a1 : PySem.W.nsIn K mainGlobals "_law_fill" = some (some (.ref f1))) (l1 : K.lookup f1 = some ⟨oc1, od1, .func (PySem.W.fnOf "_law_fill" "_law_fill" (defArgs s__law_fill) (defBody s__law_fill) (defScope s__law_fill) .none kV1 dc1 pm1 an1 cd1 ct1), sl1⟩) (c1 : PySem.W.codeIn K cd1 "_law_fill" = true) (k1 : PySem.W.keepIn K (.ref f1) = true)
    (a2 : PySem.W.nsIn K mainGlobals "_law_take" = some (some (.ref f2))) (l2 : K.lookup f2 = some ⟨oc2, od2, .func (PySem.W.fnOf "_law_take" "_law_take" (defArgs s__law_take) (defBody s__law_take) (defScope s__law_take) .none kV2 dc2 pm2 an2 cd2 ct2), sl2⟩) (c2 : PySem.W.codeIn K cd2 "_law_take" = true) (k2 : PySem.W.keepIn K (.ref f2) = true)
    (a3 : PySem.W.nsIn K mainGlobals "_law_raised" = some (some (.ref f3))) (l3 : K.lookup f3 = some ⟨oc3, od3, .func (PySem.W.fnOf "_law_raised" "_law_raised" (defArgs s__law_raised) (defBody s__law_raised) (defScope s__law_raised) .none kV3 dc3 pm3 an3 cd3 ct3), sl3⟩) (c3 : PySem.W.codeIn K cd3 "_law_raised" = true) (k3 : PySem.W.keepIn K (.ref f3) = true)
    (a4 : PySem.W.nsIn K mainGlobals "_law_common" = some (some (.ref f4))) (l4 : K.lookup f4 = some ⟨oc4, od4, .func (PySem.W.fnOf "_law_common" "_law_common" (defArgs s__law_common) (defBody s__law_common) (defScope s__law_common) .none kV4 dc4 pm4 an4 cd4 ct4), sl4⟩) (c4 : PySem.W.codeIn K cd4 "_law_common" = true) (k4 : PySem.W.keepIn K (.ref f4) = true)
    (a5 : PySem.W.nsIn K mainGlobals "_law_fraction" = some (some (.ref f5))) (l5 : K.lookup f5 = some ⟨oc5, od5, .func (PySem.W.fnOf "_law_fraction" "_law_fraction" (defArgs s__law_fraction) (defBody s__law_fraction) (defScope s__law_fraction) .none kV5 dc5 pm5 an5 cd5 ct5), sl5⟩) (c5 : PySem.W.codeIn K cd5 "_law_fraction" = true) (k5 : PySem.W.keepIn K (.ref f5) = true)
    (a6 : PySem.W.nsIn K mainGlobals "_law_zero" = some (some (.ref f6))) (l6 : K.lookup f6 = some ⟨oc6, od6, .func (PySem.W.fnOf "_law_zero" "_law_zero" (defArgs s__law_zero) (defBody s__law_zero) (defScope s__law_zero) .none kV6 dc6 pm6 an6 cd6 ct6), sl6⟩) (c6 : PySem.W.codeIn K cd6 "_law_zero" = true) (k6 : PySem.W.keepIn K (.ref f6) = true)
    (a7 : PySem.W.nsIn K mainGlobals "_law_strip" = some (some (.ref f7))) (l7 : K.lookup f7 = some ⟨oc7, od7, .func (PySem.W.fnOf "_law_strip" "_law_strip" (defArgs s__law_strip) (defBody s__law_strip) (defScope s__law_strip) .none kV7 dc7 pm7 an7 cd7 ct7), sl7⟩) (c7 : PySem.W.codeIn K cd7 "_law_strip" = true) (k7 : PySem.W.keepIn K (.ref f7) = true)
    (a8 : PySem.W.nsIn K mainGlobals "_law_number" = some (some (.ref f8))) (l8 : K.lookup f8 = some ⟨oc8, od8, .func (PySem.W.fnOf "_law_number" "_law_number" (defArgs s__law_number) (defBody s__law_number) (defScope s__law_number) .none kV8 dc8 pm8 an8 cd8 ct8), sl8⟩) (c8 : PySem.W.codeIn K cd8 "_law_number" = true) (k8 : PySem.W.keepIn K (.ref f8) = true)
    (a9 : PySem.W.nsIn K mainGlobals "_law_part" = some (some (.ref f9))) (l9 : K.lookup f9 = some ⟨oc9, od9, .func (PySem.W.fnOf "_law_part" "_law_part" (defArgs s__law_part) (defBody s__law_part) (defScope s__law_part) .none kV9 dc9 pm9 an9 cd9 ct9), sl9⟩) (c9 : PySem.W.codeIn K cd9 "_law_part" = true) (k9 : PySem.W.keepIn K (.ref f9) = true)
    (a10 : PySem.W.nsIn K mainGlobals "_law_add" = some (some (.ref f10))) (l10 : K.lookup f10 = some ⟨oc10, od10, .func (PySem.W.fnOf "_law_add" "_law_add" (defArgs s__law_add) (defBody s__law_add) (defScope s__law_add) .none kV10 dc10 pm10 an10 cd10 ct10), sl10⟩) (c10 : PySem.W.codeIn K cd10 "_law_add" = true) (k10 : PySem.W.keepIn K (.ref f10) = true)
    (a11 : PySem.W.nsIn K mainGlobals "_law_multiply" = some (some (.ref f11))) (l11 : K.lookup f11 = some ⟨oc11, od11, .func (PySem.W.fnOf "_law_multiply" "_law_multiply" (defArgs s__law_multiply) (defBody s__law_multiply) (defScope s__law_multiply) .none kV11 dc11 pm11 an11 cd11 ct11), sl11⟩) (c11 : PySem.W.codeIn K cd11 "_law_multiply" = true) (k11 : PySem.W.keepIn K (.ref f11) = true)
    (a12 : PySem.W.nsIn K mainGlobals "_law_small" = some (some (.ref f12))) (l12 : K.lookup f12 = some ⟨oc12, od12, .func (PySem.W.fnOf "_law_small" "_law_small" (defArgs s__law_small) (defBody s__law_small) (defScope s__law_small) .none kV12 dc12 pm12 an12 cd12 ct12), sl12⟩) (c12 : PySem.W.codeIn K cd12 "_law_small" = true) (k12 : PySem.W.keepIn K (.ref f12) = true)
    (a13 : PySem.W.nsIn K mainGlobals "is_prime" = some (some (.ref f13))) (l13 : K.lookup f13 = some ⟨oc13, od13, .func (PySem.W.fnOf "is_prime" "is_prime" (defArgs s_is_prime) (defBody s_is_prime) (defScope s_is_prime) .none kV13 dc13 pm13 an13 cd13 ct13), sl13⟩) (c13 : PySem.W.codeIn K cd13 "is_prime" = true) (k13 : PySem.W.keepIn K (.ref f13) = true)
    (a14 : PySem.W.nsIn K mainGlobals "need_shape" = some (some (.ref f14))) (l14 : K.lookup f14 = some ⟨oc14, od14, .func (PySem.W.fnOf "need_shape" "need_shape" (defArgs s_need_shape) (defBody s_need_shape) (defScope s_need_shape) .none kV14 dc14 pm14 an14 cd14 ct14), sl14⟩) (c14 : PySem.W.codeIn K cd14 "need_shape" = true) (k14 : PySem.W.keepIn K (.ref f14) = true)
    (a15 : PySem.W.nsIn K mainGlobals "need_square" = some (some (.ref f15))) (l15 : K.lookup f15 = some ⟨oc15, od15, .func (PySem.W.fnOf "need_square" "need_square" (defArgs s_need_square) (defBody s_need_square) (defScope s_need_square) .none kV15 dc15 pm15 an15 cd15 ct15), sl15⟩) (c15 : PySem.W.codeIn K cd15 "need_square" = true) (k15 : PySem.W.keepIn K (.ref f15) = true)
    (a16 : PySem.W.nsIn K mainGlobals "_law_matrix" = some (some (.ref f16))) (l16 : K.lookup f16 = some ⟨oc16, od16, .func (PySem.W.fnOf "_law_matrix" "_law_matrix" (defArgs s__law_matrix) (defBody s__law_matrix) (defScope s__law_matrix) .none kV16 dc16 pm16 an16 cd16 ct16), sl16⟩) (c16 : PySem.W.codeIn K cd16 "_law_matrix" = true) (k16 : PySem.W.keepIn K (.ref f16) = true)
    (a17 : PySem.W.nsIn K mainGlobals "_law_dot" = some (some (.ref f17))) (l17 : K.lookup f17 = some ⟨oc17, od17, .func (PySem.W.fnOf "_law_dot" "_law_dot" (defArgs s__law_dot) (defBody s__law_dot) (defScope s__law_dot) .none kV17 dc17 pm17 an17 cd17 ct17), sl17⟩) (c17 : PySem.W.codeIn K cd17 "_law_dot" = true) (k17 : PySem.W.keepIn K (.ref f17) = true)
    (a18 : PySem.W.nsIn K mainGlobals "_law_column" = some (some (.ref f18))) (l18 : K.lookup f18 = some ⟨oc18, od18, .func (PySem.W.fnOf "_law_column" "_law_column" (defArgs s__law_column) (defBody s__law_column) (defScope s__law_column) .none kV18 dc18 pm18 an18 cd18 ct18), sl18⟩) (c18 : PySem.W.codeIn K cd18 "_law_column" = true) (k18 : PySem.W.keepIn K (.ref f18) = true)
    (a19 : PySem.W.nsIn K mainGlobals "_law_product" = some (some (.ref f19))) (l19 : K.lookup f19 = some ⟨oc19, od19, .func (PySem.W.fnOf "_law_product" "_law_product" (defArgs s__law_product) (defBody s__law_product) (defScope s__law_product) .none kV19 dc19 pm19 an19 cd19 ct19), sl19⟩) (c19 : PySem.W.codeIn K cd19 "_law_product" = true) (k19 : PySem.W.keepIn K (.ref f19) = true)
    (a20 : PySem.W.nsIn K mainGlobals "_law_orders" = some (some (.ref f20))) (l20 : K.lookup f20 = some ⟨oc20, od20, .func (PySem.W.fnOf "_law_orders" "_law_orders" (defArgs s__law_orders) (defBody s__law_orders) (defScope s__law_orders) .none kV20 dc20 pm20 an20 cd20 ct20), sl20⟩) (c20 : PySem.W.codeIn K cd20 "_law_orders" = true) (k20 : PySem.W.keepIn K (.ref f20) = true)
    (a21 : PySem.W.nsIn K mainGlobals "_law_sign" = some (some (.ref f21))) (l21 : K.lookup f21 = some ⟨oc21, od21, .func (PySem.W.fnOf "_law_sign" "_law_sign" (defArgs s__law_sign) (defBody s__law_sign) (defScope s__law_sign) .none kV21 dc21 pm21 an21 cd21 ct21), sl21⟩) (c21 : PySem.W.codeIn K cd21 "_law_sign" = true) (k21 : PySem.W.keepIn K (.ref f21) = true)
    (a22 : PySem.W.nsIn K mainGlobals "_law_determinant" = some (some (.ref f22))) (l22 : K.lookup f22 = some ⟨oc22, od22, .func (PySem.W.fnOf "_law_determinant" "_law_determinant" (defArgs s__law_determinant) (defBody s__law_determinant) (defScope s__law_determinant) .none kV22 dc22 pm22 an22 cd22 ct22), sl22⟩) (c22 : PySem.W.codeIn K cd22 "_law_determinant" = true) (k22 : PySem.W.keepIn K (.ref f22) = true)
    (a23 : PySem.W.nsIn K mainGlobals "_law_low" = some (some (.ref f23))) (l23 : K.lookup f23 = some ⟨oc23, od23, .func (PySem.W.fnOf "_law_low" "_law_low" (defArgs s__law_low) (defBody s__law_low) (defScope s__law_low) .none kV23 dc23 pm23 an23 cd23 ct23), sl23⟩) (c23 : PySem.W.codeIn K cd23 "_law_low" = true) (k23 : PySem.W.keepIn K (.ref f23) = true)
    (a24 : PySem.W.nsIn K mainGlobals "root" = some (some (.ref f24))) (l24 : K.lookup f24 = some ⟨oc24, od24, .func (PySem.W.fnOf "root" "root" (defArgs s_root) (defBody s_root) (defScope s_root) .none kV24 dc24 pm24 an24 cd24 ct24), sl24⟩) (c24 : PySem.W.codeIn K cd24 "root" = true) (k24 : PySem.W.keepIn K (.ref f24) = true)
    (a25 : PySem.W.nsIn K mainGlobals "row_square" = some (some (.ref f25))) (l25 : K.lookup f25 = some ⟨oc25, od25, .func (PySem.W.fnOf "row_square" "row_square" (defArgs s_row_square) (defBody s_row_square) (defScope s_row_square) .none kV25 dc25 pm25 an25 cd25 ct25), sl25⟩) (c25 : PySem.W.codeIn K cd25 "row_square" = true) (k25 : PySem.W.keepIn K (.ref f25) = true)
    (a26 : PySem.W.nsIn K mainGlobals "determinant_bound" = some (some (.ref f26))) (l26 : K.lookup f26 = some ⟨oc26, od26, .func (PySem.W.fnOf "determinant_bound" "determinant_bound" (defArgs s_determinant_bound) (defBody s_determinant_bound) (defScope s_determinant_bound) .none kV26 dc26 pm26 an26 cd26 ct26), sl26⟩) (c26 : PySem.W.codeIn K cd26 "determinant_bound" = true) (k26 : PySem.W.keepIn K (.ref f26) = true)
    (a27 : PySem.W.nsIn K mainGlobals "coefficient_bound" = some (some (.ref f27))) (l27 : K.lookup f27 = some ⟨oc27, od27, .func (PySem.W.fnOf "coefficient_bound" "coefficient_bound" (defArgs s_coefficient_bound) (defBody s_coefficient_bound) (defScope s_coefficient_bound) .none kV27 dc27 pm27 an27 cd27 ct27), sl27⟩) (c27 : PySem.W.codeIn K cd27 "coefficient_bound" = true) (k27 : PySem.W.keepIn K (.ref f27) = true)
    (a28 : PySem.W.nsIn K mainGlobals "next_prime" = some (some (.ref f28))) (l28 : K.lookup f28 = some ⟨oc28, od28, .func (PySem.W.fnOf "next_prime" "next_prime" (defArgs s_next_prime) (defBody s_next_prime) (defScope s_next_prime) .none kV28 dc28 pm28 an28 cd28 ct28), sl28⟩) (c28 : PySem.W.codeIn K cd28 "next_prime" = true) (k28 : PySem.W.keepIn K (.ref f28) = true)
    (a29 : PySem.W.nsIn K mainGlobals "primes_for" = some (some (.ref f29))) (l29 : K.lookup f29 = some ⟨oc29, od29, .func (PySem.W.fnOf "primes_for" "primes_for" (defArgs s_primes_for) (defBody s_primes_for) (defScope s_primes_for) .none kV29 dc29 pm29 an29 cd29 ct29), sl29⟩) (c29 : PySem.W.codeIn K cd29 "primes_for" = true) (k29 : PySem.W.keepIn K (.ref f29) = true)
    (a30 : PySem.W.nsIn K mainGlobals "_law_root" = some (some (.ref f30))) (l30 : K.lookup f30 = some ⟨oc30, od30, .func (PySem.W.fnOf "_law_root" "_law_root" (defArgs s__law_root) (defBody s__law_root) (defScope s__law_root) .none kV30 dc30 pm30 an30 cd30 ct30), sl30⟩) (c30 : PySem.W.codeIn K cd30 "_law_root" = true) (k30 : PySem.W.keepIn K (.ref f30) = true)
    (a31 : PySem.W.nsIn K mainGlobals "_law_bound" = some (some (.ref f31))) (l31 : K.lookup f31 = some ⟨oc31, od31, .func (PySem.W.fnOf "_law_bound" "_law_bound" (defArgs s__law_bound) (defBody s__law_bound) (defScope s__law_bound) .none kV31 dc31 pm31 an31 cd31 ct31), sl31⟩) (c31 : PySem.W.codeIn K cd31 "_law_bound" = true) (k31 : PySem.W.keepIn K (.ref f31) = true)
    (a32 : PySem.W.nsIn K mainGlobals "_law_is_prime" = some (some (.ref f32))) (l32 : K.lookup f32 = some ⟨oc32, od32, .func (PySem.W.fnOf "_law_is_prime" "_law_is_prime" (defArgs s__law_is_prime) (defBody s__law_is_prime) (defScope s__law_is_prime) .none kV32 dc32 pm32 an32 cd32 ct32), sl32⟩) (c32 : PySem.W.codeIn K cd32 "_law_is_prime" = true) (k32 : PySem.W.keepIn K (.ref f32) = true)
    (a33 : PySem.W.nsIn K mainGlobals "_law_primes" = some (some (.ref f33))) (l33 : K.lookup f33 = some ⟨oc33, od33, .func (PySem.W.fnOf "_law_primes" "_law_primes" (defArgs s__law_primes) (defBody s__law_primes) (defScope s__law_primes) .none kV33 dc33 pm33 an33 cd33 ct33), sl33⟩) (c33 : PySem.W.codeIn K cd33 "_law_primes" = true) (k33 : PySem.W.keepIn K (.ref f33) = true)
    (a34 : PySem.W.nsIn K mainGlobals "law" = some (some (.ref f34))) (l34 : K.lookup f34 = some ⟨oc34, od34, .func (PySem.W.fnOf "law" "law" (defArgs s_law) (defBody s_law) (defScope s_law) .none kV34 dc34 pm34 an34 cd34 ct34), sl34⟩) (c34 : PySem.W.codeIn K cd34 "law" = true) (k34 : PySem.W.keepIn K (.ref f34) = true)
    (z0 : PySem.W.nsIn K mainGlobals "int" = some none)
    (z1 : PySem.W.nsIn K mainGlobals "len" = some none)
    (z2 : PySem.W.nsIn K mainGlobals "range" = some none)
    (z3 : PySem.W.nsIn K mainGlobals "abs" = some none)
    (z4 : PySem.W.nsIn K mainGlobals "tuple" = some none)
    (z5 : PySem.W.nsIn K mainGlobals "max" = some none)
    (z6 : PySem.W.nsIn K mainGlobals "min" = some none)
    (z7 : PySem.W.nsIn K mainGlobals "sum" = some none)
    (y0 : PySem.W.nsIn K mainGlobals "FIRST" = some (some (.int 32768 uy0)))
    (xg0 : PySem.W.nsIn K mainGlobals "FacetloreError" = some (some (.ref e0))) (xge0 : PySem.W.excIn K e0 [.type "ValueError", .type "Exception", .type "BaseException", .type "object"] "ValueError.__new__" = true) (xgk0 : PySem.W.keepIn K (.ref e0) = true) (xgb0 : PySem.W.subIn K (.ref e0) (.type "BaseException") = some true) (xgt0 : PySem.W.typeIn K (.ref e0) = some (.type "type")) (xgf0 : PySem.W.findIn K (.ref e0) "__getattribute__" = some (some (.builtin "BaseException.__getattribute__"))) (xgg0 : PySem.W.findIn K (.ref e0) "__getattr__" = some none) (xgh0 : PySem.W.hasDictIn K e0 = true) (xgi0 : PySem.W.findIn K (.ref e0) "__class__" = some (some (.builtin "object.__class__"))) (xgm0 : PySem.W.mroIn K e0 (.type "object") = some true) (xgv0 : PySem.W.subIn K (.ref e0) (.type "ValueError") = some true) (xgx0_0 : PySem.W.subIn K (.ref e0) (.ref e0) = some true) (xgx1_0 : PySem.W.subIn K (.ref e0) (.ref e1) = some false)
    (xg1 : PySem.W.nsIn K mainGlobals "ShapeError" = some (some (.ref e1))) (xge1 : PySem.W.excIn K e1 [.type "ValueError", .type "Exception", .type "BaseException", .type "object"] "ValueError.__new__" = true) (xgk1 : PySem.W.keepIn K (.ref e1) = true) (xgb1 : PySem.W.subIn K (.ref e1) (.type "BaseException") = some true) (xgt1 : PySem.W.typeIn K (.ref e1) = some (.type "type")) (xgf1 : PySem.W.findIn K (.ref e1) "__getattribute__" = some (some (.builtin "BaseException.__getattribute__"))) (xgg1 : PySem.W.findIn K (.ref e1) "__getattr__" = some none) (xgh1 : PySem.W.hasDictIn K e1 = true) (xgi1 : PySem.W.findIn K (.ref e1) "__class__" = some (some (.builtin "object.__class__"))) (xgm1 : PySem.W.mroIn K e1 (.type "object") = some true) (xgv1 : PySem.W.subIn K (.ref e1) (.type "ValueError") = some true) (xgx0_1 : PySem.W.subIn K (.ref e1) (.ref e0) = some true) (xgx1_1 : PySem.W.subIn K (.ref e1) (.ref e1) = some true)
    (xgc1 : PySem.W.specialIn K (.builtin "object.__class__") "__get__" = some (some (.builtin "getset_descriptor.__get__"))) (xgc2 : PySem.W.takesIn K (.builtin "object.__class__") = some true) :
    ∃ fd : FuncData, (∀ (s : Shared) (v : Value), BindsTo s fd ⟨[v], []⟩ [("script", v)]) ∧ ∀ base : Heap, K.In base → base.Ns mainGlobals mg → base.NoSeer → FnOk l.prog w K mg base (L2.CX l.prog w) 40 fa fd ["script"] (spOf K aspLaw) := by
  have e := hfa.symm.trans (PySem.W.mg_of X G a34)
  cases e
  have F0 := fun_mk (st := s__law_start) l0 c0 k0
  have b0 := F0.binds (ps := ["script"]) fun _ _ _ _ _ _ us hl => match us, hl with | [_], _ => rfl
  have F1 := fun_mk (st := s__law_fill) l1 c1 k1
  have b1 := F1.binds (ps := ["c"]) fun _ _ _ _ _ _ us hl => match us, hl with | [_], _ => rfl
  have F2 := fun_mk (st := s__law_take) l2 c2 k2
  have b2 := F2.binds (ps := ["c", "many"]) fun _ _ _ _ _ _ us hl => match us, hl with | [_, _], _ => rfl
  have F3 := fun_mk (st := s__law_raised) l3 c3 k3
  have b3 := F3.binds (ps := ["b", "k"]) fun _ _ _ _ _ _ us hl => match us, hl with | [_, _], _ => rfl
  have F4 := fun_mk (st := s__law_common) l4 c4 k4
  have b4 := F4.binds (ps := ["a", "b"]) fun _ _ _ _ _ _ us hl => match us, hl with | [_, _], _ => rfl
  have F5 := fun_mk (st := s__law_fraction) l5 c5 k5
  have b5 := F5.binds (ps := ["n", "m"]) fun _ _ _ _ _ _ us hl => match us, hl with | [_, _], _ => rfl
  have F6 := fun_mk (st := s__law_zero) l6 c6 k6
  have b6 := F6.binds (ps := ["d"]) fun _ _ _ _ _ _ us hl => match us, hl with | [_], _ => rfl
  have F7 := fun_mk (st := s__law_strip) l7 c7 k7
  have b7 := F7.binds (ps := ["f", "parts"]) fun _ _ _ _ _ _ us hl => match us, hl with | [_, _], _ => rfl
  have F8 := fun_mk (st := s__law_number) l8 c8 k8
  have b8 := F8.binds (ps := ["d", "n"]) fun _ _ _ _ _ _ us hl => match us, hl with | [_, _], _ => rfl
  have F9 := fun_mk (st := s__law_part) l9 c9 k9
  have b9 := F9.binds (ps := ["d", "x", "k"]) fun _ _ _ _ _ _ us hl => match us, hl with | [_, _, _], _ => rfl
  have F10 := fun_mk (st := s__law_add) l10 c10 k10
  have b10 := F10.binds (ps := ["d", "x", "y"]) fun _ _ _ _ _ _ us hl => match us, hl with | [_, _, _], _ => rfl
  have F11 := fun_mk (st := s__law_multiply) l11 c11 k11
  have b11 := F11.binds (ps := ["d", "x", "y"]) fun _ _ _ _ _ _ us hl => match us, hl with | [_, _, _], _ => rfl
  have F12 := fun_mk (st := s__law_small) l12 c12 k12
  have b12 := F12.binds (ps := ["c", "d"]) fun _ _ _ _ _ _ us hl => match us, hl with | [_, _], _ => rfl
  have F13 := fun_mk (st := s_is_prime) l13 c13 k13
  have b13 := F13.binds (ps := ["n"]) fun _ _ _ _ _ _ us hl => match us, hl with | [_], _ => rfl
  have F14 := fun_mk (st := s_need_shape) l14 c14 k14
  have b14 := F14.binds (ps := ["holds"]) fun _ _ _ _ _ _ us hl => match us, hl with | [_], _ => rfl
  have F15 := fun_mk (st := s_need_square) l15 c15 k15
  have b15 := F15.binds (ps := ["a"]) fun _ _ _ _ _ _ us hl => match us, hl with | [_], _ => rfl
  have F16 := fun_mk (st := s__law_matrix) l16 c16 k16
  have b16 := F16.binds (ps := ["c", "d", "m", "n"]) fun _ _ _ _ _ _ us hl => match us, hl with | [_, _, _, _], _ => rfl
  have F17 := fun_mk (st := s__law_dot) l17 c17 k17
  have b17 := F17.binds (ps := ["d", "u", "v"]) fun _ _ _ _ _ _ us hl => match us, hl with | [_, _, _], _ => rfl
  have F18 := fun_mk (st := s__law_column) l18 c18 k18
  have b18 := F18.binds (ps := ["a", "j"]) fun _ _ _ _ _ _ us hl => match us, hl with | [_, _], _ => rfl
  have F19 := fun_mk (st := s__law_product) l19 c19 k19
  have b19 := F19.binds (ps := ["d", "a", "b"]) fun _ _ _ _ _ _ us hl => match us, hl with | [_, _, _], _ => rfl
  have F20 := fun_mk (st := s__law_orders) l20 c20 k20
  have b20 := F20.binds (ps := ["n"]) fun _ _ _ _ _ _ us hl => match us, hl with | [_], _ => rfl
  have F21 := fun_mk (st := s__law_sign) l21 c21 k21
  have b21 := F21.binds (ps := ["order"]) fun _ _ _ _ _ _ us hl => match us, hl with | [_], _ => rfl
  have F22 := fun_mk (st := s__law_determinant) l22 c22 k22
  have b22 := F22.binds (ps := ["d", "a"]) fun _ _ _ _ _ _ us hl => match us, hl with | [_, _], _ => rfl
  have F23 := fun_mk (st := s__law_low) l23 c23 k23
  have b23 := F23.binds (ps := ["c", "m", "n"]) fun _ _ _ _ _ _ us hl => match us, hl with | [_, _, _], _ => rfl
  have F24 := fun_mk (st := s_root) l24 c24 k24
  have b24 := F24.binds (ps := ["n"]) fun _ _ _ _ _ _ us hl => match us, hl with | [_], _ => rfl
  have F25 := fun_mk (st := s_row_square) l25 c25 k25
  have b25 := F25.binds (ps := ["row"]) fun _ _ _ _ _ _ us hl => match us, hl with | [_], _ => rfl
  have F26 := fun_mk (st := s_determinant_bound) l26 c26 k26
  have b26 := F26.binds (ps := ["a"]) fun _ _ _ _ _ _ us hl => match us, hl with | [_], _ => rfl
  have F27 := fun_mk (st := s_coefficient_bound) l27 c27 k27
  have b27 := F27.binds (ps := ["a"]) fun _ _ _ _ _ _ us hl => match us, hl with | [_], _ => rfl
  have F28 := fun_mk (st := s_next_prime) l28 c28 k28
  have b28 := F28.binds (ps := ["n"]) fun _ _ _ _ _ _ us hl => match us, hl with | [_], _ => rfl
  have F29 := fun_mk (st := s_primes_for) l29 c29 k29
  have b29 := F29.binds (ps := ["m"]) fun _ _ _ _ _ _ us hl => match us, hl with | [_], _ => rfl
  have F30 := fun_mk (st := s__law_root) l30 c30 k30
  have b30 := F30.binds (ps := ["n"]) fun _ _ _ _ _ _ us hl => match us, hl with | [_], _ => rfl
  have F31 := fun_mk (st := s__law_bound) l31 c31 k31
  have b31 := F31.binds (ps := ["rows", "more"]) fun _ _ _ _ _ _ us hl => match us, hl with | [_, _], _ => rfl
  have F32 := fun_mk (st := s__law_is_prime) l32 c32 k32
  have b32 := F32.binds (ps := ["n"]) fun _ _ _ _ _ _ us hl => match us, hl with | [_], _ => rfl
  have F33 := fun_mk (st := s__law_primes) l33 c33 k33
  have b33 := F33.binds (ps := ["m"]) fun _ _ _ _ _ _ us hl => match us, hl with | [_], _ => rfl
  have F34 := fun_mk (st := s_law) l34 c34 k34
  have b34 := F34.binds (ps := ["script"]) fun _ _ _ _ _ _ us hl => match us, hl with | [_], _ => rfl
  refine ⟨PySem.W.fnOf "law" "law" (defArgs s_law) (defBody s_law) (defScope s_law) .none kV34 dc34 pm34 an34 cd34 ct34, fun s v => .of_eq rfl, fun base _ _ sb => ?_⟩
  have xo : XOk K mg xns (xvl [(.face, .ref e0), (.shape, .ref e1)]) := ⟨fun n hn => match n, hn with | .face, _ => xc_of X G xg0 xge0 xgk0 xgb0 xgt0 xgf0 xgg0 xgh0 xgi0 xgm0 xgc1 xgc2 | .shape, _ => xc_of X G xg1 xge1 xgk1 xgb1 xgt1 xgf1 xgg1 xgh1 xgi1 xgm1 xgc1 xgc2 | .dom, h => absurd h (by decide) | .sing, h => absurd h (by decide) | .text, h => absurd h (by decide), fun n hn m hm => match n, hn, m, hm with | .face, _, .face, _ => PySem.W.exm_ref xgb0 xgh0 xgt0 xgx0_0 | .face, _, .shape, _ => PySem.W.exm_ref xgb1 xgh1 xgt1 xgx1_0 | .shape, _, .face, _ => PySem.W.exm_ref xgb0 xgh0 xgt0 xgx0_1 | .shape, _, .shape, _ => PySem.W.exm_ref xgb1 xgh1 xgt1 xgx1_1 | .dom, h, _, _ => absurd h (by decide) | .sing, h, _, _ => absurd h (by decide) | .text, h, _, _ => absurd h (by decide) | _, _, .dom, h => absurd h (by decide) | _, _, .sing, h => absurd h (by decide) | _, _, .text, h => absurd h (by decide), fun n hn m hm => match n, hn, m, hm with | .face, _, .face, _ => kit_own xgx0_0 xgx0_0 xgh0 xgt0 | .face, _, .shape, _ => kit_own xgx1_1 xgx1_0 xgh1 xgt1 | .shape, _, .face, _ => kit_own xgx0_0 xgx0_1 xgh0 xgt0 | .shape, _, .shape, _ => kit_own xgx1_1 xgx1_1 xgh1 xgt1 | .dom, h, _, _ => absurd h (by decide) | .sing, h, _, _ => absurd h (by decide) | .text, h, _, _ => absurd h (by decide) | _, _, .dom, h => absurd h (by decide) | _, _, .sing, h => absurd h (by decide) | _, _, .text, h => absurd h (by decide), fun n hn => match n, hn with | .face, _ => kit_ve xgv0 | .shape, _ => kit_ve xgv1 | .dom, h => absurd h (by decide) | .sing, h => absurd h (by decide) | .text, h => absurd h (by decide)⟩
  have C_start : Cal l.prog w K mg base 1 "_law_start" (a_start) := cal_mk F0 (fn_abs (k := 0) (a := a_start) (wB := w__law_start) F0 sc__law_start len_start (fun cdv A outer s H E hr => j__law_start hr (PySem.W.mg_none_of X G z0)) p_start) (PySem.W.mg_of X G a0) b0
  have C_fill : Cal l.prog w K mg base 1 "_law_fill" (a_fill) := cal_mk F1 (fn_abs (k := 0) (a := a_fill) (wB := w__law_fill) F1 sc__law_fill len_fill (fun cdv A outer s H E hr => j__law_fill hr (PySem.W.mg_none_of X G z1) (PySem.W.mg_none_of X G z0)) p_fill) (PySem.W.mg_of X G a1) b1
  have C_take : Cal l.prog w K mg base 2 "_law_take" (a_take) := cal_mk F2 (fn_abs (k := 1) (a := a_take) (wB := w__law_take (a_fill)) F2 sc__law_take len_take (fun cdv A outer s H E hr => j__law_take hr (PySem.W.mg_none_of X G z0) (C_fill.mono (by decide))) p_take) (PySem.W.mg_of X G a2) b2
  have C_raised : Cal l.prog w K mg base 1 "_law_raised" (a_raised) := cal_mk F3 (fn_abs (k := 0) (a := a_raised) (wB := w__law_raised) F3 sc__law_raised len_raised (fun cdv A outer s H E hr => j__law_raised hr (PySem.W.mg_none_of X G z2)) p_raised) (PySem.W.mg_of X G a3) b3
  have C_lcommon : Cal l.prog w K mg base 1 "_law_common" (a_gcd) := cal_mk F4 (fn_abs (k := 0) (a := a_gcd) (wB := w__law_common) F4 sc__law_common len_lcommon (fun cdv A outer s H E hr => j__law_common hr (PySem.W.mg_none_of X G z3) (PySem.W.mg_none_of X G z0)) p_lcommon) (PySem.W.mg_of X G a4) b4
  have C_lfraction : Cal l.prog w K mg base 34 "_law_fraction" (a_fr) := cal_mk F5 (fn_abs (k := 33) (a := a_fr) (wB := w__law_fraction (a_gcd)) F5 sc__law_fraction len_lfraction (fun cdv A outer s H E hr => j__law_fraction hr (C_lcommon.mono (by decide)) sb tr (by decide)) p_lfraction) (PySem.W.mg_of X G a5) b5
  have C_lzero : Cal l.prog w K mg base 1 "_law_zero" (a_zero) := cal_mk F6 (fn_abs (k := 0) (a := a_zero) (wB := w__law_zero) F6 sc__law_zero len_lzero (fun cdv A outer s H E hr => j__law_zero hr ) p_lzero) (PySem.W.mg_of X G a6) b6
  have C_strip : Cal l.prog w K mg base 2 "_law_strip" (a_trim) := cal_mk F7 (fn_abs (k := 1) (a := a_trim) (wB := w__law_strip (a_zero)) F7 sc__law_strip len_strip (fun cdv A outer s H E hr => j__law_strip hr (PySem.W.mg_none_of X G z1) (PySem.W.mg_none_of X G z4) (C_lzero.mono (by decide))) p_strip) (PySem.W.mg_of X G a7) b7
  have C_lint0 : Cal l.prog w K mg base 1 "_law_number" (a_int0) := cal_mk F8 (fn_abs (k := 0) (a := a_int0) (wB := w__law_number (aspNo) (aspNo)) F8 sc__law_number len_lint0 (fun cdv A outer s H E hr => j__law_number hr (PySem.W.mg_none_of X G z0) ((cal_no F7 (PySem.W.mg_of X G a7) b7).mono (by decide)) ((cal_no F8 (PySem.W.mg_of X G a8) b8).mono (by decide))) p_lint0) (PySem.W.mg_of X G a8) b8
  have C_lint : Cal l.prog w K mg base 3 "_law_number" (a_int) := cal_mk F8 (fn_abs (k := 2) (a := a_int) (wB := w__law_number (a_trim) (a_int0)) F8 sc__law_number len_lint (fun cdv A outer s H E hr => j__law_number hr (PySem.W.mg_none_of X G z0) (C_strip.mono (by decide)) (C_lint0.mono (by decide))) p_lint) (PySem.W.mg_of X G a8) b8
  have C_part : Cal l.prog w K mg base 2 "_law_part" (a_part) := cal_mk F9 (fn_abs (k := 1) (a := a_part) (wB := w__law_part (a_zero)) F9 sc__law_part len_part (fun cdv A outer s H E hr => j__law_part hr (PySem.W.mg_none_of X G z1) (C_lzero.mono (by decide))) p_part) (PySem.W.mg_of X G a9) b9
  have C_ladd0 : Cal l.prog w K mg base 35 "_law_add" (a_add0) := cal_mk F10 (fn_abs (k := 34) (a := a_add0) (wB := w__law_add (a_fr) (aspNo) (aspNo) (aspNo)) F10 sc__law_add len_ladd0 (fun cdv A outer s H E hr => j__law_add hr (PySem.W.mg_none_of X G z0) (PySem.W.mg_none_of X G z5) (PySem.W.mg_none_of X G z1) (PySem.W.mg_none_of X G z2) (C_lfraction.mono (by decide)) ((cal_no F7 (PySem.W.mg_of X G a7) b7).mono (by decide)) ((cal_no F10 (PySem.W.mg_of X G a10) b10).mono (by decide)) ((cal_no F9 (PySem.W.mg_of X G a9) b9).mono (by decide))) p_ladd0) (PySem.W.mg_of X G a10) b10
  have C_ladd : Cal l.prog w K mg base 36 "_law_add" (a_add) := cal_mk F10 (fn_abs (k := 35) (a := a_add) (wB := w__law_add (a_fr) (a_trim) (a_add0) (a_part)) F10 sc__law_add len_ladd (fun cdv A outer s H E hr => j__law_add hr (PySem.W.mg_none_of X G z0) (PySem.W.mg_none_of X G z5) (PySem.W.mg_none_of X G z1) (PySem.W.mg_none_of X G z2) (C_lfraction.mono (by decide)) (C_strip.mono (by decide)) (C_ladd0.mono (by decide)) (C_part.mono (by decide))) p_ladd) (PySem.W.mg_of X G a10) b10
  have C_lmul0 : Cal l.prog w K mg base 35 "_law_multiply" (a_mul0) := cal_mk F11 (fn_abs (k := 34) (a := a_mul0) (wB := w__law_multiply (a_fr) (aspNo) (aspNo) (aspNo) (aspNo)) F11 sc__law_multiply len_lmul0 (fun cdv A outer s H E hr => j__law_multiply hr (PySem.W.mg_none_of X G z0) (PySem.W.mg_none_of X G z1) (PySem.W.mg_none_of X G z2) (C_lfraction.mono (by decide)) ((cal_no F6 (PySem.W.mg_of X G a6) b6).mono (by decide)) ((cal_no F10 (PySem.W.mg_of X G a10) b10).mono (by decide)) ((cal_no F11 (PySem.W.mg_of X G a11) b11).mono (by decide)) ((cal_no F7 (PySem.W.mg_of X G a7) b7).mono (by decide))) p_lmul0) (PySem.W.mg_of X G a11) b11
  have C_lmul : Cal l.prog w K mg base 36 "_law_multiply" (a_mul) := cal_mk F11 (fn_abs (k := 35) (a := a_mul) (wB := w__law_multiply (a_fr) (a_zero) (a_add0) (a_mul0) (a_trim)) F11 sc__law_multiply len_lmul (fun cdv A outer s H E hr => j__law_multiply hr (PySem.W.mg_none_of X G z0) (PySem.W.mg_none_of X G z1) (PySem.W.mg_none_of X G z2) (C_lfraction.mono (by decide)) (C_lzero.mono (by decide)) (C_ladd0.mono (by decide)) (C_lmul0.mono (by decide)) (C_strip.mono (by decide))) p_lmul) (PySem.W.mg_of X G a11) b11
  have C_small : Cal l.prog w K mg base 35 "_law_small" (a_small) := cal_mk F12 (fn_abs (k := 34) (a := a_small) (wB := w__law_small (a_take) (a_fr) (aspNo) (aspNo)) F12 sc__law_small len_small (fun cdv A outer s H E hr => j__law_small hr (PySem.W.mg_none_of X G z0) (PySem.W.mg_none_of X G z2) (C_take.mono (by decide)) (C_lfraction.mono (by decide)) ((cal_no F7 (PySem.W.mg_of X G a7) b7).mono (by decide)) ((cal_no F12 (PySem.W.mg_of X G a12) b12).mono (by decide))) p_small) (PySem.W.mg_of X G a12) b12
  have C_smalld : Cal l.prog w K mg base 36 "_law_small" (a_smalld) := cal_mk F12 (fn_abs (k := 35) (a := a_smalld) (wB := w__law_small (a_take) (a_fr) (a_trim) (a_small)) F12 sc__law_small len_smalld (fun cdv A outer s H E hr => j__law_small hr (PySem.W.mg_none_of X G z0) (PySem.W.mg_none_of X G z2) (C_take.mono (by decide)) (C_lfraction.mono (by decide)) (C_strip.mono (by decide)) (C_small.mono (by decide))) p_smalld) (PySem.W.mg_of X G a12) b12
  have C_is_prime : Cal l.prog w K mg base 1 "is_prime" (a_isp) := cal_mk F13 (fn_abs (k := 0) (a := a_isp) (wB := w_is_prime) F13 sc_is_prime len_is_prime (fun cdv A outer s H E hr => j_is_prime hr ) p_is_prime) (PySem.W.mg_of X G a13) b13
  have C_need_shape : Cal l.prog w K mg base 1 "need_shape" ((a_needs (xvl [(.face, .ref e0), (.shape, .ref e1)]))) := cal_mk F14 (fn_abs (k := 0) (a := (a_needs (xvl [(.face, .ref e0), (.shape, .ref e1)]))) (wB := w_need_shape (xvl [(.face, .ref e0), (.shape, .ref e1)])) F14 sc_need_shape len_need_shape (fun cdv A outer s H E hr => j_need_shape hr xo) p_need_shape) (PySem.W.mg_of X G a14) b14
  have C_need_square : Cal l.prog w K mg base 2 "need_square" ((a_needq (xvl [(.face, .ref e0), (.shape, .ref e1)]))) := cal_mk F15 (fn_abs (k := 1) (a := (a_needq (xvl [(.face, .ref e0), (.shape, .ref e1)]))) (wB := w_need_square ((a_needs (xvl [(.face, .ref e0), (.shape, .ref e1)])))) F15 sc_need_square len_need_square (fun cdv A outer s H E hr => j_need_square hr (C_need_shape.mono (by decide))) p_need_square) (PySem.W.mg_of X G a15) b15
  have C_lmatrix : Cal l.prog w K mg base 37 "_law_matrix" (a_lmatrix) := cal_mk F16 (fn_abs (k := 36) (a := a_lmatrix) (wB := w__law_matrix (a_smalld)) F16 sc__law_matrix len_lmatrix (fun cdv A outer s H E hr => j__law_matrix hr (PySem.W.mg_none_of X G z4) (PySem.W.mg_none_of X G z2) (C_smalld.mono (by decide))) p_lmatrix) (PySem.W.mg_of X G a16) b16
  have C_ldot : Cal l.prog w K mg base 37 "_law_dot" (a_dot) := cal_mk F17 (fn_abs (k := 36) (a := a_dot) (wB := w__law_dot (a_zero) (a_add) (a_mul)) F17 sc__law_dot len_ldot (fun cdv A outer s H E hr => j__law_dot hr (PySem.W.mg_none_of X G z2) (PySem.W.mg_none_of X G z1) (C_lzero.mono (by decide)) (C_ladd.mono (by decide)) (C_lmul.mono (by decide))) p_ldot) (PySem.W.mg_of X G a17) b17
  have C_column : Cal l.prog w K mg base 1 "_law_column" (a_column) := cal_mk F18 (fn_abs (k := 0) (a := a_column) (wB := w__law_column) F18 sc__law_column len_column (fun cdv A outer s H E hr => j__law_column hr (PySem.W.mg_none_of X G z4)) p_column) (PySem.W.mg_of X G a18) b18
  have C_product : Cal l.prog w K mg base 38 "_law_product" (a_product) := cal_mk F19 (fn_abs (k := 37) (a := a_product) (wB := w__law_product (a_column) (a_dot)) F19 sc__law_product len_product (fun cdv A outer s H E hr => j__law_product hr (PySem.W.mg_none_of X G z2) (PySem.W.mg_none_of X G z4) (C_column.mono (by decide)) (C_ldot.mono (by decide))) p_product) (PySem.W.mg_of X G a19) b19
  have C_orders : Cal l.prog w K mg base 1 "_law_orders" (a_orders) := cal_mk F20 (fn_abs (k := 0) (a := a_orders) (wB := w__law_orders) F20 sc__law_orders len_orders (fun cdv A outer s H E hr => j__law_orders hr (PySem.W.mg_none_of X G z2)) p_orders) (PySem.W.mg_of X G a20) b20
  have C_lsign : Cal l.prog w K mg base 1 "_law_sign" (a_lsign) := cal_mk F21 (fn_abs (k := 0) (a := a_lsign) (wB := w__law_sign) F21 sc__law_sign len_lsign (fun cdv A outer s H E hr => j__law_sign hr (PySem.W.mg_none_of X G z2) (PySem.W.mg_none_of X G z1)) p_lsign) (PySem.W.mg_of X G a21) b21
  have C_ldet : Cal l.prog w K mg base 37 "_law_determinant" (a_ldet) := cal_mk F22 (fn_abs (k := 36) (a := a_ldet) (wB := w__law_determinant (a_zero) (a_orders) (a_int) (a_lsign) (a_mul) (a_add)) F22 sc__law_determinant len_ldet (fun cdv A outer s H E hr => j__law_determinant hr (PySem.W.mg_none_of X G z2) (C_lzero.mono (by decide)) (C_orders.mono (by decide)) (C_lint.mono (by decide)) (C_lsign.mono (by decide)) (C_lmul.mono (by decide)) (C_ladd.mono (by decide))) p_ldet) (PySem.W.mg_of X G a22) b22
  have C_zlow : Cal l.prog w K mg base 39 "_law_low" (a_zlow) := cal_mk F23 (fn_abs (k := 38) (a := a_zlow) (wB := w__law_low (a_take) (a_lmatrix) (a_product)) F23 sc__law_low len_zlow (fun cdv A outer s H E hr => j__law_low hr (PySem.W.mg_none_of X G z6) (C_take.mono (by decide)) (C_lmatrix.mono (by decide)) (C_product.mono (by decide))) p_zlow) (PySem.W.mg_of X G a23) b23
  have C_root : Cal l.prog w K mg base 1 "root" (a_root) := cal_mk F24 (fn_abs (k := 0) (a := a_root) (wB := w_root) F24 sc_root len_root (fun cdv A outer s H E hr => j_root hr ) p_root) (PySem.W.mg_of X G a24) b24
  have C_row_square : Cal l.prog w K mg base 1 "row_square" (a_rowsq) := cal_mk F25 (fn_abs (k := 0) (a := a_rowsq) (wB := w_row_square) F25 sc_row_square len_row_square (fun cdv A outer s H E hr => j_row_square hr (PySem.W.mg_none_of X G z7)) p_row_square) (PySem.W.mg_of X G a25) b25
  have C_dbound : Cal l.prog w K mg base 3 "determinant_bound" ((a_dbound (xvl [(.face, .ref e0), (.shape, .ref e1)]))) := cal_mk F26 (fn_abs (k := 2) (a := (a_dbound (xvl [(.face, .ref e0), (.shape, .ref e1)]))) (wB := w_determinant_bound ((a_needq (xvl [(.face, .ref e0), (.shape, .ref e1)]))) (a_root) (a_rowsq)) F26 sc_determinant_bound len_dbound (fun cdv A outer s H E hr => j_determinant_bound hr (C_need_square.mono (by decide)) (C_root.mono (by decide)) (C_row_square.mono (by decide))) p_dbound) (PySem.W.mg_of X G a26) b26
  have C_cbound : Cal l.prog w K mg base 3 "coefficient_bound" ((a_cbound (xvl [(.face, .ref e0), (.shape, .ref e1)]))) := cal_mk F27 (fn_abs (k := 2) (a := (a_cbound (xvl [(.face, .ref e0), (.shape, .ref e1)]))) (wB := w_coefficient_bound ((a_needq (xvl [(.face, .ref e0), (.shape, .ref e1)]))) (a_root) (a_rowsq)) F27 sc_coefficient_bound len_cbound (fun cdv A outer s H E hr => j_coefficient_bound hr (C_need_square.mono (by decide)) (C_root.mono (by decide)) (C_row_square.mono (by decide))) p_cbound) (PySem.W.mg_of X G a27) b27
  have C_next_prime : Cal l.prog w K mg base 2 "next_prime" (a_next) := cal_mk F28 (fn_abs (k := 1) (a := a_next) (wB := w_next_prime (a_isp)) F28 sc_next_prime len_next_prime (fun cdv A outer s H E hr => j_next_prime hr (C_is_prime.mono (by decide))) p_next_prime) (PySem.W.mg_of X G a28) b28
  have C_primes_for : Cal l.prog w K mg base 3 "primes_for" (a_primesfor) := cal_mk F29 (fn_abs (k := 2) (a := a_primesfor) (wB := w_primes_for (a_next)) F29 sc_primes_for len_primes_for (fun cdv A outer s H E hr => j_primes_for hr (PySem.W.mg_of X G y0) (C_next_prime.mono (by decide))) p_primes_for) (PySem.W.mg_of X G a29) b29
  have C_lroot : Cal l.prog w K mg base 1 "_law_root" (a_lroot) := cal_mk F30 (fn_abs (k := 0) (a := a_lroot) (wB := w__law_root) F30 sc__law_root len_lroot (fun cdv A outer s H E hr => j__law_root hr ) p_lroot) (PySem.W.mg_of X G a30) b30
  have C_lbound : Cal l.prog w K mg base 2 "_law_bound" (a_lbound) := cal_mk F31 (fn_abs (k := 1) (a := a_lbound) (wB := w__law_bound (a_lroot)) F31 sc__law_bound len_lbound (fun cdv A outer s H E hr => j__law_bound hr (PySem.W.mg_none_of X G z7) (C_lroot.mono (by decide))) p_lbound) (PySem.W.mg_of X G a31) b31
  have C_isp : Cal l.prog w K mg base 1 "_law_is_prime" (a_isp) := cal_mk F32 (fn_abs (k := 0) (a := a_isp) (wB := w__law_is_prime) F32 sc__law_is_prime len_isp (fun cdv A outer s H E hr => j__law_is_prime hr (PySem.W.mg_none_of X G z0)) p_isp) (PySem.W.mg_of X G a32) b32
  have C_lprimes : Cal l.prog w K mg base 2 "_law_primes" (a_lprimes) := cal_mk F33 (fn_abs (k := 1) (a := a_lprimes) (wB := w__law_primes (a_isp)) F33 sc__law_primes len_lprimes (fun cdv A outer s H E hr => j__law_primes hr (C_isp.mono (by decide))) p_lprimes) (PySem.W.mg_of X G a33) b33
  exact fn_abs (k := 39) (a := aspLaw) (wB := w_law (a_start) (a_take) (a_zlow) ((a_dbound (xvl [(.face, .ref e0), (.shape, .ref e1)]))) (a_lbound) ((a_cbound (xvl [(.face, .ref e0), (.shape, .ref e1)]))) (a_ldet) (a_raised) (a_primesfor) (a_lprimes)) F34 sc_law len_law (fun cdv A outer s H E hr => j_law hr (PySem.W.mg_none_of X G z3) (C_start.mono (by decide)) (C_take.mono (by decide)) (C_zlow.mono (by decide)) (C_dbound.mono (by decide)) (C_lbound.mono (by decide)) (C_cbound.mono (by decide)) (C_ldet.mono (by decide)) (C_raised.mono (by decide)) (C_primes_for.mono (by decide)) (C_lprimes.mono (by decide))) p_law
end My
open PySem PySem.W PyProof.Rows
set_option maxRecDepth 100000 in
set_option maxHeartbeats 0 in
theorem PySem.Challenge.cw_facetlore_k50_bounds_and_primes_holds : PySem.Challenge.rw_facetlore_k50_bounds_and_primes.Holds := by
  w_on; o_law; k_head; (case hw => w_witness2)
  k_fill
  refine AW.walk_see (l := PySem.Challenge.rw_facetlore_k50_bounds_and_primes) (n := 63) (k := 40) (x := "script") (sp := fun w => AW.spOf _ AW.aspLaw) rfl (by decide) rfl ⟨rfl, by decide, by decide⟩ (by decide +kernel) (fun w h Y => PySem.W.kIn_of Y) ?F (fun w H a ns hl _ hS => AW.law_sp _ H a ns hl hS)
  case F =>
    intro w mg fa h KX G hmg
    refine' My.all_mk KX G hmg rfl ?a0 ?l0 ?c0 ?k0 ?a1 ?l1 ?c1 ?k1 ?a2 ?l2 ?c2 ?k2 ?a3 ?l3 ?c3 ?k3 ?a4 ?l4 ?c4 ?k4 ?a5 ?l5 ?c5 ?k5 ?a6 ?l6 ?c6 ?k6 ?a7 ?l7 ?c7 ?k7 ?a8 ?l8 ?c8 ?k8 ?a9 ?l9 ?c9 ?k9 ?a10 ?l10 ?c10 ?k10 ?a11 ?l11 ?c11 ?k11 ?a12 ?l12 ?c12 ?k12 ?a13 ?l13 ?c13 ?k13 ?a14 ?l14 ?c14 ?k14 ?a15 ?l15 ?c15 ?k15 ?a16 ?l16 ?c16 ?k16 ?a17 ?l17 ?c17 ?k17 ?a18 ?l18 ?c18 ?k18 ?a19 ?l19 ?c19 ?k19 ?a20 ?l20 ?c20 ?k20 ?a21 ?l21 ?c21 ?k21 ?a22 ?l22 ?c22 ?k22 ?a23 ?l23 ?c23 ?k23 ?a24 ?l24 ?c24 ?k24 ?a25 ?l25 ?c25 ?k25 ?a26 ?l26 ?c26 ?k26 ?a27 ?l27 ?c27 ?k27 ?a28 ?l28 ?c28 ?k28 ?a29 ?l29 ?c29 ?k29 ?a30 ?l30 ?c30 ?k30 ?a31 ?l31 ?c31 ?k31 ?a32 ?l32 ?c32 ?k32 ?a33 ?l33 ?c33 ?k33 ?a34 ?l34 ?c34 ?k34 ?z0 ?z1 ?z2 ?z3 ?z4 ?z5 ?z6 ?z7 ?y0 ?xg0 ?xge0 ?xgk0 ?xgb0 ?xgt0 ?xgf0 ?xgg0 ?xgh0 ?xgi0 ?xgm0 ?xgv0 ?xgx0_0 ?xgx1_0 ?xg1 ?xge1 ?xgk1 ?xgb1 ?xgt1 ?xgf1 ?xgg1 ?xgh1 ?xgi1 ?xgm1 ?xgv1 ?xgx0_1 ?xgx1_1 ?xgc1 ?xgc2
    (case xg0 => k_is); (case xg1 => k_is); (case a0 => k_is); (case l0 => k_is); (case c0 => k_is); (case k0 => k_is); (case a1 => k_is); (case l1 => k_is); (case c1 => k_is); (case k1 => k_is); (case a2 => k_is); (case l2 => k_is); (case c2 => k_is); (case k2 => k_is); (case a3 => k_is); (case l3 => k_is); (case c3 => k_is); (case k3 => k_is); (case a4 => k_is); (case l4 => k_is); (case c4 => k_is); (case k4 => k_is); (case a5 => k_is); (case l5 => k_is); (case c5 => k_is); (case k5 => k_is); (case a6 => k_is); (case l6 => k_is); (case c6 => k_is); (case k6 => k_is); (case a7 => k_is); (case l7 => k_is); (case c7 => k_is); (case k7 => k_is); (case a8 => k_is); (case l8 => k_is); (case c8 => k_is); (case k8 => k_is); (case a9 => k_is); (case l9 => k_is); (case c9 => k_is); (case k9 => k_is); (case a10 => k_is); (case l10 => k_is); (case c10 => k_is); (case k10 => k_is); (case a11 => k_is); (case l11 => k_is); (case c11 => k_is); (case k11 => k_is); (case a12 => k_is); (case l12 => k_is); (case c12 => k_is); (case k12 => k_is); (case a13 => k_is); (case l13 => k_is); (case c13 => k_is); (case k13 => k_is); (case a14 => k_is); (case l14 => k_is); (case c14 => k_is); (case k14 => k_is); (case a15 => k_is); (case l15 => k_is); (case c15 => k_is); (case k15 => k_is); (case a16 => k_is); (case l16 => k_is); (case c16 => k_is); (case k16 => k_is); (case a17 => k_is); (case l17 => k_is); (case c17 => k_is); (case k17 => k_is); (case a18 => k_is); (case l18 => k_is); (case c18 => k_is); (case k18 => k_is); (case a19 => k_is); (case l19 => k_is); (case c19 => k_is); (case k19 => k_is); (case a20 => k_is); (case l20 => k_is); (case c20 => k_is); (case k20 => k_is); (case a21 => k_is); (case l21 => k_is); (case c21 => k_is); (case k21 => k_is); (case a22 => k_is); (case l22 => k_is); (case c22 => k_is); (case k22 => k_is); (case a23 => k_is); (case l23 => k_is); (case c23 => k_is); (case k23 => k_is); (case a24 => k_is); (case l24 => k_is); (case c24 => k_is); (case k24 => k_is); (case a25 => k_is); (case l25 => k_is); (case c25 => k_is); (case k25 => k_is); (case a26 => k_is); (case l26 => k_is); (case c26 => k_is); (case k26 => k_is); (case a27 => k_is); (case l27 => k_is); (case c27 => k_is); (case k27 => k_is); (case a28 => k_is); (case l28 => k_is); (case c28 => k_is); (case k28 => k_is); (case a29 => k_is); (case l29 => k_is); (case c29 => k_is); (case k29 => k_is); (case a30 => k_is); (case l30 => k_is); (case c30 => k_is); (case k30 => k_is); (case a31 => k_is); (case l31 => k_is); (case c31 => k_is); (case k31 => k_is); (case a32 => k_is); (case l32 => k_is); (case c32 => k_is); (case k32 => k_is); (case a33 => k_is); (case l33 => k_is); (case c33 => k_is); (case k33 => k_is); (case a34 => k_is); (case l34 => k_is); (case c34 => k_is); (case k34 => k_is); (case z0 => k_is); (case z1 => k_is); (case z2 => k_is); (case z3 => k_is); (case z4 => k_is); (case z5 => k_is); (case z6 => k_is); (case z7 => k_is); (case y0 => k_is); (case xge0 => k_exc); (case xgk0 => k_is); (case xgb0 => k_is); (case xgt0 => k_is); (case xgf0 => k_is); (case xgg0 => k_is); (case xgh0 => k_is); (case xgi0 => k_is); (case xgm0 => k_is); (case xgv0 => k_is); (case xgx0_0 => k_is); (case xgx1_0 => k_is); (case xge1 => k_exc); (case xgk1 => k_is); (case xgb1 => k_is); (case xgt1 => k_is); (case xgf1 => k_is); (case xgg1 => k_is); (case xgh1 => k_is); (case xgi1 => k_is); (case xgm1 => k_is); (case xgv1 => k_is); (case xgx0_1 => k_is); (case xgx1_1 => k_is); (case xgc1 => k_is); (case xgc2 => k_is)
