import PyProof.Rows.All
import Wide.All
import OpenK.AllK
import Wide.FinOn
import HandS.ForMost
import HandS.ForExc
import HandS.IsInst
import HandS.Conv
import HandS.Flow
import HandS.TupAny
import HandS.Wide
import HandS.WideBits
import KE.GoesMore
import KE.GoesComp
import HandS.ExcIs
import HandS.Iter
import HandS.Style
import HandS.TupMul
import HandS.SortInts
import PyProof.EqKinds
import HandS.CallLocal
import HandS.Head0
import HandS.Head1
import HandS.Head2
import HandS.HeadEnd
import HandS.HeadHook1
import PySem.Challenge.RW_facetlore_k23_changes_of_domain
set_option Elab.async false
set_option linter.all false
set_option maxRecDepth 100000
set_option maxHeartbeats 4000000
/-! AW: abstract readings. Values are trees (D), mutable lists are cells of a store; no address is left in a reading. -/
namespace AW
open PySem PySem.Spec PyProof.Rows L2

/-- a value: .exc is an exception that a suite holds; tuples and lists that never change are trees; .ref n is the n-th cell of the store -/
inductive D where
  | non | bl (b : Bool) | int (i : Int) | str (x : Str) | tup (ds : List D) | fl (ds : List D) | scr (ds : List D) | ref (n : Nat) | exc (a : Addr)

/-- a cell of the store -/
inductive Cel where
  | lst (ds : List D)
  | ins (C : Addr) (fs : List (Str × D))
abbrev Sto := List Cel

/-- a list that is read and never written: the script, or one of the written part -/
def ScrL (K : PySem.W.Frag) (H : Hp) (a : Addr) (xs : List V) : Prop :=
  (∃ o, H a = some (.frz o (.lst xs))) ∨
    ∃ (o : Obj) (its : Array Value) (n : Nat), K.lookup a = some o ∧ o.cls = .type "list" ∧ o.dict = none ∧ o.data = .seq its n ∧ its.size ≤ sizeLine ∧ Vals xs its.toList
theorem ScrL.sq {K : PySem.W.Frag} {H : Hp} {a : Addr} {xs : List V} (h : ScrL K H a xs) : SqL K H a xs := by
  rcases h with ⟨o, h⟩ | h
  · exact .inl (.inr ⟨o, h⟩)
  · exact .inr h
/-- where the cells of the store are; hid: lists that are being made, of which no value speaks -/
structure Ad where
  cells : List Addr
  hid : List Addr
instance : Membership Addr Ad := ⟨fun ι a => a ∈ ι.cells ∨ a ∈ ι.hid⟩
abbrev Ad.add (ι : Ad) (p : Addr) : Ad := ⟨ι.cells ++ [p], ι.hid⟩
mutual
def Rep (K : PySem.W.Frag) (ι : Ad) (H : Hp) : D → V → Prop
  | .non, v => v = .non
  | .bl b, v => v = .bl b
  | .int i, v => v = .int i
  | .str x, v => v = .str x
  | .tup ds, v => ∃ a xs, v = .ref a ∧ SqT K H a xs ∧ RepL K ι H ds xs
  | .fl ds, v => ∃ a xs, v = .ref a ∧ a ∉ ι ∧ H a = some (.lst xs) ∧ RepL K ι H ds xs
  | .scr ds, v => ∃ a xs, v = .ref a ∧ ScrL K H a xs ∧ RepL K ι H ds xs
  | .ref n, v => ∃ a, v = .ref a ∧ ι.cells[n]? = some a
  | .exc a, v => v = .ref a
def RepL (K : PySem.W.Frag) (ι : Ad) (H : Hp) : List D → List V → Prop
  | [], xs => xs = []
  | d :: ds, xs => ∃ x r, xs = x :: r ∧ Rep K ι H d x ∧ RepL K ι H ds r
end

def RepF (K : PySem.W.Frag) (ι : Ad) (H : Hp) : List (Str × D) → List (Str × V) → Prop
  | [], xs => xs = []
  | p :: ps, xs => ∃ x r, xs = (p.1, x) :: r ∧ Rep K ι H p.2 x ∧ RepF K ι H ps r

def CelRep (K : PySem.W.Frag) (ι : Ad) (H : Hp) : Cel → Addr → Prop
  | .lst ds, a => ∃ xs, H a = some (.lst xs) ∧ RepL K ι H ds xs
  | .ins C fs, a => ∃ dx xs, H a = some (.ins C dx xs) ∧ RepF K ι H fs xs

/-- what values lean on, from one abstract state to a later one -/
structure Ext0 (K : PySem.W.Frag) (ι : Ad) (H : Hp) (ι' : Ad) (H' : Hp) : Prop where
  tup : ∀ a xs, SqT K H a xs → SqT K H' a xs
  frz : ∀ a xs, a ∉ ι → H a = some (.lst xs) → a ∉ ι' ∧ H' a = some (.lst xs)
  scr : ∀ a xs, ScrL K H a xs → ScrL K H' a xs
  pre : ι.cells <+: ι'.cells
/-- from one abstract state to a later one: tuples and frozen lists stay, the cells keep their addresses, what is being made stays -/
structure Ext (K : PySem.W.Frag) (ι : Ad) (H : Hp) (ι' : Ad) (H' : Hp) : Prop extends Ext0 K ι H ι' H' where
  hid : ∀ a ∈ ι.hid, a ∈ ι'.hid
  hidk : ∀ a ∈ ι.hid, H' a = H a

structure RelS (K : PySem.W.Frag) (ι : Ad) (S : Sto) (H : Hp) : Prop where
  len : ι.cells.length = S.length
  nd : ι.cells.Nodup
  hid : ∀ a ∈ ι.hid, a ∉ ι.cells ∧ ∃ o, H a = some o
  cel : ∀ (n : Nat) (c : Cel) (a : Addr), S[n]? = some c → ι.cells[n]? = some a → CelRep K ι H c a

abbrev ASt := List (Option D)
def Slots (K : PySem.W.Frag) (ι : Ad) (H : Hp) (σD : ASt) (σ : L2.St) : Prop :=
  σD.length = σ.length ∧ ∀ (i : Nat) (d : D), σD[i]? = some (some d) → ∃ v, σ[i]? = some (some v) ∧ Rep K ι H d v

section
variable {K : PySem.W.Frag} {ι ι1 ι2 : Ad} {H H1 H2 : Hp} {S S1 : Sto}

theorem Ext.refl : Ext K ι H ι H := ⟨⟨fun _ _ h => h, fun _ _ n h => ⟨n, h⟩, fun _ _ h => h, List.prefix_rfl⟩, fun _ h => h, fun _ _ => rfl⟩
theorem Ext0.trans (a : Ext0 K ι H ι1 H1) (b : Ext0 K ι1 H1 ι2 H2) : Ext0 K ι H ι2 H2 :=
  ⟨fun x xs h => b.tup x xs (a.tup x xs h), fun x xs n h => b.frz x xs (a.frz x xs n h).1 (a.frz x xs n h).2, fun x xs h => b.scr x xs (a.scr x xs h), a.pre.trans b.pre⟩
theorem Ext.trans (a : Ext K ι H ι1 H1) (b : Ext K ι1 H1 ι2 H2) : Ext K ι H ι2 H2 :=
  ⟨a.toExt0.trans b.toExt0, fun x h => b.hid x (a.hid x h), fun x h => (b.hidk x (a.hid x h)).trans (a.hidk x h)⟩
theorem Ext0.get (e : Ext0 K ι H ι1 H1) {n : Nat} {a : Addr} (h : ι.cells[n]? = some a) : ι1.cells[n]? = some a := by
  obtain ⟨t, q⟩ := e.pre
  rw [← q, List.getElem?_append_left (List.getElem?_eq_some_iff.mp h).1]
  exact h

mutual
theorem Rep.mono0 (e : Ext0 K ι H ι1 H1) : ∀ (d : D) (v : V), Rep K ι H d v → Rep K ι1 H1 d v
  | .non, _, h => by unfold Rep at h ⊢; exact h
  | .bl _, _, h => by unfold Rep at h ⊢; exact h
  | .int _, _, h => by unfold Rep at h ⊢; exact h
  | .str _, _, h => by unfold Rep at h ⊢; exact h
  | .tup ds, _, h => by
    unfold Rep at h ⊢
    obtain ⟨a, xs, e1, e2, e3⟩ := h
    exact ⟨a, xs, e1, e.tup a xs e2, RepL.mono0 e ds xs e3⟩
  | .fl ds, _, h => by
    unfold Rep at h ⊢
    obtain ⟨a, xs, e1, n, e2, e3⟩ := h
    exact ⟨a, xs, e1, (e.frz a xs n e2).1, (e.frz a xs n e2).2, RepL.mono0 e ds xs e3⟩
  | .scr ds, _, h => by
    unfold Rep at h ⊢
    obtain ⟨a, xs, e1, e2, e3⟩ := h
    exact ⟨a, xs, e1, e.scr a xs e2, RepL.mono0 e ds xs e3⟩
  | .ref n, _, h => by
    unfold Rep at h ⊢
    obtain ⟨a, e1, e2⟩ := h
    exact ⟨a, e1, e.get e2⟩
  | .exc _, _, h => by unfold Rep at h ⊢; exact h
theorem RepL.mono0 (e : Ext0 K ι H ι1 H1) : ∀ (ds : List D) (xs : List V), RepL K ι H ds xs → RepL K ι1 H1 ds xs
  | [], _, h => by unfold RepL at h ⊢; exact h
  | d :: ds, _, h => by
    unfold RepL at h ⊢
    obtain ⟨x, r, e1, e2, e3⟩ := h
    exact ⟨x, r, e1, Rep.mono0 e d x e2, RepL.mono0 e ds r e3⟩
end
theorem RepF.mono0 (e : Ext0 K ι H ι1 H1) : ∀ (ds : List (Str × D)) (xs : List (Str × V)), RepF K ι H ds xs → RepF K ι1 H1 ds xs
  | [], _, h => by unfold RepF at h ⊢; exact h
  | d :: ds, _, h => by
    unfold RepF at h ⊢
    obtain ⟨x, r, e1, e2, e3⟩ := h
    exact ⟨x, r, e1, Rep.mono0 e _ x e2, RepF.mono0 e ds r e3⟩

theorem Rep.mono (e : Ext K ι H ι1 H1) (d : D) (v : V) (h : Rep K ι H d v) : Rep K ι1 H1 d v := Rep.mono0 e.toExt0 d v h
theorem RepL.mono (e : Ext K ι H ι1 H1) (ds : List D) (xs : List V) (h : RepL K ι H ds xs) : RepL K ι1 H1 ds xs := RepL.mono0 e.toExt0 ds xs h
theorem RepF.mono (e : Ext K ι H ι1 H1) (ds : List (Str × D)) (xs : List (Str × V)) (h : RepF K ι H ds xs) : RepF K ι1 H1 ds xs := RepF.mono0 e.toExt0 ds xs h

theorem RepL.nil : RepL K ι H [] [] := by unfold RepL; rfl
theorem RepL.cons {d : D} {ds : List D} {x : V} {xs : List V} (h : Rep K ι H d x) (t : RepL K ι H ds xs) : RepL K ι H (d :: ds) (x :: xs) := by
  unfold RepL; exact ⟨x, xs, rfl, h, t⟩
theorem RepL.length : ∀ {ds : List D} {xs : List V}, RepL K ι H ds xs → ds.length = xs.length
  | [], _, h => by unfold RepL at h; subst h; rfl
  | d :: ds, _, h => by
    unfold RepL at h
    obtain ⟨x, r, rfl, _, e3⟩ := h
    rw [List.length_cons, List.length_cons, RepL.length e3]
theorem RepL.get : ∀ {ds : List D} {xs : List V} {i : Nat} {d : D}, RepL K ι H ds xs → ds[i]? = some d → ∃ x, xs[i]? = some x ∧ Rep K ι H d x
  | [], _, _, _, _, h => by simp at h
  | d :: ds, _, 0, _, h, e => by
    unfold RepL at h
    obtain ⟨x, r, rfl, e2, _⟩ := h
    simp at e; subst e
    exact ⟨x, rfl, e2⟩
  | d :: ds, _, i + 1, _, h, e => by
    unfold RepL at h
    obtain ⟨x, r, rfl, _, e3⟩ := h
    obtain ⟨y, h1, h2⟩ := RepL.get (i := i) e3 (by simpa using e)
    exact ⟨y, by simpa using h1, h2⟩
theorem RepL.append : ∀ {ds es : List D} {xs ys : List V}, RepL K ι H ds xs → RepL K ι H es ys → RepL K ι H (ds ++ es) (xs ++ ys)
  | [], _, _, _, h, h2 => by unfold RepL at h; subst h; exact h2
  | d :: ds, _, _, _, h, h2 => by
    unfold RepL at h
    obtain ⟨x, r, rfl, e2, e3⟩ := h
    exact RepL.cons e2 (RepL.append e3 h2)
theorem RepL.take : ∀ {ds : List D} {xs : List V} (n : Nat), RepL K ι H ds xs → RepL K ι H (ds.take n) (xs.take n)
  | [], _, n, h => by unfold RepL at h; subst h; simp; exact RepL.nil
  | d :: ds, _, 0, h => by simp; exact RepL.nil
  | d :: ds, _, n + 1, h => by
    unfold RepL at h
    obtain ⟨x, r, rfl, e2, e3⟩ := h
    exact RepL.cons e2 (RepL.take n e3)
theorem RepL.drop : ∀ {ds : List D} {xs : List V} (n : Nat), RepL K ι H ds xs → RepL K ι H (ds.drop n) (xs.drop n)
  | [], _, n, h => by unfold RepL at h; subst h; simp; exact RepL.nil
  | d :: ds, _, 0, h => h
  | d :: ds, _, n + 1, h => by
    unfold RepL at h
    obtain ⟨x, r, rfl, e2, e3⟩ := h
    exact RepL.drop n e3
theorem RepL.set : ∀ {ds : List D} {xs : List V} {d : D} {x : V} (n : Nat), RepL K ι H ds xs → Rep K ι H d x → RepL K ι H (ds.set n d) (xs.set n x)
  | [], _, _, _, n, h, _ => by unfold RepL at h; subst h; exact RepL.nil
  | d :: ds, _, _, _, 0, h, hx => by
    unfold RepL at h
    obtain ⟨x, r, rfl, e2, e3⟩ := h
    exact RepL.cons hx e3
  | d :: ds, _, _, _, n + 1, h, hx => by
    unfold RepL at h
    obtain ⟨x, r, rfl, e2, e3⟩ := h
    exact RepL.cons e2 (RepL.set n e3 hx)
theorem RepL.reverse : ∀ {ds : List D} {xs : List V}, RepL K ι H ds xs → RepL K ι H ds.reverse xs.reverse
  | [], _, h => by unfold RepL at h; subst h; exact RepL.nil
  | d :: ds, _, h => by
    unfold RepL at h
    obtain ⟨x, r, rfl, e2, e3⟩ := h
    rw [List.reverse_cons, List.reverse_cons]
    exact RepL.append (RepL.reverse e3) (RepL.cons e2 RepL.nil)

theorem Slots.mono (e : Ext K ι H ι1 H1) {σD : ASt} {σ : L2.St} (s : Slots K ι H σD σ) : Slots K ι1 H1 σD σ :=
  ⟨s.1, fun i d h => let ⟨v, a, b⟩ := s.2 i d h; ⟨v, a, Rep.mono e d v b⟩⟩
theorem Slots.set {σD : ASt} {σ : L2.St} (s : Slots K ι H σD σ) (i : Nat) {d : D} {v : V} (r : Rep K ι H d v) : Slots K ι H (σD.set i (some d)) (σ.set i (some v)) := by
  refine ⟨by rw [List.length_set, List.length_set]; exact s.1, fun j e h => ?_⟩
  by_cases hj : i = j
  · subst hj
    have hl : i < σD.length := by
      have := (List.getElem?_eq_some_iff.mp h).1
      rwa [List.length_set] at this
    rw [List.getElem?_set_self hl] at h
    cases h
    exact ⟨v, by rw [List.getElem?_set_self (by rw [← s.1]; exact hl)], r⟩
  · rw [List.getElem?_set_ne hj] at h
    rw [List.getElem?_set_ne hj]
    exact s.2 j e h

/-- a cell stands in H -/
theorem RelS.there (r : RelS K ι S H) {a : Addr} (h : a ∈ ι) : ∃ o, H a = some o := by
  rcases h with h | h
  rotate_left
  · exact (r.hid a h).2
  obtain ⟨n, hn⟩ := List.getElem?_of_mem h
  have hl : n < S.length := by rw [← r.len]; exact (List.getElem?_eq_some_iff.mp hn).1
  have hc := r.cel n _ a (List.getElem?_eq_getElem hl) hn
  generalize S[n] = c at hc
  cases c with
  | lst ds => obtain ⟨xs, e, _⟩ := hc; exact ⟨_, e⟩
  | ins C fs => obtain ⟨dx, xs, e, _⟩ := hc; exact ⟨_, e⟩
theorem SqT.upd_new {a p : Addr} {xs : List V} {o : HO} (h : SqT K H a xs) (n : H p = none) : SqT K (upd H p o) a xs := by
  rcases h with (h | ⟨u, h⟩) | h
  · exact .inl (.inl (by rw [upd_ne (ne_of_none h n)]; exact h))
  · exact .inl (.inr ⟨u, by rw [upd_ne (ne_of_none h n)]; exact h⟩)
  · exact .inr h
theorem ScrL.upd_new {a p : Addr} {xs : List V} {o : HO} (h : ScrL K H a xs) (n : H p = none) : ScrL K (upd H p o) a xs := by
  rcases h with ⟨u, h⟩ | h
  · exact .inl ⟨u, by rw [upd_ne (ne_of_none h n)]; exact h⟩
  · exact .inr h
/-- a new untracked thing -/
theorem Ext.new {p : Addr} {o : HO} (r : RelS K ι S H) (n : H p = none) : Ext K ι H ι (upd H p o) :=
  ⟨⟨fun _ _ h => SqT.upd_new h n, fun _ _ m h => ⟨m, by rw [upd_ne (ne_of_none h n)]; exact h⟩, fun _ _ h => ScrL.upd_new h n, List.prefix_rfl⟩, fun _ h => h, fun a h => upd_ne (by rintro rfl; obtain ⟨u, e⟩ := (r.hid a h).2; rw [n] at e; cases e)⟩
theorem CelRep.mono0 (e : Ext0 K ι H ι1 H1) {c : Cel} {a : Addr} (k : ∀ o, H a = some o → H1 a = some o) (h : CelRep K ι H c a) : CelRep K ι1 H1 c a := by
  cases c with
  | lst ds => obtain ⟨xs, e1, e2⟩ := h; exact ⟨xs, k _ e1, RepL.mono0 e ds xs e2⟩
  | ins C fs => obtain ⟨dx, xs, e1, e2⟩ := h; exact ⟨dx, xs, k _ e1, RepF.mono0 e fs xs e2⟩
theorem CelRep.mono (e : Ext K ι H ι1 H1) {c : Cel} {a : Addr} (k : ∀ o, H a = some o → H1 a = some o) (h : CelRep K ι H c a) : CelRep K ι1 H1 c a := CelRep.mono0 e.toExt0 k h
theorem RelS.new {p : Addr} {o : HO} (r : RelS K ι S H) (n : H p = none) : RelS K ι S (upd H p o) :=
  ⟨r.len, r.nd, fun a h => ⟨(r.hid a h).1, let ⟨u, e⟩ := (r.hid a h).2; ⟨u, by rw [upd_ne (ne_of_none e n)]; exact e⟩⟩, fun m c a h1 h2 => (r.cel m c a h1 h2).mono (Ext.new r n) fun u h => by rw [upd_ne (ne_of_none h n)]; exact h⟩
/-- a new cell -/
theorem Ext.cell {p : Addr} {o : HO} (r : RelS K ι S H) (n : H p = none) : Ext K ι H (ι.add p) (upd H p o) := by
  refine ⟨⟨fun _ _ h => SqT.upd_new h n, fun a xs m h => ⟨fun z => ?_, by rw [upd_ne (ne_of_none h n)]; exact h⟩, fun _ _ h => ScrL.upd_new h n, List.prefix_append _ _⟩, fun _ h => h, fun a h => upd_ne (by rintro rfl; obtain ⟨u, e⟩ := (r.hid a h).2; rw [n] at e; cases e)⟩
  rcases z with z | z
  rotate_left
  · exact m (.inr z)
  rcases List.mem_append.mp z with z | z
  · exact m (.inl z)
  · rw [List.mem_singleton.mp z, n] at h; cases h
theorem RelS.cell {p : Addr} {c : Cel} {o : HO} (r : RelS K ι S H) (n : H p = none) (hc : CelRep K (ι.add p) (upd H p o) c p) : RelS K (ι.add p) (S ++ [c]) (upd H p o) := by
  have np : p ∉ ι.cells := fun z => by
    obtain ⟨u, e⟩ := r.there (.inl z)
    rw [n] at e; cases e
  refine ⟨by show (ι.cells ++ [p]).length = _; rw [List.length_append, List.length_append, r.len]; rfl, ?_, fun a h => ⟨fun z => ?_, ?_⟩, fun m c' a h1 h2 => ?_⟩
  · show (ι.cells ++ [p]).Nodup
    rw [List.nodup_append]
    exact ⟨r.nd, by simp, fun a ha b hb => by rintro rfl; exact np (by rw [List.mem_singleton.mp hb] at ha; exact ha)⟩
  · obtain ⟨h1, u, e⟩ := r.hid a h
    rcases List.mem_append.mp z with z | z
    · exact h1 z
    · rw [List.mem_singleton.mp z, n] at e; cases e
  · obtain ⟨h1, u, e⟩ := r.hid a h
    exact ⟨u, by rw [upd_ne (ne_of_none e n)]; exact e⟩
  · have h2 : (ι.cells ++ [p])[m]? = some a := h2
    by_cases hm : m < S.length
    · rw [List.getElem?_append_left hm] at h1
      rw [List.getElem?_append_left (by rw [r.len]; exact hm)] at h2
      exact (r.cel m c' a h1 h2).mono (Ext.cell r n) fun u h => by rw [upd_ne (ne_of_none h n)]; exact h
    · have e1 : m = S.length := by
        have := (List.getElem?_eq_some_iff.mp h1).1
        rw [List.length_append, List.length_singleton] at this
        omega
      subst e1
      rw [List.getElem?_append_right (Nat.le_refl _), Nat.sub_self] at h1
      rw [List.getElem?_append_right (by rw [r.len]; exact Nat.le_refl _), r.len, Nat.sub_self] at h2
      cases h1
      cases h2
      exact hc
/-- what is in a cell is changed -/
theorem RelS.at (r : RelS K ι S H) {n : Nat} {c : Cel} (h : S[n]? = some c) : ∃ a, ι.cells[n]? = some a ∧ CelRep K ι H c a := by
  have hl : n < ι.cells.length := by rw [r.len]; exact (List.getElem?_eq_some_iff.mp h).1
  exact ⟨ι.cells[n], List.getElem?_eq_getElem hl, r.cel n c _ h (List.getElem?_eq_getElem hl)⟩
theorem nodup_eq {l : List Addr} (h : l.Nodup) {i j : Nat} {a : Addr} (hi : l[i]? = some a) (hj : l[j]? = some a) : i = j := by
  obtain ⟨h1, e1⟩ := List.getElem?_eq_some_iff.mp hi
  obtain ⟨h2, e2⟩ := List.getElem?_eq_some_iff.mp hj
  exact (List.getElem_inj h).mp (e1.trans e2.symm)
/-- which things at a are written: a list, an instance -/
def Wr : HO → Prop
  | .lst _ => True
  | .ins _ _ _ => True
  | _ => False
theorem Ext.wr {a : Addr} {o o' : HO} (r : RelS K ι S H) (ha : a ∈ ι.cells) (h : H a = some o) (w : Wr o) : Ext K ι H ι (upd H a o') := by
  refine ⟨⟨fun b xs hb => ?_, fun b xs m hb => ⟨m, ?_⟩, fun b xs hb => ?_, List.prefix_rfl⟩, fun _ h => h, fun b hb => upd_ne (by rintro rfl; exact (r.hid b hb).1 ha)⟩
  · rcases hb with (hb | ⟨u, hb⟩) | hb
    · exact .inl (.inl (by rw [upd_ne (by rintro rfl; rw [h] at hb; cases hb; exact w)]; exact hb))
    · exact .inl (.inr ⟨u, by rw [upd_ne (by rintro rfl; rw [h] at hb; cases hb; exact w)]; exact hb⟩)
    · exact .inr hb
  · have hne : b ≠ a := by rintro rfl; exact m (.inl ha)
    rw [upd_ne hne]; exact hb
  · rcases hb with ⟨u, hb⟩ | hb
    · exact .inl ⟨u, by rw [upd_ne (by rintro rfl; rw [h] at hb; cases hb; exact w)]; exact hb⟩
    · exact .inr hb
theorem RelS.wr (r : RelS K ι S H) {n : Nat} {a : Addr} {o o' : HO} {c : Cel} (hn : ι.cells[n]? = some a) (h : H a = some o) (w : Wr o) (hc : CelRep K ι (upd H a o') c a) : RelS K ι (S.set n c) (upd H a o') := by
  refine ⟨by rw [List.length_set]; exact r.len, r.nd, fun b hb => ⟨(r.hid b hb).1, let ⟨u, e⟩ := (r.hid b hb).2; ⟨u, by rw [upd_ne (by rintro rfl; exact (r.hid b hb).1 (List.mem_of_getElem? hn))]; exact e⟩⟩, fun m c' b h1 h2 => ?_⟩
  by_cases hm : n = m
  · subst hm
    rw [hn] at h2; cases h2
    have hl : n < S.length := by rw [← r.len]; exact (List.getElem?_eq_some_iff.mp hn).1
    rw [List.getElem?_set_self hl] at h1
    cases h1
    exact hc
  · rw [List.getElem?_set_ne hm] at h1
    have hne : b ≠ a := by rintro rfl; exact hm (nodup_eq r.nd hn h2)
    exact (r.cel m c' b h1 h2).mono (Ext.wr r (List.mem_of_getElem? hn) h w) fun u hu => by rw [upd_ne hne]; exact hu
/-! ### a list that is being made -/
abbrev Ad.hide (ι : Ad) (p : Addr) : Ad := ⟨ι.cells, p :: ι.hid⟩
theorem Ext.hide {p : Addr} {o : HO} (r : RelS K ι S H) (n : H p = none) : Ext K ι H (ι.hide p) (upd H p o) := by
  have e := Ext.new (o := o) r n
  refine ⟨⟨e.tup, fun a xs m h => ⟨fun z => ?_, (e.frz a xs m h).2⟩, e.scr, List.prefix_rfl⟩, fun a h => List.mem_cons_of_mem _ h, e.hidk⟩
  rcases z with z | z
  · exact m (.inl z)
  · rcases List.mem_cons.mp z with z | z
    · rw [z, n] at h; cases h
    · exact m (.inr z)
theorem RelS.hide {p : Addr} {o : HO} (r : RelS K ι S H) (n : H p = none) : RelS K (ι.hide p) S (upd H p o) := by
  have q := r.new (o := o) n
  refine ⟨q.len, q.nd, fun a h => ?_, fun m c a h1 h2 => (r.cel m c a h1 h2).mono (Ext.hide r n) fun u h => by rw [upd_ne (ne_of_none h n)]; exact h⟩
  rcases List.mem_cons.mp h with z | z
  · subst z
    refine ⟨fun y => ?_, o, upd_same⟩
    obtain ⟨u, e⟩ := r.there (.inl y)
    rw [n] at e; cases e
  · exact q.hid a z
/-- the list being made grows -/
theorem Ext0.hidw {p : Addr} {xs : List V} {o : HO} (hp : p ∈ ι.hid) (h : H p = some (.lst xs)) : Ext0 K ι H ι (upd H p o) := by
  refine ⟨fun b ys hb => ?_, fun b ys m hb => ⟨m, ?_⟩, fun b ys hb => ?_, List.prefix_rfl⟩
  · rcases hb with (hb | ⟨u, hb⟩) | hb
    · exact .inl (.inl (by rw [upd_ne (by rintro rfl; rw [h] at hb; cases hb)]; exact hb))
    · exact .inl (.inr ⟨u, by rw [upd_ne (by rintro rfl; rw [h] at hb; cases hb)]; exact hb⟩)
    · exact .inr hb
  · rw [upd_ne (by rintro rfl; exact m (.inr hp))]; exact hb
  · rcases hb with ⟨u, hb⟩ | hb
    · exact .inl ⟨u, by rw [upd_ne (by rintro rfl; rw [h] at hb; cases hb)]; exact hb⟩
    · exact .inr hb
theorem RelS.hidw {p : Addr} {xs : List V} {o : HO} (r : RelS K ι S H) (hp : p ∈ ι.hid) (h : H p = some (.lst xs)) : RelS K ι S (upd H p o) := by
  refine ⟨r.len, r.nd, fun a ha => ⟨(r.hid a ha).1, ?_⟩, fun m c a h1 h2 => (r.cel m c a h1 h2).mono0 (Ext0.hidw hp h) fun u hu => by rw [upd_ne (by rintro rfl; exact (r.hid _ hp).1 (List.mem_of_getElem? h2))]; exact hu⟩
  by_cases z : a = p
  · subst z; exact ⟨o, upd_same⟩
  · obtain ⟨u, e⟩ := (r.hid a ha).2
    exact ⟨u, by rw [upd_ne z]; exact e⟩
theorem Ext.hidw {p : Addr} {xs : List V} {o : HO} (e : Ext K ι H ι1 H1) (r : RelS K ι S H) (n : H p = none) (hp : p ∈ ι1.hid) (h : H1 p = some (.lst xs)) : Ext K ι H ι1 (upd H1 p o) :=
  ⟨e.toExt0.trans (Ext0.hidw hp h), e.hid, fun a ha => by rw [upd_ne (by rintro rfl; obtain ⟨u, q⟩ := (r.hid _ ha).2; rw [n] at q; cases q)]; exact e.hidk a ha⟩
/-- it is made -/
theorem Ext.bare {hs : List Addr} (e : Ext K ι H ι1 H1) (h : ∀ a ∈ ι.hid, a ∈ hs) (h2 : ∀ a ∈ hs, a ∈ ι1.hid) : Ext K ι H ⟨ι1.cells, hs⟩ H1 :=
  ⟨⟨e.tup, fun a xs m q => ⟨fun z => (e.frz a xs m q).1 (z.elim .inl fun y => .inr (h2 a y)), (e.frz a xs m q).2⟩, e.scr, e.pre⟩, h, e.hidk⟩
theorem Ext0.bare {hs : List Addr} (h2 : ∀ a ∈ hs, a ∈ ι.hid) : Ext0 K ι H ⟨ι.cells, hs⟩ H := by
  refine ⟨fun _ _ z => z, fun b ys nb z => ⟨fun y => nb ?_, z⟩, fun _ _ z => z, List.prefix_rfl⟩
  rcases y with y | y
  · exact .inl y
  · exact .inr (h2 b y)
theorem RelS.bare {hs : List Addr} (r : RelS K ι S H) (h2 : ∀ a ∈ hs, a ∈ ι.hid) : RelS K ⟨ι.cells, hs⟩ S H :=
  ⟨r.len, r.nd, fun a ha => r.hid a (h2 a ha), fun m c a q1 q2 => (r.cel m c a q1 q2).mono0 (Ext0.bare h2) fun _ z => z⟩
theorem RepL.bare {hs : List Addr} {ds : List D} {xs : List V} (h2 : ∀ a ∈ hs, a ∈ ι.hid) (h : RepL K ι H ds xs) : RepL K ⟨ι.cells, hs⟩ H ds xs :=
  RepL.mono0 (Ext0.bare h2) ds xs h
end
end AW
/-! AW2: readings of expressions. -/
namespace AW
open PySem PySem.Spec PyProof.Rows L2

abbrev VKD := D → Sto → Prop
/-- an exception's class, its own fields where it has some -/
abbrev XKD := Value → Option (List (Str × D)) → Sto → Prop
abbrev WE := ASt → Sto → VKD → XKD → Prop
abbrev WT := ASt → Sto → (Bool → Sto → Prop) → XKD → Prop
abbrev WA := ASt → Sto → (List D → Sto → Prop) → XKD → Prop
structure AE where
  nx : ASt → Sto → Prop
  rt : VKD
  bk : ASt → Sto → Prop
  ct : ASt → Sto → Prop
abbrev WS := AE → ASt → Sto → XKD → Prop
def X0 : XKD := fun _ _ _ => False

def XRep (K : PySem.W.Frag) (ι : Ad) (H : Hp) : Option (List (Str × D)) → Option Addr → Prop
  | none, none => True
  | some fs, some d => ∃ xs, H d = some (.xd xs) ∧ RepF K ι H fs xs
  | _, _ => False

section
variable (K : PySem.W.Frag) (ι : Ad) (H : Hp)
def LkE (Q : D → Sto → Prop) (Qh : VK) : Prop := ∀ ι' d S' v H', Ext K ι H ι' H' → RelS K ι' S' H' → Rep K ι' H' d v → Q d S' → Qh v H'
def LkA (Q : List D → Sto → Prop) (Qh : List V → Hp → Prop) : Prop := ∀ ι' ds S' vs H', Ext K ι H ι' H' → RelS K ι' S' H' → RepL K ι' H' ds vs → Q ds S' → Qh vs H'
def LkT (Q : Bool → Sto → Prop) (Qh : Bool → Hp → Prop) : Prop := ∀ ι' b S' H', Ext K ι H ι' H' → RelS K ι' S' H' → Q b S' → Qh b H'
def LkN (Q : ASt → Sto → Prop) (Qh : L2.St → Hp → Prop) : Prop := ∀ ι' σD' S' σ' H', Ext K ι H ι' H' → RelS K ι' S' H' → Slots K ι' H' σD' σ' → Q σD' S' → Qh σ' H'
def LkX (X : XKD) (E : XK) : Prop := ∀ ι' c fo od S' H', Ext K ι H ι' H' → RelS K ι' S' H' → XRep K ι' H' fo od → X c fo S' → E c od H'
structure LkS (DA : AE) (De : Ends) : Prop where
  nx : LkN K ι H DA.nx De.nx
  rt : LkE K ι H DA.rt De.rt
  bk : LkN K ι H DA.bk De.bk
  ct : LkN K ι H DA.ct De.ct
end
section
variable {K : PySem.W.Frag} {ι ι1 : Ad} {H H1 : Hp}
theorem LkE.ext {Q : D → Sto → Prop} {Qh : VK} (e : Ext K ι H ι1 H1) (l : LkE K ι H Q Qh) : LkE K ι1 H1 Q Qh := fun ι' d S' v H' x => l ι' d S' v H' (e.trans x)
theorem LkA.ext {Q : List D → Sto → Prop} {Qh : List V → Hp → Prop} (e : Ext K ι H ι1 H1) (l : LkA K ι H Q Qh) : LkA K ι1 H1 Q Qh := fun ι' d S' v H' x => l ι' d S' v H' (e.trans x)
theorem LkT.ext {Q : Bool → Sto → Prop} {Qh : Bool → Hp → Prop} (e : Ext K ι H ι1 H1) (l : LkT K ι H Q Qh) : LkT K ι1 H1 Q Qh := fun ι' d S' H' x => l ι' d S' H' (e.trans x)
theorem LkN.ext {Q : ASt → Sto → Prop} {Qh : L2.St → Hp → Prop} (e : Ext K ι H ι1 H1) (l : LkN K ι H Q Qh) : LkN K ι1 H1 Q Qh := fun ι' a S' b H' x => l ι' a S' b H' (e.trans x)
theorem LkX.ext {X : XKD} {E : XK} (e : Ext K ι H ι1 H1) (l : LkX K ι H X E) : LkX K ι1 H1 X E := fun ι' c fo od S' H' x => l ι' c fo od S' H' (e.trans x)
theorem LkS.ext {DA : AE} {De : Ends} (e : Ext K ι H ι1 H1) (l : LkS K ι H DA De) : LkS K ι1 H1 DA De := ⟨l.nx.ext e, l.rt.ext e, l.bk.ext e, l.ct.ext e⟩
theorem LkX.none {E : XK} : LkX K ι H X0 E := fun _ _ _ _ _ _ _ _ _ h => h.elim
end

def AbsE (K : PySem.W.Frag) (E : XK) (t : TE) (w : WE) : Prop := ∀ (ι : Ad) (σ : L2.St) (H : Hp) (σD : ASt) (S : Sto) (Q : VKD) (X : XKD) (Qh : VK),
  RelS K ι S H → Slots K ι H σD σ → w σD S Q X → LkE K ι H Q Qh → LkX K ι H X E → t σ H Qh
def AbsT (K : PySem.W.Frag) (E : XK) (t : TT) (w : WT) : Prop := ∀ (ι : Ad) (σ : L2.St) (H : Hp) (σD : ASt) (S : Sto) (Q : Bool → Sto → Prop) (X : XKD) (Qh : Bool → Hp → Prop),
  RelS K ι S H → Slots K ι H σD σ → w σD S Q X → LkT K ι H Q Qh → LkX K ι H X E → t σ H Qh
def AbsA (K : PySem.W.Frag) (E : XK) (t : TA) (w : WA) : Prop := ∀ (ι : Ad) (σ : L2.St) (H : Hp) (σD : ASt) (S : Sto) (Q : List D → Sto → Prop) (X : XKD) (Qh : List V → Hp → Prop),
  RelS K ι S H → Slots K ι H σD σ → w σD S Q X → LkA K ι H Q Qh → LkX K ι H X E → t σ H Qh
def AbsS (K : PySem.W.Frag) (E : XK) (t : TS) (w : WS) : Prop := ∀ (ι : Ad) (σ : L2.St) (H : Hp) (σD : ASt) (S : Sto) (DA : AE) (X : XKD) (De : Ends),
  RelS K ι S H → Slots K ι H σD σ → w DA σD S X → LkS K ι H DA De → LkX K ι H X E → t De σ H

structure JE (X : Cx) (E : XK) (e : Expr) (t : TE) (w : WE) : Prop where
  pe : PE X e t
  ab : AbsE X.K E t w
structure JT (X : Cx) (E : XK) (e : Expr) (t : TT) (w : WT) : Prop where
  pe : PT X e t
  ab : AbsT X.K E t w
/-- a test within and, or -/
structure JW (X : Cx) (E : XK) (e : Expr) (t : TT) (w : WT) : Prop where
  pe : PW X e t
  ab : AbsT X.K E t w
structure JA (X : Cx) (E : XK) (es : List Expr) (t : TA) (w : WA) : Prop where
  pe : PA X es t
  ab : AbsA X.K E t w
structure JS (X : Cx) (E : XK) (st : Stmt) (t : TS) (w : WS) : Prop where
  pe : PS X st t
  ab : AbsS X.K E t w
structure JSs (X : Cx) (E : XK) (st : List Stmt) (t : TS) (w : WS) : Prop where
  pe : PSs X st t
  ab : AbsS X.K E t w

/-! ### names, constants -/
def wVar (i : Nat) : WE := fun σ S Q _ => match σ[i]? with
  | some (some d) => Q d S
  | _ => False
def wC (d : D) : WE := fun _ S Q _ => Q d S
section
variable {X : Cx} {E : XK} {pos : Pos}
theorem je_var (i : Nat) {x : Str} (hN : X.N[i]? = some x := by rfl) (hv : Vis X.env.scope x := by first | exact Or.inl rfl | exact Or.inr (Or.inl rfl) | exact Or.inr (Or.inr rfl)) (hd : (x == ("__debug__" : Str)) = false := by decide)
    (hcd : (x == ("__classdict__" : Str)) = false := by decide) : JE X E (.Name x pos) (tVar i) (wVar i) := by
  refine ⟨pe_var hN hv hd hcd, fun ι σ H σD S Q XX Qh r s h l lx => ?_⟩
  unfold wVar at h
  cases e : σD[i]? with
  | none => rw [e] at h; exact h.elim
  | some o =>
    cases o with
    | none => rw [e] at h; exact h.elim
    | some d =>
      rw [e] at h
      obtain ⟨v, h1, h2⟩ := s.2 i d e
      exact ⟨v, h1, l ι d S v H Ext.refl r h2 h⟩
theorem je_int {n : Int} {j : Nat} : JE X E (.Constant (.int n) j pos) (tC (.int n)) (wC (.int n)) :=
  ⟨pe_int, fun ι σ H σD S Q XX Qh r s h l lx => l ι (.int n) S (.int n) H Ext.refl r (by unfold Rep; rfl) h⟩
theorem je_bl {b : Bool} {j : Nat} : JE X E (.Constant (.bool b) j pos) (tC (.bl b)) (wC (.bl b)) :=
  ⟨pe_bl, fun ι σ H σD S Q XX Qh r s h l lx => l ι (.bl b) S (.bl b) H Ext.refl r (by unfold Rep; rfl) h⟩
theorem je_non {j : Nat} : JE X E (.Constant .none j pos) (tC .non) (wC .non) :=
  ⟨pe_non, fun ι σ H σD S Q XX Qh r s h l lx => l ι .non S .non H Ext.refl r (by unfold Rep; rfl) h⟩
end
end AW
/-! AW3: operators, tests, displays, subscripts. -/
namespace AW
open PySem PySem.Spec PyProof.Rows L2

theorem rep_int {K ι H} {i : Int} {v : V} : Rep K ι H (.int i) v ↔ v = .int i := by unfold Rep; exact Iff.rfl
theorem rep_bl {K ι H} {b : Bool} {v : V} : Rep K ι H (.bl b) v ↔ v = .bl b := by unfold Rep; exact Iff.rfl
theorem rep_str {K ι H} {x : Str} {v : V} : Rep K ι H (.str x) v ↔ v = .str x := by unfold Rep; exact Iff.rfl
theorem rep_non {K ι H} {v : V} : Rep K ι H .non v ↔ v = .non := by unfold Rep; exact Iff.rfl
theorem rep_tup {K ι H} {ds : List D} {v : V} : Rep K ι H (.tup ds) v ↔ ∃ a xs, v = .ref a ∧ SqT K H a xs ∧ RepL K ι H ds xs := by unfold Rep; exact Iff.rfl
theorem rep_fl {K ι H} {ds : List D} {v : V} : Rep K ι H (.fl ds) v ↔ ∃ a xs, v = .ref a ∧ a ∉ ι ∧ H a = some (.lst xs) ∧ RepL K ι H ds xs := by unfold Rep; exact Iff.rfl
theorem rep_scr {K ι H} {ds : List D} {v : V} : Rep K ι H (.scr ds) v ↔ ∃ a xs, v = .ref a ∧ ScrL K H a xs ∧ RepL K ι H ds xs := by unfold Rep; exact Iff.rfl
theorem rep_ref {K ι H} {n : Nat} {v : V} : Rep K ι H (.ref n) v ↔ ∃ a, v = .ref a ∧ ι.cells[n]? = some a := by unfold Rep; exact Iff.rfl

/-- what a value is as a list of items, where it is one -/
def itemsL (S : Sto) : D → Option (List D)
  | .fl ds => some ds
  | .scr ds => some ds
  | .ref n => match S[n]? with
    | some (.lst ds) => some ds
    | _ => none
  | _ => none
theorem itemsL_rep {K ι H} {S : Sto} (r : RelS K ι S H) {d : D} {v : V} {ds : List D} (h : Rep K ι H d v) (e : itemsL S d = some ds) :
    ∃ a xs, v = .ref a ∧ SqL K H a xs ∧ RepL K ι H ds xs := by
  cases d with
  | fl es =>
    cases e
    obtain ⟨a, xs, e1, _, e2, e3⟩ := rep_fl.mp h
    exact ⟨a, xs, e1, SqL.of e2, e3⟩
  | scr es =>
    cases e
    obtain ⟨a, xs, e1, e2, e3⟩ := rep_scr.mp h
    exact ⟨a, xs, e1, e2.sq, e3⟩
  | ref n =>
    obtain ⟨a, e1, e2⟩ := rep_ref.mp h
    have e : (match S[n]? with
      | some (.lst ds) => some ds
      | _ => none) = some ds := e
    split at e
    · cases e
      rename_i hc
      obtain ⟨xs, q1, q2⟩ := r.cel n _ a hc e2
      exact ⟨a, xs, e1, SqL.of q1, q2⟩
    · cases e
  | _ => cases e
def items (S : Sto) : D → Option (List D)
  | .tup ds => some ds
  | d => itemsL S d
theorem items_rep {K ι H} {S : Sto} (r : RelS K ι S H) {d : D} {v : V} {ds : List D} (h : Rep K ι H d v) (e : items S d = some ds) :
    ∃ a xs, v = .ref a ∧ (SqL K H a xs ∨ SqT K H a xs) ∧ RepL K ι H ds xs := by
  cases d with
  | tup es =>
    cases e
    obtain ⟨a, xs, e1, e2, e3⟩ := rep_tup.mp h
    exact ⟨a, xs, e1, .inr e2, e3⟩
  | _ =>
    obtain ⟨a, xs, e1, e2, e3⟩ := itemsL_rep r h e
    exact ⟨a, xs, e1, .inl e2, e3⟩

/-! ### operators by values -/
abbrev F2 := D → D → Sto → VKD → XKD → Prop
def AbsR2 (K : PySem.W.Frag) (E : XK) (r : R2) (f : F2) : Prop := ∀ (ι : Ad) (H : Hp) (S : Sto) (x y : D) (v u : V) (Q : VKD) (XX : XKD) (Qh : VK),
  RelS K ι S H → Rep K ι H x v → Rep K ι H y u → f x y S Q XX → LkE K ι H Q Qh → LkX K ι H XX E → r v u H Qh
def wOp (f : F2) (wa wb : WE) : WE := fun σ S Q X => wa σ S (fun x S1 => wb σ S1 (fun y S2 => f x y S2 Q X) X) X
theorem abs_op {K : PySem.W.Frag} {E : XK} {r : R2} {f : F2} {ta tb : TE} {wa wb : WE} (hr : AbsR2 K E r f) (ha : AbsE K E ta wa) (hb : AbsE K E tb wb) : AbsE K E (tOp r ta tb) (wOp f wa wb) := by
  intro ι σ H σD S Q XX Qh r s h l lx
  refine ha ι σ H σD S _ XX _ r s h ?_ lx
  intro ι1 d1 S1 v1 H1 e1 r1 p1 h1
  refine hb ι1 σ H1 σD S1 _ XX _ r1 (s.mono e1) h1 ?_ (lx.ext e1)
  intro ι2 d2 S2 v2 H2 e2 r2 p2 h2
  exact hr ι2 H2 S2 d1 d2 v1 v2 Q XX Qh r2 (Rep.mono e2 _ _ p1) p2 h2 (l.ext (e1.trans e2)) (lx.ext (e1.trans e2))
section
variable {X : Cx} {E : XK} {pos : Pos} {a b : Expr} {ta tb : TE} {wa wb : WE} {r : R2} {f : F2}
theorem je_op {op : Operator} (ho : OpR X (binaryOp op) r) (hf : AbsR2 X.K E r f) (ha : JE X E a ta wa) (hb : JE X E b tb wb) : JE X E (.BinOp a op b pos) (tOp r ta tb) (wOp f wa wb) :=
  ⟨pe_op ho ha.pe hb.pe, abs_op hf ha.ab hb.ab⟩
theorem je_cmp {op : CmpOp} (ho : OpR X (compareOp op) r) (hf : AbsR2 X.K E r f) (ha : JE X E a ta wa) (hb : JE X E b tb wb) (hm : behindInMarks op b = false) : JE X E (.Compare a [op] [b] pos) (tOp r ta tb) (wOp f wa wb) :=
  ⟨pe_cmpR ho ha.pe hb.pe hm, abs_op hf ha.ab hb.ab⟩
/-- a value that is a bool, as a test -/
def wTest (w : WE) : WT := fun σ S Q X => w σ S (fun d S1 => match d with
  | .bl b => Q b S1
  | _ => False) X
theorem abs_test {K : PySem.W.Frag} {E : XK} {t : TE} {w : WE} (ha : AbsE K E t w) : AbsT K E (tTest t) (wTest w) := by
  intro ι σ H σD S Q XX Qh r s h l lx
  refine ha ι σ H σD S _ XX _ r s h ?_ lx
  intro ι1 d1 S1 v1 H1 e1 r1 p1 h1
  cases d1 with
  | bl b => exact ⟨b, rep_bl.mp p1, l ι1 b S1 H1 e1 r1 h1⟩
  | _ => exact h1.elim
theorem jt_cmp {op : CmpOp} (ho : OpR X (compareOp op) r) (hf : AbsR2 X.K E r f) (ha : JE X E a ta wa) (hb : JE X E b tb wb) (hm : behindInMarks op b = false) : JT X E (.Compare a [op] [b] pos) (tTest (tOp r ta tb)) (wTest (wOp f wa wb)) :=
  ⟨pt_cmpR ho ha.pe hb.pe hm, abs_test (abs_op hf ha.ab hb.ab)⟩
/-- a < b < c -/
def wChain (f g : F2) (wa wb wc : WE) : WE := fun σ S Q X => wa σ S (fun x S1 => wb σ S1 (fun y S2 => f x y S2 (fun z S3 => match z with
  | .bl k => if k = true then wc σ S3 (fun u S4 => g y u S4 Q X) X else Q (.bl false) S3
  | _ => False) X) X) X
end

/-! ### the operators -/
theorem intMulOk_small {i j : Int} (h : i.natAbs < 2 ^ 64 ∨ j.natAbs < 2 ^ 64) : IntMulOk i j := by
  rcases h with h | h
  · exact IntMulOk.of_left (intBits_le_64 (by omega) (by omega))
  · exact IntMulOk.of_right (intBits_le_64 (by omega) (by omega))
/-- the sizes that a product may have -/
def MulOk (i j : Int) : Prop := IntMulOk i j
def DivOk (j : Int) : Prop := j ≠ 0 ∧ j.natAbs.log2 < 9000
def fAdd : F2 := fun x y S Q _ => match x, y with
  | .int i, .int j => Q (.int (i + j)) S
  | .str i, .str j => i.length + j.length ≤ sizeLine ∧ Q (.str (i ++ j)) S
  | .tup xs, .tup ys => xs.length + ys.length ≤ sizeLine ∧ Q (.tup (xs ++ ys)) S
  | .fl xs, .fl ys => xs.length + ys.length ≤ sizeLine ∧ Q (.fl (xs ++ ys)) S
  | _, _ => False
def fSub : F2 := fun x y S Q _ => match x, y with
  | .int i, .int j => Q (.int (i - j)) S
  | _, _ => False
def fMul : F2 := fun x y S Q _ => match x, y with
  | .int i, .int j => MulOk i j ∧ Q (.int (i * j)) S
  | .fl xs, .int k => (k < 2 ^ 62 ∧ -(2 ^ 62) ≤ k ∧ xs.length * k.toNat ≤ sizeLine) ∧ Q (.fl (List.replicate k.toNat xs).flatten) S
  | _, _ => False
def fDiv : F2 := fun x y S Q _ => match x, y with
  | .int i, .int j => DivOk j ∧ Q (.int (i.fdiv j)) S
  | _, _ => False
def fMod : F2 := fun x y S Q _ => match x, y with
  | .int i, .int j => j ≠ 0 ∧ Q (.int (i.fmod j)) S
  | _, _ => False
def fPow : F2 := fun x y S Q _ => match x, y with
  | .int i, .int j => CPow i j ∧ Q (.int (i ^ j.toNat)) S
  | _, _ => False
def fShl : F2 := fun x y S Q _ => match x, y with
  | .int i, .int j => CPow i j ∧ Q (.int (i * 2 ^ j.toNat)) S
  | _, _ => False
def fCmpI (p : Int → Int → Bool) : F2 := fun x y S Q _ => match x, y with
  | .int i, .int j => Q (.bl (p i j)) S
  | _, _ => False
def rAddAll (K : PySem.W.Frag) : R2 := fun x y H Q => (rI0 fun i j => .int (i + j)) x y H Q ∨ (∃ i j, x = .str i ∧ y = .str j ∧ i.length + j.length ≤ sizeLine ∧ Q (.str (i ++ j)) H) ∨ rCatA K x y H Q ∨ rCat x y H Q
def rMulAll : R2 := fun x y H Q => (rI IntMulOk fun i j => .int (i * j)) x y H Q ∨ rRep x y H Q
def rDivA : R2 := rI (fun _ j => DivOk j) fun i j => .int (i.fdiv j)
section
variable {X : Cx} {E : XK} {pos : Pos} {a b : Expr} {ta tb : TE} {wa wb : WE}
theorem op_addAll : OpR X (binaryOp .Add) (rAddAll X.K) := op_add.or (op_add_str.or (op_catA.or op_cat))
theorem op_mulAll : OpR X (binaryOp .Mult) rMulAll := OpR.or (opI fun _ _ _ _ _ _ _ hc q => mul_int q hc) op_rep
theorem op_divA : OpR X (binaryOp .FloorDiv) rDivA := opI fun _ _ _ _ _ _ _ hc q => floordiv_int hc.1 q (.inl (PyProof.noPylong_of_log2 hc.2))
theorem repL_rep {K ι H} {ds : List D} {xs : List V} (h : RepL K ι H ds xs) : ∀ k : Nat, RepL K ι H (List.replicate k ds).flatten (List.replicate k xs).flatten
  | 0 => RepL.nil
  | k + 1 => by
    rw [List.replicate_succ, List.replicate_succ, List.flatten_cons, List.flatten_cons]
    exact RepL.append h (repL_rep h k)
/-- a new list that stays as it is -/
theorem LkE.fl {K ι H} {S : Sto} {Q : VKD} {Qh : VK} {ds : List D} {xs : List V} (l : LkE K ι H Q Qh) (r : RelS K ι S H) (h : RepL K ι H ds xs) (q : Q (.fl ds) S) {p : Addr} (n : H p = none) : Qh (.ref p) (upd H p (.lst xs)) := by
  refine l ι (.fl ds) S (.ref p) _ (Ext.new r n) (r.new n) (rep_fl.mpr ⟨p, xs, rfl, fun z => ?_, upd_same, RepL.mono (Ext.new r n) _ _ h⟩) q
  obtain ⟨o, e⟩ := r.there z
  rw [n] at e; cases e
theorem LkE.tup {K ι H} {S : Sto} {Q : VKD} {Qh : VK} {ds : List D} {xs : List V} (l : LkE K ι H Q Qh) (r : RelS K ι S H) (h : RepL K ι H ds xs) (q : Q (.tup ds) S) {p : Addr} (n : H p = none) : Qh (.ref p) (upd H p (.tup xs)) :=
  l ι (.tup ds) S (.ref p) _ (Ext.new r n) (r.new n) (rep_tup.mpr ⟨p, xs, rfl, SqT.of upd_same, RepL.mono (Ext.new r n) _ _ h⟩) q
/-- a new list as a cell -/
theorem LkE.cell {K ι H} {S : Sto} {Q : VKD} {Qh : VK} {ds : List D} {xs : List V} (l : LkE K ι H Q Qh) (r : RelS K ι S H) (h : RepL K ι H ds xs) (q : Q (.ref S.length) (S ++ [.lst ds])) {p : Addr} (n : H p = none) : Qh (.ref p) (upd H p (.lst xs)) := by
  have e := Ext.cell (o := .lst xs) r n
  refine l (ι.add p) (.ref S.length) _ (.ref p) _ e (r.cell (c := .lst ds) n ⟨xs, upd_same, RepL.mono e _ _ h⟩) (rep_ref.mpr ⟨p, rfl, ?_⟩) q
  rw [List.getElem?_append_right (by rw [r.len]; exact Nat.le_refl _), r.len, Nat.sub_self]
  rfl
theorem abs_add {K : PySem.W.Frag} : AbsR2 K E (rAddAll K) fAdd := by
  intro ι H S x y v u Q XX Qh r hx hy h l lx
  cases x <;> cases y <;> try exact h.elim
  · rename_i i j
    rw [rep_int] at hx hy
    exact .inl ⟨i, j, hx, hy, l ι (.int (i + j)) S _ H Ext.refl r (rep_int.mpr rfl) h⟩
  · rename_i i j
    rw [rep_str] at hx hy
    exact .inr (.inl ⟨i, j, hx, hy, h.1, l ι (.str (i ++ j)) S _ H Ext.refl r (rep_str.mpr rfl) h.2⟩)
  · rename_i xs ys
    obtain ⟨p, as, rfl, hp, ra⟩ := rep_tup.mp hx
    obtain ⟨q, bs, rfl, hq, rb⟩ := rep_tup.mp hy
    have la := RepL.length ra
    have lb := RepL.length rb
    refine .inr (.inr (.inl ⟨p, q, as, bs, rfl, rfl, hp, hq, by rw [← la, ← lb]; exact h.1, fun z => ?_, fun z1 z2 => ?_, fun z1 z2 t ht => l.tup r (RepL.append ra rb) h.2 ht⟩))
    · have e : xs = [] := by
        rw [z] at la; exact List.length_eq_zero_iff.mp la
      refine l ι (.tup (xs ++ ys)) S _ H Ext.refl r ?_ h.2
      rw [e]
      exact hy
    · have e : ys = [] := by
        rw [z2] at lb; exact List.length_eq_zero_iff.mp lb
      refine l ι (.tup (xs ++ ys)) S _ H Ext.refl r ?_ h.2
      rw [e, List.append_nil]
      exact hx
  · rename_i xs ys
    obtain ⟨p, as, rfl, np, hp, ra⟩ := rep_fl.mp hx
    obtain ⟨q, bs, rfl, nq, hq, rb⟩ := rep_fl.mp hy
    have la := RepL.length ra
    have lb := RepL.length rb
    exact .inr (.inr (.inr ⟨p, q, as, bs, rfl, rfl, hp, hq, by rw [← la, ← lb]; exact h.1, fun t ht => l.fl r (RepL.append ra rb) h.2 ht⟩))
theorem abs_mul {K : PySem.W.Frag} : AbsR2 K E rMulAll fMul := by
  intro ι H S x y v u Q XX Qh r hx hy h l lx
  cases x <;> cases y <;> try exact h.elim
  · rename_i i j
    rw [rep_int] at hx hy
    exact .inl ⟨i, j, hx, hy, h.1, l ι (.int (i * j)) S _ H Ext.refl r (rep_int.mpr rfl) h.2⟩
  · rename_i xs k
    obtain ⟨p, as, rfl, np, hp, ra⟩ := rep_fl.mp hx
    rw [rep_int] at hy
    have la := RepL.length ra
    obtain ⟨⟨h1, h2, h3⟩, hq⟩ := h
    exact .inr ⟨p, k, as, rfl, hy, hp, by omega, by omega, by rw [← la]; exact h3, fun t ht => l.fl r (repL_rep ra _) hq ht⟩
/-- an operator of two ints -/
theorem abs_int {K : PySem.W.Frag} {C : Int → Int → Prop} {g : Int → Int → Int} {f : F2} (hf : ∀ x y S Q XX, f x y S Q XX → ∃ i j, x = .int i ∧ y = .int j ∧ C i j ∧ Q (.int (g i j)) S) : AbsR2 K E (rI C fun i j => .int (g i j)) f := by
  intro ι H S x y v u Q XX Qh r hx hy h l lx
  obtain ⟨i, j, rfl, rfl, c, q⟩ := hf _ _ _ _ _ h
  rw [rep_int] at hx hy
  exact ⟨i, j, hx, hy, c, l ι (.int (g i j)) S _ H Ext.refl r (rep_int.mpr rfl) q⟩
theorem abs_int0 {K : PySem.W.Frag} {g : Int → Int → Int} {f : F2} (hf : ∀ x y S Q XX, f x y S Q XX → ∃ i j, x = .int i ∧ y = .int j ∧ Q (.int (g i j)) S) : AbsR2 K E (rI0 fun i j => .int (g i j)) f := by
  intro ι H S x y v u Q XX Qh r hx hy h l lx
  obtain ⟨i, j, rfl, rfl, q⟩ := hf _ _ _ _ _ h
  rw [rep_int] at hx hy
  exact ⟨i, j, hx, hy, l ι (.int (g i j)) S _ H Ext.refl r (rep_int.mpr rfl) q⟩
theorem abs_cmpI {K : PySem.W.Frag} {p : Int → Int → Bool} : AbsR2 K E (rI0 fun i j => .bl (p i j)) (fCmpI p) := by
  intro ι H S x y v u Q XX Qh r hx hy h l lx
  cases x <;> cases y <;> try exact h.elim
  rename_i i j
  rw [rep_int] at hx hy
  exact ⟨i, j, hx, hy, l ι (.bl (p i j)) S _ H Ext.refl r (rep_bl.mpr rfl) h⟩
theorem abs_sub {K : PySem.W.Frag} : AbsR2 K E (rI0 fun i j => .int (i - j)) fSub := abs_int0 fun x y S Q XX h => by
  cases x <;> cases y <;> try exact h.elim
  exact ⟨_, _, rfl, rfl, h⟩
theorem abs_div {K : PySem.W.Frag} : AbsR2 K E rDivA fDiv := abs_int fun x y S Q XX h => by
  cases x <;> cases y <;> try exact h.elim
  exact ⟨_, _, rfl, rfl, h⟩
theorem abs_mod {K : PySem.W.Frag} : AbsR2 K E (rI (fun _ j => j ≠ 0) fun i j => .int (i.fmod j)) fMod := abs_int fun x y S Q XX h => by
  cases x <;> cases y <;> try exact h.elim
  exact ⟨_, _, rfl, rfl, h⟩
theorem abs_pow {K : PySem.W.Frag} : AbsR2 K E (rI CPow fun i j => .int (i ^ j.toNat)) fPow := abs_int fun x y S Q XX h => by
  cases x <;> cases y <;> try exact h.elim
  exact ⟨_, _, rfl, rfl, h⟩
theorem abs_shl {K : PySem.W.Frag} : AbsR2 K E (rI CPow fun i j => .int (i * 2 ^ j.toNat)) fShl := abs_int fun x y S Q XX h => by
  cases x <;> cases y <;> try exact h.elim
  exact ⟨_, _, rfl, rfl, h⟩
theorem je_add {K : PySem.W.Frag} (ha : JE X E a ta wa) (hb : JE X E b tb wb) (hK : X.K = K := by rfl) : JE X E (.BinOp a .Add b pos) (tOp (rAddAll K) ta tb) (wOp fAdd wa wb) := by
  subst hK
  exact je_op op_addAll abs_add ha hb
theorem je_sub (ha : JE X E a ta wa) (hb : JE X E b tb wb) : JE X E (.BinOp a .Sub b pos) (tOp (rI0 fun i j => .int (i - j)) ta tb) (wOp fSub wa wb) := je_op op_sub abs_sub ha hb
theorem je_mul (ha : JE X E a ta wa) (hb : JE X E b tb wb) : JE X E (.BinOp a .Mult b pos) (tOp rMulAll ta tb) (wOp fMul wa wb) := je_op op_mulAll abs_mul ha hb
theorem je_div (ha : JE X E a ta wa) (hb : JE X E b tb wb) : JE X E (.BinOp a .FloorDiv b pos) (tOp rDivA ta tb) (wOp fDiv wa wb) := je_op op_divA abs_div ha hb
theorem je_mod (ha : JE X E a ta wa) (hb : JE X E b tb wb) : JE X E (.BinOp a .Mod b pos) (tOp (rI (fun _ j => j ≠ 0) fun i j => .int (i.fmod j)) ta tb) (wOp fMod wa wb) := je_op op_modN abs_mod ha hb
theorem je_pow (ha : JE X E a ta wa) (hb : JE X E b tb wb) : JE X E (.BinOp a .Pow b pos) (tOp (rI CPow fun i j => .int (i ^ j.toNat)) ta tb) (wOp fPow wa wb) := je_op op_pow abs_pow ha hb
theorem je_shl (ha : JE X E a ta wa) (hb : JE X E b tb wb) : JE X E (.BinOp a .LShift b pos) (tOp (rI CPow fun i j => .int (i * 2 ^ j.toNat)) ta tb) (wOp fShl wa wb) := je_op op_shl abs_shl ha hb
def fLt : F2 := fCmpI fun i j => decide (i < j)
def fLe : F2 := fCmpI fun i j => decide (i ≤ j)
def fGt : F2 := fCmpI fun i j => decide (j < i)
def fGe : F2 := fCmpI fun i j => decide (j ≤ i)
/-- the unary minus -/
def wNeg (wa : WE) : WE := fun σ S Q X => wa σ S (fun x S1 => match x with
  | .int i => Q (.int (-i)) S1
  | _ => False) X
theorem je_neg (ha : JE X E a ta wa) : JE X E (.UnaryOp .USub a pos) (tUn (rU fun i => .int (-i)) ta) (wNeg wa) := by
  refine ⟨pe_un un_neg ha.pe, ?_⟩
  intro ι σ H σD S Q XX Qh r s h l lx
  refine ha.ab ι σ H σD S _ XX _ r s h ?_ lx
  intro ι1 d1 S1 v1 H1 e1 r1 p1 h1
  cases d1 <;> try exact h1.elim
  rename_i i
  exact ⟨i, rep_int.mp p1, l ι1 (.int (-i)) S1 _ H1 e1 r1 (rep_int.mpr rfl) h1⟩
end

/-! ### == -/
mutual
def D.py : D → PyData
  | .non => .none
  | .bl b => .bool b
  | .int i => .int i
  | .str x => .str x
  | .tup ds => .tuple (pyL ds)
  | .fl ds => .list (pyL ds)
  | .scr ds => .list (pyL ds)
  | .ref _ => .none
  | .exc _ => .none
def pyL : List D → List PyData
  | [] => []
  | d :: ds => d.py :: pyL ds
end
mutual
def D.pure : D → Bool
  | .tup ds => pureL ds
  | .fl ds => pureL ds
  | .scr ds => pureL ds
  | .ref _ => false
  | .exc _ => false
  | _ => true
def pureL : List D → Bool
  | [] => true
  | d :: ds => d.pure && pureL ds
end
mutual
theorem Rep.dp {K ι H} : ∀ (d : D) (v : V), d.pure = true → Rep K ι H d v → Dp K H v d.py
  | .non, _, _, h => by rw [rep_non] at h; subst h; unfold D.py; exact .non
  | .bl b, _, _, h => by rw [rep_bl] at h; subst h; unfold D.py; exact .bl b
  | .int i, _, _, h => by rw [rep_int] at h; subst h; unfold D.py; exact .int i
  | .str x, _, _, h => by rw [rep_str] at h; subst h; unfold D.py; exact .str x
  | .tup ds, _, p, h => by
    obtain ⟨a, xs, rfl, h1, h2⟩ := rep_tup.mp h
    unfold D.py
    exact .tup h1 (RepL.dp ds xs (by unfold D.pure at p; exact p) h2)
  | .fl ds, _, p, h => by
    obtain ⟨a, xs, rfl, _, h1, h2⟩ := rep_fl.mp h
    unfold D.py
    exact .lst (SqL.of h1) (RepL.dp ds xs (by unfold D.pure at p; exact p) h2)
  | .scr ds, _, p, h => by
    obtain ⟨a, xs, rfl, h1, h2⟩ := rep_scr.mp h
    unfold D.py
    exact .lst h1.sq (RepL.dp ds xs (by unfold D.pure at p; exact p) h2)
  | .ref _, _, p, _ => by unfold D.pure at p; cases p
  | .exc _, _, p, _ => by unfold D.pure at p; cases p
theorem RepL.dp {K ι H} : ∀ (ds : List D) (xs : List V), pureL ds = true → RepL K ι H ds xs → DpAll K H xs (pyL ds)
  | [], _, _, h => by unfold RepL at h; subst h; unfold pyL; exact .nil
  | d :: ds, _, p, h => by
    unfold RepL at h
    obtain ⟨x, r, rfl, e2, e3⟩ := h
    unfold pureL at p
    rw [Bool.and_eq_true] at p
    unfold pyL
    exact .cons (Rep.dp d x p.1 e2) (RepL.dp ds r p.2 e3)
end
/-- a value with the lists that cells hold in their place, k cells deep -/
def D.see (S : Sto) : Nat → D → D
  | k + 1, .ref n => (match S[n]? with
    | some (.lst ds) => .fl (ds.map (D.see S k))
    | _ => .ref n)
  | _, d => d
theorem see_non {S : Sto} {k : Nat} : D.see S k .non = .non := by cases k <;> rfl
theorem see_bl {S : Sto} {k : Nat} {b : Bool} : D.see S k (.bl b) = .bl b := by cases k <;> rfl
theorem see_int {S : Sto} {k : Nat} {i : Int} : D.see S k (.int i) = .int i := by cases k <;> rfl
theorem see_str {S : Sto} {k : Nat} {x : Str} : D.see S k (.str x) = .str x := by cases k <;> rfl
theorem see_tup {S : Sto} {k : Nat} {ds : List D} : D.see S k (.tup ds) = .tup ds := by cases k <;> rfl
theorem see_fl {S : Sto} {k : Nat} {ds : List D} : D.see S k (.fl ds) = .fl ds := by cases k <;> rfl
theorem see_scr {S : Sto} {k : Nat} {ds : List D} : D.see S k (.scr ds) = .scr ds := by cases k <;> rfl
theorem see_ref {S : Sto} {k n : Nat} {ds : List D} (h : S[n]? = some (.lst ds)) : D.see S (k + 1) (.ref n) = .fl (ds.map (D.see S k)) := by
  unfold D.see
  rw [h]
theorem dpAll_of {K ι H S} {k : Nat} (ih : ∀ (d : D) (v : V), (D.see S k d).pure = true → Rep K ι H d v → Dp K H v (D.see S k d).py) : ∀ (ds : List D) (xs : List V), pureL (ds.map (D.see S k)) = true → RepL K ι H ds xs → DpAll K H xs (pyL (ds.map (D.see S k)))
  | [], _, _, h => by unfold RepL at h; subst h; rw [List.map_nil]; unfold pyL; exact .nil
  | d :: ds, _, p, h => by
    unfold RepL at h
    obtain ⟨x, r, rfl, e2, e3⟩ := h
    rw [List.map_cons] at p ⊢
    unfold pureL at p
    rw [Bool.and_eq_true] at p
    unfold pyL
    exact .cons (ih d x p.1 e2) (dpAll_of ih ds r p.2 e3)
theorem Rep.dpS {K ι H S} (r : RelS K ι S H) : ∀ (k : Nat) (d : D) (v : V), (D.see S k d).pure = true → Rep K ι H d v → Dp K H v (D.see S k d).py := by
  intro k
  induction k with
  | zero => intro d v p h; exact Rep.dp d v p h
  | succ k ih =>
    intro d v p h
    cases d with
    | ref n =>
      unfold D.see at p ⊢
      cases e : S[n]? with
      | none => rw [e] at p; cases p
      | some c =>
        rw [e] at p
        cases c with
        | ins C fs => cases p
        | lst ds =>
          obtain ⟨a, ha, hc⟩ := r.at e
          unfold Rep at h
          obtain ⟨a', rfl, ha'⟩ := h
          rw [ha] at ha'
          cases ha'
          obtain ⟨xs, hx, hl⟩ := hc
          show Dp K H (.ref a) (D.fl (ds.map (D.see S k))).py
          unfold D.py
          exact .lst (SqL.of hx) (dpAll_of ih ds xs (by have q : (D.fl (ds.map (D.see S k))).pure = true := p; unfold D.pure at q; exact q) hl)
    | _ => exact Rep.dp _ v p h
/-- == of two values is asked of data only -/
def EqOk (x y : D) : Prop := x.pure = true ∧ y.pure = true ∧ SeqAt.shaped x.py = true ∧ SeqAt.shaped y.py = true
def fEqB (g : Bool → Bool) : F2 := fun x y S Q _ => match x, y with
  | .int i, .int j => Q (.bl (g (decide (i = j)))) S
  | .str i, .str j => Q (.bl (g (decide (i = j)))) S
  | x, y => EqOk (x.see S 4) (y.see S 4) ∧ Q (.bl (g (PyData.eqv (x.see S 4).py (y.see S 4).py))) S
def fEq : F2 := fEqB fun b => b
def fNe : F2 := fEqB fun b => !b
def rEqAll (K : PySem.W.Frag) : R2 := fun x y H Q => rEq x y H Q ∨ rEqD K x y H Q
def rNeAll (K : PySem.W.Frag) : R2 := fun x y H Q => rNe x y H Q ∨ rNeD K x y H Q
theorem abs_eq {K : PySem.W.Frag} {E : XK} : AbsR2 K E (rEqAll K) fEq := by
  intro ι H S x y v u Q XX Qh r hx hy h l lx
  have gen : EqOk (x.see S 4) (y.see S 4) ∧ Q (.bl (PyData.eqv (x.see S 4).py (y.see S 4).py)) S → rEqAll K v u H Qh := fun ⟨⟨p1, p2, p3, p4⟩, q⟩ =>
    .inr ⟨(x.see S 4).py, (y.see S 4).py, Rep.dpS r 4 x v p1 hx, Rep.dpS r 4 y u p2 hy, p3, p4, l ι (.bl _) S _ H Ext.refl r (rep_bl.mpr rfl) q⟩
  cases x <;> cases y <;> first
    | exact gen h
    | skip
  · rename_i i j
    rw [rep_int] at hx hy
    subst hx hy
    refine .inl ⟨rfl, ?_⟩
    have e : decide (V.int i = V.int j) = decide (i = j) := by
      by_cases q : i = j
      · subst q; simp
      · rw [decide_eq_false q, decide_eq_false (fun z => q (V.int.inj z))]
    rw [e]
    exact l ι (.bl _) S _ H Ext.refl r (rep_bl.mpr rfl) h
  · rename_i i j
    rw [rep_str] at hx hy
    subst hx hy
    refine .inl ⟨rfl, ?_⟩
    have e : decide (V.str i = V.str j) = decide (i = j) := by
      by_cases q : i = j
      · subst q; simp
      · rw [decide_eq_false q, decide_eq_false (fun z => q (V.str.inj z))]
    rw [e]
    exact l ι (.bl _) S _ H Ext.refl r (rep_bl.mpr rfl) h
theorem abs_ne {K : PySem.W.Frag} {E : XK} : AbsR2 K E (rNeAll K) fNe := by
  intro ι H S x y v u Q XX Qh r hx hy h l lx
  have gen : EqOk (x.see S 4) (y.see S 4) ∧ Q (.bl (!PyData.eqv (x.see S 4).py (y.see S 4).py)) S → rNeAll K v u H Qh := fun ⟨⟨p1, p2, p3, p4⟩, q⟩ =>
    .inr ⟨(x.see S 4).py, (y.see S 4).py, Rep.dpS r 4 x v p1 hx, Rep.dpS r 4 y u p2 hy, p3, p4, l ι (.bl _) S _ H Ext.refl r (rep_bl.mpr rfl) q⟩
  cases x <;> cases y <;> first
    | exact gen h
    | skip
  · rename_i i j
    rw [rep_int] at hx hy
    subst hx hy
    refine .inl ⟨rfl, ?_⟩
    have e : decide (V.int i = V.int j) = decide (i = j) := by
      by_cases q : i = j
      · subst q; simp
      · rw [decide_eq_false q, decide_eq_false (fun z => q (V.int.inj z))]
    rw [e]
    exact l ι (.bl _) S _ H Ext.refl r (rep_bl.mpr rfl) h
  · rename_i i j
    rw [rep_str] at hx hy
    subst hx hy
    refine .inl ⟨rfl, ?_⟩
    have e : decide (V.str i = V.str j) = decide (i = j) := by
      by_cases q : i = j
      · subst q; simp
      · rw [decide_eq_false q, decide_eq_false (fun z => q (V.str.inj z))]
    rw [e]
    exact l ι (.bl _) S _ H Ext.refl r (rep_bl.mpr rfl) h
end AW
/-! AW4: tests, displays, subscripts, slices. -/
namespace AW
open PySem PySem.Spec PyProof.Rows L2

/-! ### truth -/
def fTru (x : D) (S : Sto) (Q : Bool → Prop) : Prop := match x with
  | .non => Q false
  | .bl b => Q b
  | .int i => Q (i != 0)
  | .str y => y.length ≤ sizeLine ∧ Q ((y.length : Int) != 0)
  | d => match items S d with
    | some ds => Q (!ds.isEmpty)
    | none => False
theorem isEmpty_rep {K ι H} {ds : List D} {xs : List V} (h : RepL K ι H ds xs) : (!ds.isEmpty) = !xs.isEmpty := by
  have e := RepL.length h
  cases ds <;> cases xs <;> first | rfl | cases e
theorem tru_of {K ι H} {S : Sto} (r : RelS K ι S H) {x : D} {v : V} {Q : Bool → Prop} (hx : Rep K ι H x v) (h : fTru x S Q) : ∃ k, TruV K v H k ∧ Q k := by
  have seq : ∀ {d : D}, Rep K ι H d v → (match items S d with
      | some ds => Q (!ds.isEmpty)
      | none => False) → ∃ k, TruV K v H k ∧ Q k := fun {d} hd hq => by
    split at hq
    · rename_i ds e
      obtain ⟨a, xs, rfl, hs, hl⟩ := items_rep r hd e
      refine ⟨_, ?_, hq⟩
      rw [isEmpty_rep hl]
      rcases hs with hs | hs
      · exact .inl ⟨xs, hs, rfl⟩
      · exact .inr (.inl ⟨xs, hs, rfl⟩)
    · exact hq.elim
  cases x with
  | non => rw [rep_non] at hx; subst hx; exact ⟨_, rfl, h⟩
  | bl b => rw [rep_bl] at hx; subst hx; exact ⟨_, rfl, h⟩
  | int i => rw [rep_int] at hx; subst hx; exact ⟨_, rfl, h⟩
  | str y => rw [rep_str] at hx; subst hx; exact ⟨_, ⟨h.1, rfl⟩, h.2⟩
  | tup ds => exact seq hx h
  | fl ds => exact seq hx h
  | scr ds => exact seq hx h
  | ref n => exact seq hx h
  | exc a => exact h.elim
section
variable {X : Cx} {E : XK} {pos : Pos} {a b : Expr} {ta tb : TE} {wa wb : WE} {rest : List Expr}
def wTruA (w : WE) : WT := fun σ S Q X => w σ S (fun d S1 => fTru d S1 fun k => Q k S1) X
theorem jt_tru {K : PySem.W.Frag} (ha : JE X E a ta wa) (he : ∀ whole, isTrue a X.env whole = (do let v ← whole; standAt a.pos; holding [v] (truthy v)) := by intro _; rfl) (hK : X.K = K := by rfl) :
    JT X E a (fun σ H Q => ta σ H fun x H' => ∃ k, TruV K x H' k ∧ Q k H') (wTruA wa) := by
  subst hK
  refine ⟨pt_truth ha.pe he, ?_⟩
  intro ι σ H σD S Q XX Qh r s h l lx
  refine ha.ab ι σ H σD S _ XX _ r s h ?_ lx
  intro ι1 d1 S1 v1 H1 e1 r1 p1 h1
  obtain ⟨k, h2, h3⟩ := tru_of r1 p1 h1
  exact ⟨k, h2, l ι1 k S1 H1 e1 r1 h3⟩
def wAnd (t u : WT) : WT := fun σ S Q X => t σ S (fun c S1 => if c = true then u σ S1 Q X else Q false S1) X
def wOr (t u : WT) : WT := fun σ S Q X => t σ S (fun c S1 => if c = true then Q true S1 else u σ S1 Q X) X
def wNotA (t : WT) : WT := fun σ S Q X => t σ S (fun c S1 => Q (!c) S1) X
variable {tA tB : TT} {wA wB : WT}
theorem jw_and1 (ha : JT X E a tA wA) : JW X E (.BoolOp .And [a] pos) tA wA := ⟨pw_and1 ha.pe, ha.ab⟩
theorem jw_or1 (ha : JT X E a tA wA) : JW X E (.BoolOp .Or [a] pos) tA wA := ⟨pw_or1 ha.pe, ha.ab⟩
theorem jw_and (ha : JT X E a tA wA) (hb : JW X E (.BoolOp .And (b :: rest) pos) tB wB) : JW X E (.BoolOp .And (a :: b :: rest) pos) (tAnd tA tB) (wAnd wA wB) := by
  refine ⟨pw_and ha.pe hb.pe, ?_⟩
  intro ι σ H σD S Q XX Qh r s h l lx
  refine ha.ab ι σ H σD S _ XX _ r s h ?_ lx
  intro ι1 c S1 H1 e1 r1 h1
  cases c with
  | true => exact hb.ab ι1 σ H1 σD S1 Q XX Qh r1 (s.mono e1) h1 (l.ext e1) (lx.ext e1)
  | false => exact l ι1 false S1 H1 e1 r1 h1
theorem jw_or (ha : JT X E a tA wA) (hb : JW X E (.BoolOp .Or (b :: rest) pos) tB wB) : JW X E (.BoolOp .Or (a :: b :: rest) pos) (tOr tA tB) (wOr wA wB) := by
  refine ⟨pw_or ha.pe hb.pe, ?_⟩
  intro ι σ H σD S Q XX Qh r s h l lx
  refine ha.ab ι σ H σD S _ XX _ r s h ?_ lx
  intro ι1 c S1 H1 e1 r1 h1
  cases c with
  | false => exact hb.ab ι1 σ H1 σD S1 Q XX Qh r1 (s.mono e1) h1 (l.ext e1) (lx.ext e1)
  | true => exact l ι1 true S1 H1 e1 r1 h1
theorem JW.jt (h : JW X E a tA wA) : JT X E a tA wA := ⟨h.pe.pt, h.ab⟩
theorem jt_not (ha : JT X E a tA wA) : JT X E (.UnaryOp .Not a pos) (tNot tA) (wNotA wA) := by
  refine ⟨pt_not ha.pe, ?_⟩
  intro ι σ H σD S Q XX Qh r s h l lx
  refine ha.ab ι σ H σD S _ XX _ r s h ?_ lx
  intro ι1 c S1 H1 e1 r1 h1
  exact l ι1 (!c) S1 H1 e1 r1 h1
/-- and, or, not as values -/
def wAndV (wa wb : WE) : WE := fun σ S Q X => wa σ S (fun x S1 => fTru x S1 fun k => if k = true then wb σ S1 Q X else Q x S1) X
def wOrV (wa wb : WE) : WE := fun σ S Q X => wa σ S (fun x S1 => fTru x S1 fun k => if k = true then Q x S1 else wb σ S1 Q X) X
def wNotV (wa : WE) : WE := fun σ S Q X => wa σ S (fun x S1 => fTru x S1 fun k => Q (.bl (!k)) S1) X
theorem je_one {op} (h : JE X E a ta wa) : JE X E (.BoolOp op [a] pos) ta wa := ⟨pe_one h.pe, h.ab⟩
theorem je_and {K : PySem.W.Frag} (ha : JE X E a ta wa) (hb : JE X E (.BoolOp .And (b :: rest) pos) tb wb) (hK : X.K = K := by rfl) : JE X E (.BoolOp .And (a :: b :: rest) pos) (tAndT K ta tb) (wAndV wa wb) := by
  subst hK
  refine ⟨pe_andT ha.pe hb.pe, ?_⟩
  intro ι σ H σD S Q XX Qh r s h l lx
  refine ha.ab ι σ H σD S _ XX _ r s h ?_ lx
  intro ι1 d1 S1 v1 H1 e1 r1 p1 h1
  obtain ⟨k, h2, h3⟩ := tru_of r1 p1 h1
  refine ⟨k, h2, ?_⟩
  cases k with
  | true => exact hb.ab ι1 σ H1 σD S1 Q XX Qh r1 (s.mono e1) h3 (l.ext e1) (lx.ext e1)
  | false => exact l ι1 d1 S1 v1 H1 e1 r1 p1 h3
theorem je_or {K : PySem.W.Frag} (ha : JE X E a ta wa) (hb : JE X E (.BoolOp .Or (b :: rest) pos) tb wb) (hK : X.K = K := by rfl) : JE X E (.BoolOp .Or (a :: b :: rest) pos) (tOrT K ta tb) (wOrV wa wb) := by
  subst hK
  refine ⟨pe_orT ha.pe hb.pe, ?_⟩
  intro ι σ H σD S Q XX Qh r s h l lx
  refine ha.ab ι σ H σD S _ XX _ r s h ?_ lx
  intro ι1 d1 S1 v1 H1 e1 r1 p1 h1
  obtain ⟨k, h2, h3⟩ := tru_of r1 p1 h1
  refine ⟨k, h2, ?_⟩
  cases k with
  | false => exact hb.ab ι1 σ H1 σD S1 Q XX Qh r1 (s.mono e1) h3 (l.ext e1) (lx.ext e1)
  | true => exact l ι1 d1 S1 v1 H1 e1 r1 p1 h3
theorem je_not {K : PySem.W.Frag} (ha : JE X E a ta wa) (hK : X.K = K := by rfl) : JE X E (.UnaryOp .Not a pos) (tNotT K ta) (wNotV wa) := by
  subst hK
  refine ⟨pe_notT ha.pe, ?_⟩
  intro ι σ H σD S Q XX Qh r s h l lx
  refine ha.ab ι σ H σD S _ XX _ r s h ?_ lx
  intro ι1 d1 S1 v1 H1 e1 r1 p1 h1
  obtain ⟨k, h2, h3⟩ := tru_of r1 p1 h1
  exact ⟨k, h2, l ι1 (.bl (!k)) S1 _ H1 e1 r1 (rep_bl.mpr rfl) h3⟩
def wIf (t : WT) (wa wb : WE) : WE := fun σ S Q X => t σ S (fun c S1 => if c = true then wa σ S1 Q X else wb σ S1 Q X) X
theorem je_if {c : Expr} (hc : JT X E c tA wA) (ha : JE X E a ta wa) (hb : JE X E b tb wb) : JE X E (.IfExp c a b pos) (tIf tA ta tb) (wIf wA wa wb) := by
  refine ⟨pe_ifExp hc.pe ha.pe hb.pe, ?_⟩
  intro ι σ H σD S Q XX Qh r s h l lx
  refine hc.ab ι σ H σD S _ XX _ r s h ?_ lx
  intro ι1 c S1 H1 e1 r1 h1
  cases c with
  | true => exact ha.ab ι1 σ H1 σD S1 Q XX Qh r1 (s.mono e1) h1 (l.ext e1) (lx.ext e1)
  | false => exact hb.ab ι1 σ H1 σD S1 Q XX Qh r1 (s.mono e1) h1 (l.ext e1) (lx.ext e1)

/-! ### is None -/
def isNon : D → Bool
  | .non => true
  | _ => false
theorem isNon_rep {K ι H} {x : D} {v : V} (h : Rep K ι H x v) : isNon x = decide (v = .non) := by
  cases x with
  | non => rw [rep_non] at h; subst h; rfl
  | bl b => rw [rep_bl] at h; subst h; rfl
  | int b => rw [rep_int] at h; subst h; rfl
  | str b => rw [rep_str] at h; subst h; rfl
  | tup b => obtain ⟨_, _, rfl, _⟩ := rep_tup.mp h; rfl
  | fl b => obtain ⟨_, _, rfl, _⟩ := rep_fl.mp h; rfl
  | scr b => obtain ⟨_, _, rfl, _⟩ := rep_scr.mp h; rfl
  | ref b => obtain ⟨_, rfl, _⟩ := rep_ref.mp h; rfl
  | exc a => unfold Rep at h; subst h; rfl
def wIsN (g : Bool → Bool) (wa : WE) : WE := fun σ S Q X => wa σ S (fun x S1 => Q (.bl (g (isNon x))) S1) X
theorem je_isN {j pos'} (ha : JE X E a ta wa) : JE X E (.Compare a [.Is] [.Constant .none j pos'] pos) (tIsN ta) (wIsN (fun b => b) wa) := by
  refine ⟨pe_cmp (pc_isN ha.pe) rfl, ?_⟩
  intro ι σ H σD S Q XX Qh r s h l lx
  refine ha.ab ι σ H σD S _ XX _ r s h ?_ lx
  intro ι1 d1 S1 v1 H1 e1 r1 p1 h1
  have h1 : Q (.bl (isNon d1)) S1 := h1
  rw [isNon_rep p1] at h1
  exact l ι1 _ S1 _ H1 e1 r1 (rep_bl.mpr rfl) h1
theorem je_notN {j pos'} (ha : JE X E a ta wa) : JE X E (.Compare a [.IsNot] [.Constant .none j pos'] pos) (tNotN ta) (wIsN (fun b => !b) wa) := by
  refine ⟨pe_cmp (pc_notN ha.pe) rfl, ?_⟩
  intro ι σ H σD S Q XX Qh r s h l lx
  refine ha.ab ι σ H σD S _ XX _ r s h ?_ lx
  intro ι1 d1 S1 v1 H1 e1 r1 p1 h1
  have h1 : Q (.bl (!isNon d1)) S1 := h1
  rw [isNon_rep p1] at h1
  exact l ι1 _ S1 _ H1 e1 r1 (rep_bl.mpr rfl) h1
theorem abs_b {K : PySem.W.Frag} {E : XK} {t : TE} {w : WE} (ha : AbsE K E t w) : AbsT K E (L2.tB t) (wTest w) := abs_test ha
theorem jt_isN {j pos'} (ha : JE X E a ta wa) : JT X E (.Compare a [.Is] [.Constant .none j pos'] pos) (L2.tB (tIsN ta)) (wTest (wIsN (fun b => b) wa)) := ⟨pt_cmp (pc_isN ha.pe) rfl, abs_b (je_isN (pos := pos) (j := j) (pos' := pos') ha).ab⟩
theorem jt_notN {j pos'} (ha : JE X E a ta wa) : JT X E (.Compare a [.IsNot] [.Constant .none j pos'] pos) (L2.tB (tNotN ta)) (wTest (wIsN (fun b => !b) wa)) := ⟨pt_cmp (pc_notN ha.pe) rfl, abs_b (je_notN (pos := pos) (j := j) (pos' := pos') ha).ab⟩
end

/-! ### arguments, displays -/
section
variable {X : Cx} {E : XK} {pos : Pos} {e : Expr} {es : List Expr} {te : TE} {t : TA} {we : WE} {w : WA}
def wNil : WA := fun _ S Q _ => Q [] S
def wCons (we : WE) (w : WA) : WA := fun σ S Q X => we σ S (fun d S1 => w σ S1 (fun ds S2 => Q (d :: ds) S2) X) X
theorem ja_nil : JA X E [] tNil wNil := ⟨pa_nil, fun ι σ H σD S Q XX Qh r s h l lx => l ι [] S [] H Ext.refl r RepL.nil h⟩
theorem ja_cons (ha : JE X E e te we) (hr : JA X E es t w) (hs : starEach (e :: es) X.env = (false, eval e X.env) :: starEach es X.env := by rfl) : JA X E (e :: es) (tCons te t) (wCons we w) := by
  refine ⟨pa_cons ha.pe hr.pe hs, ?_⟩
  intro ι σ H σD S Q XX Qh r s h l lx
  refine ha.ab ι σ H σD S _ XX _ r s h ?_ lx
  intro ι1 d1 S1 v1 H1 e1 r1 p1 h1
  refine hr.ab ι1 σ H1 σD S1 _ XX _ r1 (s.mono e1) h1 ?_ (lx.ext e1)
  intro ι2 ds S2 vs H2 e2 r2 p2 h2
  exact l ι2 (d1 :: ds) S2 (v1 :: vs) H2 (e1.trans e2) r2 (RepL.cons (Rep.mono e2 _ _ p1) p2) h2
def wTup (w : WA) : WE := fun σ S Q X => w σ S (fun ds S1 => ds.length ≤ sizeLine ∧ Q (.tup ds) S1) X
def wLst (w : WA) : WE := fun σ S Q X => w σ S (fun ds S1 => ds.length ≤ sizeLine ∧ Q (.fl ds) S1) X
def wLstR (w : WA) : WE := fun σ S Q X => w σ S (fun ds S1 => ds.length ≤ sizeLine ∧ Q (.ref S1.length) (S1 ++ [.lst ds])) X
theorem je_tup {x1} (ha : JA X E es t w) : JE X E (.Tuple es x1 pos) (tTup t) (wTup w) := by
  refine ⟨pe_tup ha.pe, ?_⟩
  intro ι σ H σD S Q XX Qh r s h l lx
  refine ha.ab ι σ H σD S _ XX _ r s h ?_ lx
  intro ι1 ds S1 vs H1 e1 r1 p1 h1
  exact ⟨by rw [← RepL.length p1]; exact h1.1, fun p hp => (l.ext e1).tup r1 p1 h1.2 hp⟩
theorem je_lst (ha : JA X E es t w) : JE X E (.List es pos) (tLst t) (wLst w) := by
  refine ⟨pe_lst ha.pe, ?_⟩
  intro ι σ H σD S Q XX Qh r s h l lx
  refine ha.ab ι σ H σD S _ XX _ r s h ?_ lx
  intro ι1 ds S1 vs H1 e1 r1 p1 h1
  exact ⟨by rw [← RepL.length p1]; exact h1.1, fun p hp => (l.ext e1).fl r1 p1 h1.2 hp⟩
theorem je_lstR (ha : JA X E es t w) : JE X E (.List es pos) (tLst t) (wLstR w) := by
  refine ⟨pe_lst ha.pe, ?_⟩
  intro ι σ H σD S Q XX Qh r s h l lx
  refine ha.ab ι σ H σD S _ XX _ r s h ?_ lx
  intro ι1 ds S1 vs H1 e1 r1 p1 h1
  exact ⟨by rw [← RepL.length p1]; exact h1.1, fun p hp => (l.ext e1).cell r1 p1 h1.2 hp⟩
end

/-! ### subscripts -/
theorem atI_rep {K ι H} {ds : List D} {xs : List V} (h : RepL K ι H ds xs) {i : Int} {d : D} (e : atI ds i = some d) : ∃ x, atI xs i = some x ∧ Rep K ι H d x := by
  unfold atI at e ⊢
  rw [← RepL.length h]
  cases q : ixN ds.length i with
  | none => rw [q] at e; cases e
  | some j =>
    rw [q] at e
    exact RepL.get h e
def fIx : F2 := fun x y S Q _ => match x, y with
  | .str z, .int i => z.length ≤ sizeLine ∧ match atI z.cps.toList i with
    | some c => Q (.str ⟨#[c]⟩) S
    | none => False
  | x, .int i => match items S x with
    | some ds => match atI ds i with
      | some d => Q d S
      | none => False
    | none => False
  | _, _ => False
theorem abs_ix {K : PySem.W.Frag} {E : XK} : AbsR2 K E (rIx K) fIx := by
  intro ι H S x y v u Q XX Qh r hx hy h l lx
  have seq : ∀ {i : Int}, Rep K ι H (.int i) u → (match items S x with
      | some ds => match atI ds i with
        | some d => Q d S
        | none => False
      | none => False) → rIx K v u H Qh := fun {i} hi hq => by
    rw [rep_int] at hi
    split at hq
    · rename_i ds e
      obtain ⟨a, xs, rfl, hs, hl⟩ := items_rep r hx e
      split at hq
      · rename_i d e2
        obtain ⟨z, e3, hz⟩ := atI_rep hl e2
        have fin := l ι d S z H Ext.refl r hz hq
        rcases hs with hs | hs
        · exact .inl ⟨a, xs, i, z, rfl, hi, hs, e3, fin⟩
        · exact .inr (.inl ⟨a, xs, i, z, rfl, hi, hs, e3, fin⟩)
      · exact hq.elim
    · exact hq.elim
  cases y with
  | int i =>
    cases x with
    | str z =>
      rw [rep_str] at hx
      rw [rep_int] at hy
      obtain ⟨h1, h2⟩ := h
      split at h2
      · rename_i c e
        exact .inr (.inr ⟨z, i, c, hx, hy, h1, e, l ι _ S _ H Ext.refl r (rep_str.mpr rfl) h2⟩)
      · exact h2.elim
    | _ => exact seq hy h
  | _ => cases x <;> exact h.elim
section
variable {X : Cx} {E : XK} {pos p2 : Pos} {a b e : Expr} {ta tb te : TE} {wa wb we : WE}
theorem je_ix {K : PySem.W.Frag} (ha : JE X E a ta wa) (hb : JE X E b tb wb) (hs : PlainIx b := by exact fun _ _ => rfl) (hK : X.K = K := by rfl) : JE X E (.Subscript a b pos) (tOp (rIx K) ta tb) (wOp fIx wa wb) := by
  subst hK
  exact ⟨pe_ix ix_seq ha.pe hb.pe hs, abs_op abs_ix ha.ab hb.ab⟩
/-! ### slices -/
def cutL {α : Type} (xs : List α) (lo hi : Option Int) : List α := (xs.drop (HT.sIx xs.length 0 lo)).take (HT.sIx xs.length xs.length hi - HT.sIx xs.length 0 lo)
theorem cutL_rep {K ι H} {ds : List D} {xs : List V} (h : RepL K ι H ds xs) (lo hi : Option Int) : RepL K ι H (cutL ds lo hi) (cutV xs lo hi) := by
  unfold cutL cutV
  rw [← RepL.length h]
  exact RepL.take _ (RepL.drop _ h)
abbrev WO := ASt → Sto → (Option Int → Sto → Prop) → XKD → Prop
def AbsO (K : PySem.W.Frag) (E : XK) (t : TO) (w : WO) : Prop := ∀ (ι : Ad) (σ : L2.St) (H : Hp) (σD : ASt) (S : Sto) (Q : Option Int → Sto → Prop) (X : XKD) (Qh : Option Int → Hp → Prop),
  RelS K ι S H → Slots K ι H σD σ → w σD S Q X → (∀ ι' o S' H', Ext K ι H ι' H' → RelS K ι' S' H' → Q o S' → Qh o H') → LkX K ι H X E → t σ H Qh
structure JO (X : Cx) (E : XK) (e : Option Expr) (t : TO) (w : WO) : Prop where
  pe : PO X e t
  ab : AbsO X.K E t w
def wNoPart : WO := fun _ S Q _ => Q none S
def wPart (w : WE) : WO := fun σ S Q X => w σ S (fun d S1 => match d with
  | .int i => Q (some i) S1
  | _ => False) X
theorem jo_none : JO X E none tNoPart wNoPart := ⟨po_none, fun ι σ H σD S Q XX Qh r s h l lx => l ι none S H Ext.refl r h⟩
theorem jo_some (ha : JE X E a ta wa) : JO X E (some a) (tPart ta) (wPart wa) := by
  refine ⟨po_some ha.pe, ?_⟩
  intro ι σ H σD S Q XX Qh r s h l lx
  refine ha.ab ι σ H σD S _ XX _ r s h ?_ lx
  intro ι1 d1 S1 v1 H1 e1 r1 p1 h1
  cases d1 <;> try exact h1.elim
  rename_i i
  exact ⟨i, rep_int.mp p1, l ι1 (some i) S1 H1 e1 r1 h1⟩
def fSl (x : D) (lo hi : Option Int) (S : Sto) (Q : VKD) : Prop := match x with
  | .tup ds => Q (.tup (cutL ds lo hi)) S
  | x => match itemsL S x with
    | some ds => Q (.fl (cutL ds lo hi)) S
    | none => False
def rSlAll (K : PySem.W.Frag) : V → Option Int → Option Int → Hp → VK → Prop := fun x lo hi H Q => rSlL K x lo hi H Q ∨ rSlA K x lo hi H Q
theorem sl_all : SlR X (rSlAll X.K) := sl_list.or sl_tupA
theorem cutL_whole {α : Type} (xs : List α) (lo hi : Option Int) (h : HT.sIx xs.length 0 lo = 0 ∧ HT.sIx xs.length xs.length hi = xs.length) : cutL xs lo hi = xs := by
  unfold cutL
  rw [h.1, h.2]
  simp
def wSl (we : WE) (wl wh : WO) : WE := fun σ S Q X => we σ S (fun x S1 => wl σ S1 (fun lo S2 => wh σ S2 (fun hi S3 => fSl x lo hi S3 Q) X) X) X
theorem sl_of {K ι H} {S : Sto} (r : RelS K ι S H) {x : D} {v : V} {lo hi : Option Int} {Q : VKD} {Qh : VK} (hx : Rep K ι H x v) (h : fSl x lo hi S Q) (l : LkE K ι H Q Qh) : rSlAll K v lo hi H Qh := by
  have seq : ∀ {d : D}, Rep K ι H d v → (match itemsL S d with
      | some ds => Q (.fl (cutL ds lo hi)) S
      | none => False) → rSlAll K v lo hi H Qh := fun {d} hd hq => by
    split at hq
    · rename_i ds e
      obtain ⟨a, xs, rfl, hs, hl⟩ := itemsL_rep r hd e
      exact .inl ⟨a, xs, rfl, hs, fun p hp => l.fl r (cutL_rep hl lo hi) hq hp⟩
    · exact hq.elim
  cases x with
  | tup ds =>
    obtain ⟨a, xs, rfl, hs, hl⟩ := rep_tup.mp hx
    refine .inr ⟨a, xs, rfl, hs, fun hw => ?_, fun hw p hp => l.tup r (cutL_rep hl lo hi) h hp⟩
    have h : Q (.tup (cutL ds lo hi)) S := h
    rw [← RepL.length hl] at hw
    rw [cutL_whole ds lo hi hw] at h
    exact l ι (.tup ds) S _ H Ext.refl r (rep_tup.mpr ⟨a, xs, rfl, hs, hl⟩) h
  | _ => exact seq hx h
theorem je_slice {K : PySem.W.Frag} {lo hi : Option Expr} {tl th : TO} {wl wh : WO} (he : JE X E e te we) (hl : JO X E lo tl wl) (hh : JO X E hi th wh) (hK : X.K = K := by rfl) :
    JE X E (.Subscript e (.Slice lo hi none p2) pos) (tSl (rSlAll K) te tl th) (wSl we wl wh) := by
  subst hK
  refine ⟨pe_slice sl_all he.pe hl.pe hh.pe, ?_⟩
  intro ι σ H σD S Q XX Qh r s h l lx
  refine he.ab ι σ H σD S _ XX _ r s h ?_ lx
  intro ι1 d1 S1 v1 H1 e1 r1 p1 h1
  refine hl.ab ι1 σ H1 σD S1 _ XX _ r1 (s.mono e1) h1 ?_ (lx.ext e1)
  intro ι2 lo' S2 H2 e2 r2 h2
  refine hh.ab ι2 σ H2 σD S2 _ XX _ r2 (s.mono (e1.trans e2)) h2 ?_ (lx.ext (e1.trans e2))
  intro ι3 hi' S3 H3 e3 r3 h3
  exact sl_of r3 (Rep.mono (e2.trans e3) _ _ p1) h3 (l.ext ((e1.trans e2).trans e3))
end
end AW
/-! AW5: calls, statements. -/
namespace AW
open PySem PySem.Spec PyProof.Rows L2

/-! ### built-in functions, by values -/
abbrev FC := List D → Sto → VKD → XKD → Prop
def AbsC (K : PySem.W.Frag) (E : XK) (r : List V → Hp → VK → Prop) (g : FC) : Prop := ∀ (ι : Ad) (H : Hp) (S : Sto) (ds : List D) (vs : List V) (Q : VKD) (XX : XKD) (Qh : VK),
  RelS K ι S H → RepL K ι H ds vs → g ds S Q XX → LkE K ι H Q Qh → LkX K ι H XX E → r vs H Qh
def wCB (g : FC) (w : WA) : WE := fun σ S Q X => w σ S (fun ds S1 => g ds S1 Q X) X
theorem abs_cb {K : PySem.W.Frag} {E : XK} {r : List V → Hp → VK → Prop} {g : FC} {t : TA} {w : WA} (hg : AbsC K E r g) (ha : AbsA K E t w) : AbsE K E (tCB r t) (wCB g w) := by
  intro ι σ H σD S Q XX Qh r s h l lx
  refine ha ι σ H σD S _ XX _ r s h ?_ lx
  intro ι1 ds S1 vs H1 e1 r1 p1 h1
  exact hg ι1 H1 S1 ds vs Q XX Qh r1 p1 h1 (l.ext e1) (lx.ext e1)
theorem repL1 {K ι H} {d : D} {vs : List V} (h : RepL K ι H [d] vs) : ∃ v, vs = [v] ∧ Rep K ι H d v := by
  unfold RepL at h
  obtain ⟨x, r, rfl, h1, h2⟩ := h
  unfold RepL at h2
  subst h2
  exact ⟨x, rfl, h1⟩
theorem repL2 {K ι H} {d e : D} {vs : List V} (h : RepL K ι H [d, e] vs) : ∃ v u, vs = [v, u] ∧ Rep K ι H d v ∧ Rep K ι H e u := by
  unfold RepL at h
  obtain ⟨x, r, rfl, h1, h2⟩ := h
  obtain ⟨u, rfl, h3⟩ := repL1 h2
  exact ⟨x, u, rfl, h1, h3⟩
theorem repL3 {K ι H} {d e f : D} {vs : List V} (h : RepL K ι H [d, e, f] vs) : ∃ v u w, vs = [v, u, w] ∧ Rep K ι H d v ∧ Rep K ι H e u ∧ Rep K ι H f w := by
  unfold RepL at h
  obtain ⟨x, r, rfl, h1, h2⟩ := h
  obtain ⟨u, w, rfl, h3, h4⟩ := repL2 h2
  exact ⟨x, u, w, rfl, h1, h3, h4⟩
def gAbs : FC := fun ds S Q _ => match ds with
  | [.int i] => Q (.int (i.natAbs : Int)) S
  | _ => False
def gInt : FC := fun ds S Q _ => match ds with
  | [.int i] => Q (.int i) S
  | [.bl b] => Q (.int (if b then 1 else 0)) S
  | _ => False
def gLen : FC := fun ds S Q _ => match ds with
  | [.str z] => z.length ≤ sizeLine ∧ Q (.int (z.length : Int)) S
  | [x] => match items S x with
    | some ds => Q (.int (ds.length : Int)) S
    | none => False
  | _ => False
def gTuple : FC := fun ds S Q _ => match ds with
  | [.tup ds] => Q (.tup ds) S
  | [x] => match itemsL S x with
    | some ds => Q (.tup ds) S
    | none => False
  | _ => False
/-- list(x): a list that stays as it is; a cell -/
def gList : FC := fun ds S Q _ => match ds with
  | [x] => match items S x with
    | some ds => Q (.fl ds) S
    | none => False
  | _ => False
def gListR : FC := fun ds S Q _ => match ds with
  | [x] => match items S x with
    | some ds => Q (.ref S.length) (S ++ [.lst ds])
    | none => False
  | _ => False
def intsOf : List D → Option (List Int)
  | [] => some []
  | .int i :: r => (intsOf r).map (i :: ·)
  | _ => none
def blsOf : List D → Option (List Bool)
  | [] => some []
  | .bl i :: r => (blsOf r).map (i :: ·)
  | _ => none
theorem intsOf_eq : ∀ {ds : List D} {ns : List Int}, intsOf ds = some ns → ds = ns.map D.int
  | [], ns, h => by cases h; rfl
  | d :: r, ns, h => by
    cases d <;> try cases h
    unfold intsOf at h
    cases e : intsOf r with
    | none => rw [e] at h; cases h
    | some ms => rw [e] at h; cases h; rw [intsOf_eq e]; rfl
theorem blsOf_eq : ∀ {ds : List D} {ns : List Bool}, blsOf ds = some ns → ds = ns.map D.bl
  | [], ns, h => by cases h; rfl
  | d :: r, ns, h => by
    cases d <;> try cases h
    unfold blsOf at h
    cases e : blsOf r with
    | none => rw [e] at h; cases h
    | some ms => rw [e] at h; cases h; rw [blsOf_eq e]; rfl
theorem intsOf_map : ∀ (ns : List Int), intsOf (ns.map D.int) = some ns
  | [] => rfl
  | n :: ns => by
    show (intsOf (ns.map D.int)).map (n :: ·) = _
    rw [intsOf_map ns]; rfl
theorem blsOf_map : ∀ (ns : List Bool), blsOf (ns.map D.bl) = some ns
  | [] => rfl
  | n :: ns => by
    show (blsOf (ns.map D.bl)).map (n :: ·) = _
    rw [blsOf_map ns]; rfl
theorem repL_ints {K ι H} : ∀ {ns : List Int} {xs : List V}, RepL K ι H (ns.map D.int) xs → xs = ns.map V.int
  | [], _, h => by unfold List.map RepL at h; exact h
  | n :: ns, _, h => by
    rw [List.map_cons] at h
    unfold RepL at h
    obtain ⟨x, r, rfl, h1, h2⟩ := h
    rw [rep_int] at h1
    rw [h1, repL_ints h2]; rfl
theorem repL_of_ints {K ι H} : ∀ (ns : List Int), RepL K ι H (ns.map D.int) (ns.map V.int)
  | [] => RepL.nil
  | n :: ns => RepL.cons (rep_int.mpr rfl) (repL_of_ints ns)
theorem repL_bls {K ι H} : ∀ {ns : List Bool} {xs : List V}, RepL K ι H (ns.map D.bl) xs → xs = ns.map V.bl
  | [], _, h => by unfold List.map RepL at h; exact h
  | n :: ns, _, h => by
    rw [List.map_cons] at h
    unfold RepL at h
    obtain ⟨x, r, rfl, h1, h2⟩ := h
    rw [rep_bl] at h1
    rw [h1, repL_bls h2]; rfl
def gSum : FC := fun ds S Q _ => match ds with
  | [x] => match (itemsL S x).bind intsOf with
    | some ns => Q (.int ns.sum) S
    | none => False
  | _ => False
def gAny : FC := fun ds S Q _ => match ds with
  | [x] => match (itemsL S x).bind blsOf with
    | some bs => Q (.bl (bs.any id)) S
    | none => False
  | _ => False
def gAll : FC := fun ds S Q _ => match ds with
  | [x] => match (itemsL S x).bind blsOf with
    | some bs => Q (.bl (bs.all id)) S
    | none => False
  | _ => False
/-- max, min of two ints; of a list of ints that is not empty -/
def gMax : FC := fun ds S Q _ => match ds with
  | [.int i, .int j] => Q (.int (max i j)) S
  | [x] => match (itemsL S x).bind intsOf with
    | some ns => 0 < ns.length ∧ ∀ m, m ∈ ns → (∀ y, y ∈ ns → y ≤ m) → Q (.int m) S
    | none => False
  | _ => False
def gMin : FC := fun ds S Q _ => match ds with
  | [.int i, .int j] => Q (.int (min i j)) S
  | [x] => match (itemsL S x).bind intsOf with
    | some ns => 0 < ns.length ∧ ∀ m, m ∈ ns → (∀ y, y ∈ ns → m ≤ y) → Q (.int m) S
    | none => False
  | _ => False
def rAbsV : List V → Hp → VK → Prop := fun xs H Q => ∃ i, xs = [.int i] ∧ Q (.int (if i < 0 then -i else i)) H
def rIntV : List V → Hp → VK → Prop := fun xs H Q => (∃ i, xs = [.int i] ∧ Q (.int i) H) ∨ ∃ k, xs = [.bl k] ∧ Q (.int (if k then 1 else 0)) H
def rLenV (K : PySem.W.Frag) : List V → Hp → VK → Prop := fun xs H Q => ∃ x n, xs = [x] ∧ LenV K x H n ∧ Q (.int n) H
def rTupV (K : PySem.W.Frag) : List V → Hp → VK → Prop := fun xs H Q => ∃ p ys, xs = [.ref p] ∧ ((SqL K H p ys ∧ ∀ l, H l = none → Q (.ref l) (upd H l (.tup ys))) ∨ (SqT K H p ys ∧ Q (.ref p) H))
def rListV (K : PySem.W.Frag) : List V → Hp → VK → Prop := fun xs H Q => ∃ p ys, xs = [.ref p] ∧ (SqL K H p ys ∨ SqT K H p ys) ∧ ∀ l, H l = none → Q (.ref l) (upd H l (.lst ys))
section
variable {K : PySem.W.Frag} {E : XK}
theorem abs_abs : AbsC K E rAbsV gAbs := by
  intro ι H S ds vs Q XX Qh r h g l lx
  unfold gAbs at g
  split at g
  · rename_i i
    obtain ⟨v, ev, hv⟩ := repL1 h; subst ev; clear h; have h := hv
    rw [rep_int] at h
    have e : (if i < 0 then -i else i) = (i.natAbs : Int) := by split <;> omega
    refine ⟨i, by rw [h], ?_⟩
    rw [e]
    exact l ι _ S _ H Ext.refl r (rep_int.mpr rfl) g
  · exact g.elim
theorem abs_intC : AbsC K E rIntV gInt := by
  intro ι H S ds vs Q XX Qh r h g l lx
  unfold gInt at g
  split at g
  · obtain ⟨v, ev, hv⟩ := repL1 h; subst ev; clear h; have h := hv
    rw [rep_int] at h
    exact .inl ⟨_, by rw [h], l ι _ S _ H Ext.refl r (rep_int.mpr rfl) g⟩
  · obtain ⟨v, ev, hv⟩ := repL1 h; subst ev; clear h; have h := hv
    rw [rep_bl] at h
    exact .inr ⟨_, by rw [h], l ι _ S _ H Ext.refl r (rep_int.mpr rfl) g⟩
  · exact g.elim
theorem abs_len : AbsC K E (rLenV K) gLen := by
  intro ι H S ds vs Q XX Qh r h g l lx
  unfold gLen at g
  split at g
  · rename_i z
    obtain ⟨v, ev, hv⟩ := repL1 h; subst ev; clear h; have h := hv
    rw [rep_str] at h
    exact ⟨v, z.length, rfl, by rw [h]; exact ⟨g.1, rfl⟩, l ι _ S _ H Ext.refl r (rep_int.mpr rfl) g.2⟩
  · obtain ⟨v, ev, hv⟩ := repL1 h; subst ev; clear h; have h := hv
    split at g
    · rename_i es e
      obtain ⟨a, xs, rfl, hs, hl⟩ := items_rep r h e
      refine ⟨.ref a, es.length, rfl, ?_, l ι _ S _ H Ext.refl r (rep_int.mpr rfl) g⟩
      have q := RepL.length hl
      rcases hs with hs | hs
      · exact .inl ⟨xs, hs, q⟩
      · exact .inr ⟨xs, hs, q⟩
    · exact g.elim
  · exact g.elim
theorem abs_tuple : AbsC K E (rTupV K) gTuple := by
  intro ι H S ds vs Q XX Qh r h g l lx
  unfold gTuple at g
  split at g
  · obtain ⟨v, ev, hv⟩ := repL1 h; subst ev; clear h; have h := hv
    obtain ⟨a, xs, rfl, hs, hl⟩ := rep_tup.mp h
    exact ⟨a, xs, rfl, .inr ⟨hs, l ι _ S _ H Ext.refl r h g⟩⟩
  · obtain ⟨v, ev, hv⟩ := repL1 h; subst ev; clear h; have h := hv
    split at g
    · rename_i es e
      obtain ⟨a, xs, rfl, hs, hl⟩ := itemsL_rep r h e
      exact ⟨a, xs, rfl, .inl ⟨hs, fun p hp => l.tup r hl g hp⟩⟩
    · exact g.elim
  · exact g.elim
theorem abs_list : AbsC K E (rListV K) gList := by
  intro ι H S ds vs Q XX Qh r h g l lx
  unfold gList at g
  split at g
  · obtain ⟨v, ev, hv⟩ := repL1 h; subst ev; clear h; have h := hv
    split at g
    · rename_i es e
      obtain ⟨a, xs, rfl, hs, hl⟩ := items_rep r h e
      exact ⟨a, xs, rfl, hs, fun p hp => l.fl r hl g hp⟩
    · exact g.elim
  · exact g.elim
theorem abs_listR : AbsC K E (rListV K) gListR := by
  intro ι H S ds vs Q XX Qh r h g l lx
  unfold gListR at g
  split at g
  · obtain ⟨v, ev, hv⟩ := repL1 h; subst ev; clear h; have h := hv
    split at g
    · rename_i es e
      obtain ⟨a, xs, rfl, hs, hl⟩ := items_rep r h e
      exact ⟨a, xs, rfl, hs, fun p hp => l.cell r hl g hp⟩
    · exact g.elim
  · exact g.elim
theorem ints_of {ι : Ad} {H : Hp} {S : Sto} (r : RelS K ι S H) {x : D} {v : V} {ns : List Int} (h : Rep K ι H x v) (e : (itemsL S x).bind intsOf = some ns) : ∃ a, v = .ref a ∧ SqL K H a (ns.map V.int) := by
  cases q : itemsL S x with
  | none => rw [q] at e; cases e
  | some es =>
    rw [q] at e
    obtain ⟨a, xs, rfl, hs, hl⟩ := itemsL_rep r h q
    have e2 : es = ns.map D.int := intsOf_eq e
    rw [e2] at hl
    rw [repL_ints hl] at hs
    exact ⟨a, rfl, hs⟩
theorem bls_of {ι : Ad} {H : Hp} {S : Sto} (r : RelS K ι S H) {x : D} {v : V} {ns : List Bool} (h : Rep K ι H x v) (e : (itemsL S x).bind blsOf = some ns) : ∃ a, v = .ref a ∧ SqL K H a (ns.map V.bl) := by
  cases q : itemsL S x with
  | none => rw [q] at e; cases e
  | some es =>
    rw [q] at e
    obtain ⟨a, xs, rfl, hs, hl⟩ := itemsL_rep r h q
    have e2 : es = ns.map D.bl := blsOf_eq e
    rw [e2] at hl
    rw [repL_bls hl] at hs
    exact ⟨a, rfl, hs⟩
theorem abs_sum : AbsC K E (rSum K) gSum := by
  intro ι H S ds vs Q XX Qh r h g l lx
  unfold gSum at g
  split at g
  · obtain ⟨v, ev, hv⟩ := repL1 h; subst ev; clear h; have h := hv
    split at g
    · rename_i ns e
      obtain ⟨a, rfl, hs⟩ := ints_of r h e
      exact ⟨a, ns, rfl, hs, l ι _ S _ H Ext.refl r (rep_int.mpr rfl) g⟩
    · exact g.elim
  · exact g.elim
theorem abs_any : AbsC K E (rAny K) gAny := by
  intro ι H S ds vs Q XX Qh r h g l lx
  unfold gAny at g
  split at g
  · obtain ⟨v, ev, hv⟩ := repL1 h; subst ev; clear h; have h := hv
    split at g
    · rename_i ns e
      obtain ⟨a, rfl, hs⟩ := bls_of r h e
      exact ⟨a, ns, rfl, hs, l ι _ S _ H Ext.refl r (rep_bl.mpr rfl) g⟩
    · exact g.elim
  · exact g.elim
theorem abs_all : AbsC K E (rAll K) gAll := by
  intro ι H S ds vs Q XX Qh r h g l lx
  unfold gAll at g
  split at g
  · obtain ⟨v, ev, hv⟩ := repL1 h; subst ev; clear h; have h := hv
    split at g
    · rename_i ns e
      obtain ⟨a, rfl, hs⟩ := bls_of r h e
      exact ⟨a, ns, rfl, hs, l ι _ S _ H Ext.refl r (rep_bl.mpr rfl) g⟩
    · exact g.elim
  · exact g.elim
def rMaxAll (K : PySem.W.Frag) : List V → Hp → VK → Prop := fun xs H Q => (∃ i j, xs = [.int i, .int j] ∧ Q (.int (if j > i then j else i)) H) ∨ rMax K xs H Q
def rMinAll (K : PySem.W.Frag) : List V → Hp → VK → Prop := fun xs H Q => (∃ i j, xs = [.int i, .int j] ∧ Q (.int (if j < i then j else i)) H) ∨ rMin K xs H Q
theorem abs_max : AbsC K E (rMaxAll K) gMax := by
  intro ι H S ds vs Q XX Qh r h g l lx
  unfold gMax at g
  split at g
  · rename_i i j
    obtain ⟨v, u, rfl, h1, h2⟩ := repL2 h
    rw [rep_int] at h1 h2
    have e : (if j > i then j else i) = max i j := by rw [Int.max_def]; split <;> split <;> omega
    refine .inl ⟨i, j, by rw [h1, h2], ?_⟩
    rw [e]
    exact l ι _ S _ H Ext.refl r (rep_int.mpr rfl) g
  · obtain ⟨v, ev, hv⟩ := repL1 h; subst ev; clear h; have h := hv
    split at g
    · rename_i ns e
      obtain ⟨a, rfl, hs⟩ := ints_of r h e
      exact .inr ⟨a, ns, rfl, hs, g.1, fun m h1 h2 => l ι _ S _ H Ext.refl r (rep_int.mpr rfl) (g.2 m h1 h2)⟩
    · exact g.elim
  · exact g.elim
theorem abs_min : AbsC K E (rMinAll K) gMin := by
  intro ι H S ds vs Q XX Qh r h g l lx
  unfold gMin at g
  split at g
  · rename_i i j
    obtain ⟨v, u, rfl, h1, h2⟩ := repL2 h
    rw [rep_int] at h1 h2
    have e : (if j < i then j else i) = min i j := by rw [Int.min_def]; split <;> split <;> omega
    refine .inl ⟨i, j, by rw [h1, h2], ?_⟩
    rw [e]
    exact l ι _ S _ H Ext.refl r (rep_int.mpr rfl) g
  · obtain ⟨v, ev, hv⟩ := repL1 h; subst ev; clear h; have h := hv
    split at g
    · rename_i ns e
      obtain ⟨a, rfl, hs⟩ := ints_of r h e
      exact .inr ⟨a, ns, rfl, hs, g.1, fun m h1 h2 => l ι _ S _ H Ext.refl r (rep_int.mpr rfl) (g.2 m h1 h2)⟩
    · exact g.elim
  · exact g.elim
end
section
variable {X : Cx} {E : XK} {p pos : Pos} {e : Expr} {es : List Expr} {t : TA} {w : WA}
theorem je_callB {x : Str} {id : String} {r : List V → Hp → VK → Prop} {g : FC} (hc : CallR X (.builtin id) r) (hf : AbsC X.K E r g) (hg : Gl X x) (hm : X.mg x = none) (hv : bootBuiltins x = some (.builtin id)) (ha : JA X E (e :: es) t w) (hn : x ≠ "__name__" := by decide) (hdb : (x == ("__debug__" : Str)) = false := by decide)
    (he : starEach (e :: es) X.env = (false, eval e X.env) :: starEach es X.env := by rfl) (hpl : (backTo pos (starEach es X.env)).any (·.1) = false := by rfl) : JE X E (.Call (.Name x p) (e :: es) [] pos) (tCB r t) (wCB g w) :=
  ⟨pe_callB hc hg hm hv ha.pe hn hdb he hpl, abs_cb hf ha.ab⟩
theorem je_callTy {x : Str} {T : String} {r : List V → Hp → VK → Prop} {g : FC} (hc : CallR X (.type T) r) (hf : AbsC X.K E r g) (hg : Gl X x) (hm : X.mg x = none) (hv : bootBuiltins x = some (.type T)) (ha : JA X E (e :: es) t w) (hn : x ≠ "__name__" := by decide) (hdb : (x == ("__debug__" : Str)) = false := by decide)
    (he : starEach (e :: es) X.env = (false, eval e X.env) :: starEach es X.env := by rfl) (hpl : (backTo pos (starEach es X.env)).any (·.1) = false := by rfl) : JE X E (.Call (.Name x p) (e :: es) [] pos) (tCB r t) (wCB g w) :=
  ⟨pe_callTy hc hg hm hv ha.pe hn hdb he hpl, abs_cb hf ha.ab⟩
theorem bt_abs : bootBuiltins "abs" = some (.builtin "abs") := by decide +kernel
theorem bt_int : bootBuiltins "int" = some (.type "int") := by decide +kernel
theorem bt_len : bootBuiltins "len" = some (.builtin "len") := by decide +kernel
theorem bt_tuple : bootBuiltins "tuple" = some (.type "tuple") := by decide +kernel
theorem bt_list : bootBuiltins "list" = some (.type "list") := by decide +kernel
theorem bt_sum : bootBuiltins "sum" = some (.builtin "sum") := by decide +kernel
theorem bt_any : bootBuiltins "any" = some (.builtin "any") := by decide +kernel
theorem bt_all : bootBuiltins "all" = some (.builtin "all") := by decide +kernel
theorem bt_max : bootBuiltins "max" = some (.builtin "max") := by decide +kernel
theorem bt_min : bootBuiltins "min" = some (.builtin "min") := by decide +kernel
theorem bt_isinstance : bootBuiltins "isinstance" = some (.builtin "isinstance") := by decide +kernel
theorem bt_bool : bootBuiltins "bool" = some (.type "bool") := by decide +kernel
theorem bt_str : bootBuiltins "str" = some (.type "str") := by decide +kernel
theorem je_abs (hm : X.mg "abs" = none) (ha : JA X E (e :: es) t w) (hg : Gl X "abs" := by rfl) (he : starEach (e :: es) X.env = (false, eval e X.env) :: starEach es X.env := by rfl) (hpl : (backTo pos (starEach es X.env)).any (·.1) = false := by rfl) : JE X E (.Call (.Name "abs" p) (e :: es) [] pos) (tCB rAbsV t) (wCB gAbs w) :=
  je_callB call_abs abs_abs hg hm bt_abs ha (he := he) (hpl := hpl)
theorem je_intC (hm : X.mg "int" = none) (ha : JA X E (e :: es) t w) (hg : Gl X "int" := by rfl) (he : starEach (e :: es) X.env = (false, eval e X.env) :: starEach es X.env := by rfl) (hpl : (backTo pos (starEach es X.env)).any (·.1) = false := by rfl) : JE X E (.Call (.Name "int" p) (e :: es) [] pos) (tCB rIntV t) (wCB gInt w) :=
  je_callTy call_int1 abs_intC hg hm bt_int ha (he := he) (hpl := hpl)
theorem je_len {K : PySem.W.Frag} (hm : X.mg "len" = none) (ha : JA X E (e :: es) t w) (hg : Gl X "len" := by rfl) (he : starEach (e :: es) X.env = (false, eval e X.env) :: starEach es X.env := by rfl) (hpl : (backTo pos (starEach es X.env)).any (·.1) = false := by rfl) (hK : X.K = K := by rfl) : JE X E (.Call (.Name "len" p) (e :: es) [] pos) (tCB (rLenV K) t) (wCB gLen w) := by
  subst hK
  exact je_callB call_len abs_len hg hm bt_len ha (he := he) (hpl := hpl)
theorem je_tuple {K : PySem.W.Frag} (hm : X.mg "tuple" = none) (ha : JA X E (e :: es) t w) (hg : Gl X "tuple" := by rfl) (he : starEach (e :: es) X.env = (false, eval e X.env) :: starEach es X.env := by rfl) (hpl : (backTo pos (starEach es X.env)).any (·.1) = false := by rfl) (hK : X.K = K := by rfl) : JE X E (.Call (.Name "tuple" p) (e :: es) [] pos) (tCB (rTupV K) t) (wCB gTuple w) := by
  subst hK
  exact je_callTy call_tuple_of abs_tuple hg hm bt_tuple ha (he := he) (hpl := hpl)
theorem je_list {K : PySem.W.Frag} (hm : X.mg "list" = none) (ha : JA X E (e :: es) t w) (hg : Gl X "list" := by rfl) (he : starEach (e :: es) X.env = (false, eval e X.env) :: starEach es X.env := by rfl) (hpl : (backTo pos (starEach es X.env)).any (·.1) = false := by rfl) (hK : X.K = K := by rfl) : JE X E (.Call (.Name "list" p) (e :: es) [] pos) (tCB (rListV K) t) (wCB gList w) := by
  subst hK
  exact je_callTy call_list_of abs_list hg hm bt_list ha (he := he) (hpl := hpl)
theorem je_listR {K : PySem.W.Frag} (hm : X.mg "list" = none) (ha : JA X E (e :: es) t w) (hg : Gl X "list" := by rfl) (he : starEach (e :: es) X.env = (false, eval e X.env) :: starEach es X.env := by rfl) (hpl : (backTo pos (starEach es X.env)).any (·.1) = false := by rfl) (hK : X.K = K := by rfl) : JE X E (.Call (.Name "list" p) (e :: es) [] pos) (tCB (rListV K) t) (wCB gListR w) := by
  subst hK
  exact je_callTy call_list_of abs_listR hg hm bt_list ha (he := he) (hpl := hpl)
theorem je_sum {K : PySem.W.Frag} (hc : X.calm = true) (hm : X.mg "sum" = none) (ha : JA X E (e :: es) t w) (hg : Gl X "sum" := by rfl) (he : starEach (e :: es) X.env = (false, eval e X.env) :: starEach es X.env := by rfl) (hpl : (backTo pos (starEach es X.env)).any (·.1) = false := by rfl) (hK : X.K = K := by rfl) : JE X E (.Call (.Name "sum" p) (e :: es) [] pos) (tCB (rSum K) t) (wCB gSum w) := by
  subst hK
  exact je_callB (cr_sum hc) abs_sum hg hm bt_sum ha (he := he) (hpl := hpl)
theorem je_any {K : PySem.W.Frag} (hc : X.calm = true) (hm : X.mg "any" = none) (ha : JA X E (e :: es) t w) (hg : Gl X "any" := by rfl) (he : starEach (e :: es) X.env = (false, eval e X.env) :: starEach es X.env := by rfl) (hpl : (backTo pos (starEach es X.env)).any (·.1) = false := by rfl) (hK : X.K = K := by rfl) : JE X E (.Call (.Name "any" p) (e :: es) [] pos) (tCB (rAny K) t) (wCB gAny w) := by
  subst hK
  exact je_callB (cr_any hc) abs_any hg hm bt_any ha (he := he) (hpl := hpl)
theorem je_all {K : PySem.W.Frag} (hc : X.calm = true) (hm : X.mg "all" = none) (ha : JA X E (e :: es) t w) (hg : Gl X "all" := by rfl) (he : starEach (e :: es) X.env = (false, eval e X.env) :: starEach es X.env := by rfl) (hpl : (backTo pos (starEach es X.env)).any (·.1) = false := by rfl) (hK : X.K = K := by rfl) : JE X E (.Call (.Name "all" p) (e :: es) [] pos) (tCB (rAll K) t) (wCB gAll w) := by
  subst hK
  exact je_callB (cr_all hc) abs_all hg hm bt_all ha (he := he) (hpl := hpl)
theorem je_max {K : PySem.W.Frag} (hc : X.calm = true) (hm : X.mg "max" = none) (ha : JA X E (e :: es) t w) (hg : Gl X "max" := by rfl) (he : starEach (e :: es) X.env = (false, eval e X.env) :: starEach es X.env := by rfl) (hpl : (backTo pos (starEach es X.env)).any (·.1) = false := by rfl) (hK : X.K = K := by rfl) : JE X E (.Call (.Name "max" p) (e :: es) [] pos) (tCB (rMaxAll K) t) (wCB gMax w) := by
  subst hK
  exact je_callB (CallR.or (call_max2 hc) (cr_max hc)) abs_max hg hm bt_max ha (he := he) (hpl := hpl)
theorem je_min {K : PySem.W.Frag} (hc : X.calm = true) (hm : X.mg "min" = none) (ha : JA X E (e :: es) t w) (hg : Gl X "min" := by rfl) (he : starEach (e :: es) X.env = (false, eval e X.env) :: starEach es X.env := by rfl) (hpl : (backTo pos (starEach es X.env)).any (·.1) = false := by rfl) (hK : X.K = K := by rfl) : JE X E (.Call (.Name "min" p) (e :: es) [] pos) (tCB (rMinAll K) t) (wCB gMin w) := by
  subst hK
  exact je_callB (CallR.or (call_min2 hc) (cr_min hc)) abs_min hg hm bt_min ha (he := he) (hpl := hpl)
end

/-! ### isinstance -/
inductive TN where
  | int | bool | str | tuple | list
def TN.name : TN → String
  | .int => "int"
  | .bool => "bool"
  | .str => "str"
  | .tuple => "tuple"
  | .list => "list"
def isTN : TN → Sto → D → Option Bool
  | T, S, .ref n => match S[n]? with
    | some (.lst _) => match T with
      | .list => some true
      | _ => some false
    | _ => none
  | _, _, .exc _ => none
  | .int, _, .int _ => some true
  | .int, _, .bl _ => some true
  | .bool, _, .bl _ => some true
  | .str, _, .str _ => some true
  | .tuple, _, .tup _ => some true
  | .list, _, .fl _ => some true
  | .list, _, .scr _ => some true
  | _, _, _ => some false
def tyName : D → String
  | .non => "NoneType"
  | .bl _ => "bool"
  | .int _ => "int"
  | .str _ => "str"
  | .tup _ => "tuple"
  | _ => "list"
theorem kitB_all : (["NoneType", "bool", "int", "str", "tuple", "list"].all fun a => ["int", "bool", "str", "tuple", "list"].all fun b => decide (kitB a b = some (decide (a = b) || (decide (a = "bool") && decide (b = "int"))))) = true := by decide +kernel
theorem isTN_rep {K ι H} {S : Sto} (r : RelS K ι S H) {T : TN} {x : D} {v : V} {b : Bool} (h : Rep K ι H x v) (e : isTN T S x = some b) : ∃ t, TyX K H v t ∧ PySem.W.kitOne K t (.type T.name) = some b := by
  have look : ∀ a ∈ ["NoneType", "bool", "int", "str", "tuple", "list"], PySem.W.kitOne K (.type a) (.type T.name) = some (decide (a = T.name) || (decide (a = "bool") && decide (T.name = "int"))) := fun a ha => by
    have q := List.all_eq_true.mp kitB_all a ha
    have q2 := List.all_eq_true.mp q T.name (by cases T <;> decide)
    exact kit_ty (of_decide_eq_true q2)
  cases x with
  | non => rw [rep_non] at h; subst h; exact ⟨_, .base .non, by rw [look _ (by decide)]; cases T <;> cases e <;> rfl⟩
  | bl y => rw [rep_bl] at h; subst h; exact ⟨_, .base (.bl _), by rw [look _ (by decide)]; cases T <;> cases e <;> rfl⟩
  | int y => rw [rep_int] at h; subst h; exact ⟨_, .base (.int _), by rw [look _ (by decide)]; cases T <;> cases e <;> rfl⟩
  | str y => rw [rep_str] at h; subst h; exact ⟨_, .base (.str _), by rw [look _ (by decide)]; cases T <;> cases e <;> rfl⟩
  | tup ds =>
    obtain ⟨a, xs, rfl, hs, _⟩ := rep_tup.mp h
    refine ⟨.type "tuple", ?_, by rw [look _ (by decide)]; cases T <;> cases e <;> rfl⟩
    rcases hs with (hs | ⟨o, hs⟩) | ⟨o, its, n, k1, k2, _⟩
    · exact .base (.tup hs)
    · exact .fTuple hs
    · exact .kTuple k1 k2
  | fl ds =>
    obtain ⟨a, xs, rfl, _, hs, _⟩ := rep_fl.mp h
    exact ⟨.type "list", .base (.lst hs), by rw [look _ (by decide)]; cases T <;> cases e <;> rfl⟩
  | scr ds =>
    obtain ⟨a, xs, rfl, hs, _⟩ := rep_scr.mp h
    refine ⟨.type "list", ?_, by rw [look _ (by decide)]; cases T <;> cases e <;> rfl⟩
    rcases hs with ⟨o, hs⟩ | ⟨o, its, n, k1, k2, _⟩
    · exact .base (.frz hs)
    · exact .kList k1 k2
  | ref n =>
    obtain ⟨a, rfl, h2⟩ := rep_ref.mp h
    have e : (match S[n]? with
      | some (.lst _) => match T with
        | .list => some true
        | _ => some false
      | _ => none) = some b := by cases T <;> exact e
    split at e
    · rename_i ds hc
      obtain ⟨xs, q1, q2⟩ := r.cel n _ a hc h2
      exact ⟨.type "list", .base (.lst q1), by rw [look _ (by decide)]; cases T <;> cases e <;> rfl⟩
    · cases e
  | exc a => cases T <;> cases e
section
variable {X : Cx} {E : XK} {p pT pos : Pos} {e : Expr} {te : TE} {we : WE}
def wIsi (T : TN) (we : WE) : WE := fun σ S Q X => we σ S (fun d S1 => match isTN T S1 d with
  | some b => Q (.bl b) S1
  | none => False) X
theorem je_isi {K : PySem.W.Frag} (T : TN) (hm : X.mg "isinstance" = none) (hT : X.mg (Str.ofString T.name) = none) (he : JE X E e te we) (hg : Gl X "isinstance" := by rfl) (hgT : Gl X (Str.ofString T.name) := by rfl)
    (h1 : starEach [e, .Name (Str.ofString T.name) pT] X.env = (false, eval e X.env) :: starEach [.Name (Str.ofString T.name) pT] X.env := by rfl) (h2 : starEach [.Name (Str.ofString T.name) pT] X.env = (false, eval (.Name (Str.ofString T.name) pT) X.env) :: starEach [] X.env := by rfl)
    (hpl : (backTo pos (starEach [.Name (Str.ofString T.name) pT] X.env)).any (·.1) = false := by rfl) (hK : X.K = K := by rfl) :
    JE X E (.Call (.Name "isinstance" p) [e, .Name (Str.ofString T.name) pT] [] pos) (tCB (rIsi K) (tCons te (tCons (tC (.ty T.name)) tNil))) (wIsi T we) := by
  subst hK
  have hb : bootBuiltins (Str.ofString T.name) = some (.type T.name) := by cases T <;> first | exact bt_int | exact bt_bool | exact bt_str | exact bt_tuple | exact bt_list
  have hn : Str.ofString T.name ≠ "__name__" := by cases T <;> decide
  have hd : (Str.ofString T.name == ("__debug__" : Str)) = false := by cases T <;> decide
  refine ⟨pe_callB call_isi hg hm bt_isinstance (pa_cons he.pe (pa_cons (pe_bltn (v := .ty T.name) hgT hT hb rfl hn hd) pa_nil h2) h1) (he := h1) (hpl := hpl), ?_⟩
  intro ι σ H σD S Q XX Qh r s h l lx
  refine he.ab ι σ H σD S _ XX _ r s h ?_ lx
  intro ι1 d1 S1 v1 H1 e1 r1 p1 h1
  have h1 : (match isTN T S1 d1 with
    | some b => Q (.bl b) S1
    | none => False) := h1
  split at h1
  · rename_i b e2
    obtain ⟨t, ty, k⟩ := isTN_rep r1 p1 e2
    exact ⟨v1, .ty T.name, t, .type T.name, b, rfl, .ty _, ty, k, l ι1 _ S1 _ H1 e1 r1 (rep_bl.mpr rfl) h1⟩
  · exact h1.elim
end

/-! ### own defs -/
/-- what a def promises: arguments, store, the wished end, the wished exception -/
abbrev ASp := FC
def spOf (K : PySem.W.Frag) (a : ASp) : Sp := fun vs H Q E => ∃ (ι : Ad) (ds : List D) (S : Sto) (Qa : VKD) (Xa : XKD), RelS K ι S H ∧ RepL K ι H ds vs ∧ a ds S Qa Xa ∧ LkE K ι H Qa Q ∧ LkX K ι H Xa E
structure Cal (P : Program) (w : World) (K : PySem.W.Frag) (mg : Str → Option Value) (base : Heap) (k : Nat) (x : Str) (a : ASp) : Prop where
  ex : ∃ f fd ps, FnOk P w K mg base (L2.CX P w) k f fd ps (spOf K a) ∧ mg x = some (.ref f) ∧ PySem.W.keepIn K (.ref f) = true ∧ Binds K fd ps []
theorem Cal.mono {P w K mg base k x a} (c : Cal P w K mg base k x a) {j : Nat} (h : k ≤ j) : Cal P w K mg base j x a :=
  let ⟨f, fd, ps, h1, h2⟩ := c.ex; ⟨f, fd, ps, h1.mono h, h2⟩
theorem Cal.imp {P w K mg base k x a} (c : Cal P w K mg base k x a) {b : ASp} (h : ∀ ds S Q XX, b ds S Q XX → a ds S Q XX) : Cal P w K mg base k x b :=
  let ⟨f, fd, ps, h1, h2⟩ := c.ex; ⟨f, fd, ps, h1.imp fun vs H Q E ⟨ι, ds, S, Qa, Xa, r, rl, q, l, lx⟩ => ⟨ι, ds, S, Qa, Xa, r, rl, h _ _ _ _ q, l, lx⟩, h2⟩
section
variable {X : Cx} {E : XK} {p pos : Pos} {e : Expr} {es : List Expr} {t : TA} {w : WA} {k : Nat} {x : Str} {a : ASp}
/-- the reading of a call: chosen by what is known of the def -/
def CalT (X : Cx) (k : Nat) (x : Str) (a : ASp) : Prop := True
theorem je_call {K : PySem.W.Frag} (c : Cal X.prog X.w X.K X.mg X.base k x a) (hr : Room k X.A) (hx : Passes (L2.CX X.prog X.w) X E) (ha : JA X E (e :: es) t w) (hg : Gl X x := by rfl) (hdb : (x == ("__debug__" : Str)) = false := by decide)
    (he : starEach (e :: es) X.env = (false, eval e X.env) :: starEach es X.env := by rfl) (hpl : (backTo pos (starEach es X.env)).any (·.1) = false := by rfl) (hK : X.K = K := by rfl) :
    JE X E (.Call (.Name x p) (e :: es) [] pos) (tCall (spOf K a) [] E t) (wCB a w) := by
  subst hK
  obtain ⟨f, fd, ps, F, hm, hk, hb⟩ := c.ex
  refine ⟨pe_call F hr hg hm hk hb .nil hx ha.pe hdb he hpl, ?_⟩
  intro ι σ H σD S Q XX Qh r s h l lx
  refine ha.ab ι σ H σD S _ XX _ r s h ?_ lx
  intro ι1 ds S1 vs H1 e1 r1 p1 h1
  exact ⟨ι1, ds, S1, Q, XX, r1, by rw [List.append_nil]; exact p1, h1, l.ext e1, lx.ext e1⟩
theorem je_call0 {K : PySem.W.Frag} (c : Cal X.prog X.w X.K X.mg X.base k x a) (hr : Room k X.A) (hx : Passes (L2.CX X.prog X.w) X E) (hg : Gl X x := by rfl) (hdb : (x == ("__debug__" : Str)) = false := by decide) (hK : X.K = K := by rfl) :
    JE X E (.Call (.Name x p) [] [] pos) (tCall (spOf K a) [] E tNil) (wCB a wNil) := by
  subst hK
  obtain ⟨f, fd, ps, F, hm, hk, hb⟩ := c.ex
  refine ⟨pe_call0 F hr hg hm hk hb .nil hx hdb, ?_⟩
  intro ι σ H σD S Q XX Qh r s h l lx
  exact ⟨ι, [], S, Q, XX, r, RepL.nil, h, l, lx⟩
end
end AW
/-! AW6: statements, loops, comprehensions, defs. -/
namespace AW
open PySem PySem.Spec PyProof.Rows L2

section
variable {X : Cx} {E : XK} {pos : Pos} {st : Stmt} {rest : List Stmt} {t u : TS} {w wu : WS} {e : Expr} {te : TE} {we : WE}
def wNext : WS := fun D σ S _ => D.nx σ S
def wSeq (w u : WS) : WS := fun D σ S X => w { nx := fun σ' S' => u D σ' S' X, rt := D.rt, bk := D.bk, ct := D.ct } σ S X
theorem jss_nil : JSs X E [] tNext wNext := ⟨pss_nil, fun ι σ H σD S DA XX De r s h l lx => l.nx ι σD S σ H Ext.refl r s h⟩
theorem jss_cons (h1 : JS X E st t w) (h2 : JSs X E rest u wu) : JSs X E (st :: rest) (tSeq t u) (wSeq w wu) := by
  refine ⟨pss_cons h1.pe h2.pe, ?_⟩
  intro ι σ H σD S DA XX De r s h l lx
  refine h1.ab ι σ H σD S _ XX _ r s h ⟨?_, l.rt, l.bk, l.ct⟩ lx
  intro ι1 σD1 S1 σ1 H1 e1 r1 s1 h1
  exact h2.ab ι1 σ1 H1 σD1 S1 DA XX De r1 s1 h1 (l.ext e1) (lx.ext e1)
theorem jss_one (h1 : JS X E st t w) : JSs X E [st] t w := ⟨pss_one h1.pe, h1.ab⟩
theorem js_pass : JS X E (.Pass pos) tNext wNext := ⟨ps_pass, fun ι σ H σD S DA XX De r s h l lx => l.nx ι σD S σ H Ext.refl r s h⟩
def wBreak : WS := fun D σ S _ => D.bk σ S
def wCont : WS := fun D σ S _ => D.ct σ S
theorem js_break : JS X E (.Break pos) tBreak wBreak := ⟨ps_break, fun ι σ H σD S DA XX De r s h l lx => l.bk ι σD S σ H Ext.refl r s h⟩
theorem js_continue : JS X E (.Continue pos) tCont wCont := ⟨ps_continue, fun ι σ H σD S DA XX De r s h l lx => l.ct ι σD S σ H Ext.refl r s h⟩
def wDrop (we : WE) : WS := fun D σ S X => we σ S (fun _ S1 => D.nx σ S1) X
theorem js_expr (he : JE X E e te we) (hs : swapsWith e none pos.line X.env = pure false := by rfl) : JS X E (.Expr e pos) (tDrop te) (wDrop we) := by
  refine ⟨ps_expr he.pe hs, ?_⟩
  intro ι σ H σD S DA XX De r s h l lx
  refine he.ab ι σ H σD S _ XX _ r s h ?_ lx
  intro ι1 d1 S1 v1 H1 e1 r1 p1 h1
  exact l.nx ι1 σD S1 σ H1 e1 r1 (s.mono e1) h1
def wRet (we : WE) : WS := fun D σ S X => we σ S D.rt X
theorem js_ret (he : JE X E e te we) : JS X E (.Return (some e) pos) (tRet te) (wRet we) := by
  refine ⟨ps_ret he.pe, ?_⟩
  intro ι σ H σD S DA XX De r s h l lx
  exact he.ab ι σ H σD S _ XX _ r s h l.rt lx
def wRetN : WS := fun D _ S _ => D.rt .non S
theorem js_retN : JS X E (.Return none pos) tRetN wRetN := ⟨ps_retN, fun ι σ H σD S DA XX De r s h l lx => l.rt ι .non S .non H Ext.refl r (rep_non.mpr rfl) h⟩
def wIfS (c : WT) (w u : WS) : WS := fun D σ S X => c σ S (fun b S1 => if b = true then w D σ S1 X else u D σ S1 X) X
theorem js_if {c : Expr} {a b : List Stmt} {tc : TT} {wc : WT} (hc : JT X E c tc wc) (ha : JSs X E a t w) (hb : JSs X E b u wu) : JS X E (.If c a b pos) (tIfS tc t u) (wIfS wc w wu) := by
  refine ⟨ps_if hc.pe ha.pe hb.pe, ?_⟩
  intro ι σ H σD S DA XX De r s h l lx
  refine hc.ab ι σ H σD S _ XX _ r s h ?_ lx
  intro ι1 c S1 H1 e1 r1 h1
  cases c with
  | true => exact ha.ab ι1 σ H1 σD S1 DA XX De r1 (s.mono e1) h1 (l.ext e1) (lx.ext e1)
  | false => exact hb.ab ι1 σ H1 σD S1 DA XX De r1 (s.mono e1) h1 (l.ext e1) (lx.ext e1)
/-- code that is never come to -/
def wNever : WS := fun _ _ _ _ => False
theorem js_never : JS X E st tNever wNever := ⟨ps_never, fun ι σ H σD S DA XX De r s h l lx => h.elim⟩
theorem jss_never {sts : List Stmt} : JSs X E sts tNever wNever := ⟨pss_never, fun ι σ H σD S DA XX De r s h l lx => h.elim⟩
def wSet (i : Nat) (we : WE) : WS := fun D σ S X => we σ S (fun d S1 => D.nx (σ.set i (some d)) S1) X
theorem js_set {i : Nat} {x : Str} {pos' : Pos} (hN : X.N.Nodup) (hi : X.N[i]? = some x) (hx : Loc X.env.scope x) (he : JE X E e te we) (hs : swapsWith e (some (.Name x pos')) pos.line X.env = pure false := by rfl) (hf : X.fn x = true ∨ X.env.scope.names.lookup x = some .local := by first | exact .inl rfl | exact .inr rfl | assumption) :
    JS X E (.Assign [.Name x pos'] e pos) (tAsg te (gName i)) (wSet i we) := by
  refine ⟨ps_set hN hi hx he.pe hs hf, ?_⟩
  intro ι σ H σD S DA XX De r s h l lx
  refine he.ab ι σ H σD S _ XX _ r s h ?_ lx
  intro ι1 d1 S1 v1 H1 e1 r1 p1 h1
  exact l.nx ι1 _ S1 _ H1 e1 r1 ((s.mono e1).set i p1) h1
def wPar (i j : Nat) (w : WA) : WS := fun D σ S X => w σ S (fun ds S1 => match ds with
  | [d, e] => D.nx ((σ.set i (some d)).set j (some e)) S1
  | _ => False) X
theorem js_par {i j : Nat} {x y : Str} {a b : Expr} {ta : TA} {wa : WA} {px py pt : Pos} {kt k2 pt2} (hc : X.calm = true) (hN : X.N.Nodup) (hi : X.N[i]? = some x) (hj : X.N[j]? = some y) (hij : i ≠ j)
    (hx : X.env.scope.names.lookup x = some .local) (hy : X.env.scope.names.lookup y = some .local) (ha : JA X E [a, b] ta wa)
    (hw : swappedStores [.Tuple [.Name x px, .Name y py] kt pt] (.Tuple [a, b] k2 pt2) X.env = pure (some [x, y]) := by rfl)
    (hs : swapsWithSole [.Tuple [.Name x px, .Name y py] kt pt] (.Tuple [a, b] k2 pt2) pos.line X.env = pure false := by rfl) :
    JS X E (.Assign [.Tuple [.Name x px, .Name y py] kt pt] (.Tuple [a, b] k2 pt2) pos) (tPar i j ta) (wPar i j wa) := by
  refine ⟨ps_par hc hN hi hj hij hx hy ha.pe hw hs, ?_⟩
  intro ι σ H σD S DA XX De r s h l lx
  refine ha.ab ι σ H σD S _ XX _ r s h ?_ lx
  intro ι1 ds S1 vs H1 e1 r1 p1 h1
  rcases ds with _ | ⟨d, _ | ⟨d2, _ | _⟩⟩ <;> try exact h1.elim
  obtain ⟨v, u, ev, q1, q2⟩ := repL2 p1
  subst ev
  exact ⟨v, u, rfl, l.nx ι1 _ S1 _ H1 e1 r1 (((s.mono e1).set i q1).set j q2) h1⟩
/-- name op= e -/
def wAug (i : Nat) (f : F2) (we : WE) : WS := fun D σ S X => match σ[i]? with
  | some (some d) => we σ S (fun y S1 => f d y S1 (fun z S2 => D.nx (σ.set i (some z)) S2) X) X
  | _ => False
theorem js_aug {i : Nat} {x : Str} {op : Operator} {ti : TIp} {f : F2} {pos' : Pos} (hN : X.N.Nodup) (hi : X.N[i]? = some x) (hx : Loc X.env.scope x) (he : JE X E e te we) (ho : PIp X op ti) (hf2 : AbsR2 X.K E ti f) (hf : X.fn x = true ∨ X.env.scope.names.lookup x = some .local := by first | exact .inl rfl | exact .inr rfl | assumption) :
    JS X E (.AugAssign (.Name x pos') op e pos) (tAug i te ti) (wAug i f we) := by
  refine ⟨ps_aug hN hi hx he.pe ho hf, ?_⟩
  intro ι σ H σD S DA XX De r s h l lx
  have h : (match σD[i]? with
    | some (some d) => we σD S (fun y S1 => f d y S1 (fun z S2 => DA.nx (σD.set i (some z)) S2) XX) XX
    | _ => False) := h
  split at h
  · rename_i d ed
    obtain ⟨v, h1, h2⟩ := s.2 i d ed
    refine ⟨v, h1, ?_⟩
    refine he.ab ι σ H σD S _ XX _ r s h ?_ lx
    intro ι1 y S1 u H1 e1 r1 p1 h3
    refine hf2 ι1 H1 S1 d y v u _ XX _ r1 (Rep.mono e1 _ _ h2) p1 h3 ?_ (lx.ext e1)
    intro ι2 z S2 vz H2 e2 r2 p2 h4
    exact l.nx ι2 _ S2 _ H2 (e1.trans e2) r2 ((s.mono (e1.trans e2)).set i p2) h4
  · exact h.elim
def rIAddAll : R2 := fun x y H Q => (rI0 fun i j => .int (i + j)) x y H Q ∨ (∃ i j, x = .str i ∧ y = .str j ∧ i.length + j.length ≤ sizeLine ∧ Q (.str (i ++ j)) H)
theorem ip_addAll : PIp X .Add rIAddAll := iop_add.or iop_add_str
def fIAdd : F2 := fun x y S Q _ => match x, y with
  | .int i, .int j => Q (.int (i + j)) S
  | .str i, .str j => i.length + j.length ≤ sizeLine ∧ Q (.str (i ++ j)) S
  | _, _ => False
theorem abs_iadd {K : PySem.W.Frag} : AbsR2 K E rIAddAll fIAdd := by
  intro ι H S x y v u Q XX Qh r hx hy h l lx
  cases x <;> cases y <;> try exact h.elim
  · rename_i i j
    rw [rep_int] at hx hy
    exact .inl ⟨i, j, hx, hy, l ι (.int (i + j)) S _ H Ext.refl r (rep_int.mpr rfl) h⟩
  · rename_i i j
    rw [rep_str] at hx hy
    exact .inr ⟨i, j, hx, hy, h.1, l ι (.str (i ++ j)) S _ H Ext.refl r (rep_str.mpr rfl) h.2⟩
theorem ip_subA : PIp X .Sub (rI0 fun i j => .int (i - j)) := iop_sub

/-! ### targets -/
abbrev WG := D → ASt → Sto → (ASt → Sto → Prop) → XKD → Prop
def SameOff (vs : List Nat) (σ σ' : L2.St) : Prop := σ'.length = σ.length ∧ ∀ i, i ∉ vs → σ'[i]? = σ[i]?
theorem SameOff.refl {vs : List Nat} {σ : L2.St} : SameOff vs σ σ := ⟨rfl, fun _ _ => rfl⟩
theorem SameOff.trans {vs : List Nat} {σ σ1 σ2 : L2.St} (a : SameOff vs σ σ1) (b : SameOff vs σ1 σ2) : SameOff vs σ σ2 := ⟨b.1.trans a.1, fun i h => (b.2 i h).trans (a.2 i h)⟩
def LkG (K : PySem.W.Frag) (ι : Ad) (H : Hp) (vs : List Nat) (σ : L2.St) (Q : ASt → Sto → Prop) (Qh : L2.St → Hp → Prop) : Prop :=
  ∀ ι' σD' S' σ' H', Ext K ι H ι' H' → RelS K ι' S' H' → Slots K ι' H' σD' σ' → SameOff vs σ σ' → Q σD' S' → Qh σ' H'
def AbsG (K : PySem.W.Frag) (E : XK) (vs : List Nat) (g : TG) (wg : WG) : Prop := ∀ (ι : Ad) (σ : L2.St) (H : Hp) (σD : ASt) (S : Sto) (d : D) (v : V) (Q : ASt → Sto → Prop) (X : XKD) (Qh : L2.St → Hp → Prop),
  RelS K ι S H → Slots K ι H σD σ → Rep K ι H d v → wg d σD S Q X → LkG K ι H vs σ Q Qh → LkX K ι H X E → g v σ H Qh
structure JG (X : Cx) (E : XK) (vs : List Nat) (tg : Expr) (g : TG) (wg : WG) : Prop where
  pe : PG X tg g
  ab : AbsG X.K E vs g wg
abbrev WGs := List D → ASt → Sto → (ASt → Sto → Prop) → XKD → Prop
def AbsGs (K : PySem.W.Frag) (E : XK) (vs : List Nat) (g : TGs) (wg : WGs) : Prop := ∀ (ι : Ad) (σ : L2.St) (H : Hp) (σD : ASt) (S : Sto) (ds : List D) (us : List V) (Q : ASt → Sto → Prop) (X : XKD) (Qh : L2.St → Hp → Prop),
  RelS K ι S H → Slots K ι H σD σ → RepL K ι H ds us → wg ds σD S Q X → LkG K ι H vs σ Q Qh → LkX K ι H X E → g us σ H Qh
structure JGs (X : Cx) (E : XK) (vs : List Nat) (tgs : List Expr) (g : TGs) (wg : WGs) : Prop where
  pe : PGs X tgs g
  ab : AbsGs X.K E vs g wg
def wgName (i : Nat) : WG := fun d σ S Q _ => Q (σ.set i (some d)) S
theorem jg_name {vs : List Nat} (i : Nat) {x : Str} (hN : X.N.Nodup) (hi : X.N[i]? = some x) (hx : Loc X.env.scope x) (hv : i ∈ vs := by decide) (hf : X.fn x = true ∨ X.env.scope.names.lookup x = some .local := by first | exact .inl rfl | exact .inr rfl | assumption) : JG X E vs (.Name x pos) (gName i) (wgName i) := by
  refine ⟨pg_name hN hi hx hf, ?_⟩
  intro ι σ H σD S d v Q XX Qh r s p h l lx
  refine l ι _ S _ H Ext.refl r (s.set i p) ⟨by rw [List.length_set], fun j hj => ?_⟩ h
  rw [List.getElem?_set_ne (by rintro rfl; exact hj hv)]
def wgNil : WGs := fun ds σ S Q _ => match ds with
  | [] => Q σ S
  | _ => False
def wgCons (wg : WG) (wgs : WGs) : WGs := fun ds σ S Q X => match ds with
  | d :: r => wg d σ S (fun σ' S' => wgs r σ' S' Q X) X
  | _ => False
theorem jgs_nil {vs : List Nat} : JGs X E vs [] gNil wgNil := by
  refine ⟨pgs_nil, ?_⟩
  intro ι σ H σD S ds us Q XX Qh r s p h l lx
  cases ds with
  | nil =>
    unfold RepL at p
    exact ⟨p, l ι _ S _ H Ext.refl r s SameOff.refl h⟩
  | cons => exact h.elim
theorem jgs_cons {vs : List Nat} {es : List Expr} {g : TG} {gs : TGs} {wg : WG} {wgs : WGs} (h1 : JG X E vs e g wg) (h2 : JGs X E vs es gs wgs)
    (hs : (assignEach (e :: es) X.env).map (·.2) = assign e X.env :: (assignEach es X.env).map (·.2) := by rfl) : JGs X E vs (e :: es) (gCons g gs) (wgCons wg wgs) := by
  refine ⟨pgs_cons h1.pe h2.pe hs, ?_⟩
  intro ι σ H σD S ds us Q XX Qh r s p h l lx
  cases ds with
  | nil => exact h.elim
  | cons d ds =>
    unfold RepL at p
    obtain ⟨x, rr, rfl, p1, p2⟩ := p
    refine ⟨x, rr, rfl, ?_⟩
    refine h1.ab ι σ H σD S d x _ XX _ r s p1 h ?_ lx
    intro ι1 σD1 S1 σ1 H1 e1 r1 s1 o1 q1
    refine h2.ab ι1 σ1 H1 σD1 S1 ds rr Q XX Qh r1 s1 (RepL.mono e1 _ _ p2) q1 ?_ (lx.ext e1)
    intro ι2 σD2 S2 σ2 H2 e2 r2 s2 o2 q2
    exact l ι2 σD2 S2 σ2 H2 (e1.trans e2) r2 s2 (o1.trans o2) q2
def wgTup (n : Nat) (wgs : WGs) : WG := fun d σ S Q X => match d with
  | .tup ds => ds.length = n ∧ wgs ds σ S Q X
  | _ => False
theorem jg_tup {K : PySem.W.Frag} {vs : List Nat} {es : List Expr} {k : Nat} {gs : TGs} {wgs : WGs} {n : Nat} (hc : X.calm = true) (h : JGs X E vs es gs wgs)
    (hn : (assignEach es X.env).length = n := by rfl) (hst : (assignEach es X.env).findIdx? (·.1) = none := by rfl) (hK : X.K = K := by rfl) : JG X E vs (.Tuple es k pos) (gTup K n gs) (wgTup n wgs) := by
  subst hK
  refine ⟨pg_tup hc h.pe hn hst, ?_⟩
  intro ι σ H σD S d v Q XX Qh r s p hq l lx
  cases d <;> try exact hq.elim
  rename_i ds
  obtain ⟨a, xs, rfl, q1, q2⟩ := rep_tup.mp p
  exact ⟨a, xs, rfl, q1, by rw [← RepL.length q2]; exact hq.1, h.ab ι σ H σD S ds xs Q XX Qh r s q2 hq.2 l lx⟩
/-- o[i] = .. of a cell -/
def fPut (o i d : D) (S : Sto) (Q : Sto → Prop) : Prop := match o, i with
  | .ref n, .int k => match S[n]? with
    | some (.lst ds) => match ixN ds.length k with
      | some j => Q (S.set n (.lst (ds.set j d)))
      | none => False
    | _ => False
  | _, _ => False
def wgSub (wo wi : WE) : WG := fun d σ S Q X => wo σ S (fun o S1 => wi σ S1 (fun i S2 => fPut o i d S2 (Q σ)) X) X
theorem put_of {K ι H} {S : Sto} (r : RelS K ι S H) {o i d : D} {vo vi v : V} {Q : Sto → Prop} {Qh : Hp → Prop} (h1 : Rep K ι H o vo) (h2 : Rep K ι H i vi) (h3 : Rep K ι H d v) (h : fPut o i d S Q)
    (l : ∀ S' H', Ext K ι H ι H' → RelS K ι S' H' → Q S' → Qh H') : rSetL vo vi v H Qh := by
  unfold fPut at h
  split at h
  · rename_i n k
    split at h
    · rename_i ds hc
      split at h
      · rename_i j hj
        obtain ⟨a, rfl, ha⟩ := rep_ref.mp h1
        rw [rep_int] at h2
        obtain ⟨xs, q1, q2⟩ := r.cel n _ a hc ha
        have ex := Ext.wr (o' := .lst (xs.set j v)) r (List.mem_of_getElem? ha) q1 True.intro
        refine ⟨a, xs, k, j, rfl, h2, q1, by rw [← RepL.length q2]; exact hj, ?_⟩
        exact l _ _ ex (r.wr (c := .lst (ds.set j d)) ha q1 True.intro ⟨_, upd_same, RepL.set j (RepL.mono ex _ _ q2) (Rep.mono ex _ _ h3)⟩) h
      · exact h.elim
    · exact h.elim
  · exact h.elim
theorem jg_sub {vs : List Nat} {o i : Expr} {to ti : TE} {wo wi : WE} (ho : JE X E o to wo) (hi : JE X E i ti wi)
    (ha : ∀ v, assign (.Subscript o i pos) X.env v = (do
      let ov ← holding [v] (eval o X.env)
      let iv ← holding [v, ov] (eval i X.env)
      standAt pos
      holding [v, ov, iv] (setItem ov iv v)
      release [v, ov, iv] []) := by intro _; rfl) : JG X E vs (.Subscript o i pos) (gSub to ti rSetL) (wgSub wo wi) := by
  refine ⟨pg_sub ho.pe hi.pe set_list ha, ?_⟩
  intro ι σ H σD S d v Q XX Qh r s p h l lx
  refine ho.ab ι σ H σD S _ XX _ r s h ?_ lx
  intro ι1 o1 S1 vo H1 e1 r1 p1 h1
  refine hi.ab ι1 σ H1 σD S1 _ XX _ r1 (s.mono e1) h1 ?_ (lx.ext e1)
  intro ι2 i2 S2 vi H2 e2 r2 p2 h2
  exact put_of r2 (Rep.mono e2 _ _ p1) p2 (Rep.mono (e1.trans e2) _ _ p) h2 fun S' H' ex r' q => l ι2 σD S' σ H' ((e1.trans e2).trans ex) r' (s.mono ((e1.trans e2).trans ex)) SameOff.refl q
def wAsg (we : WE) (wg : WG) : WS := fun D σ S X => we σ S (fun d S1 => wg d σ S1 D.nx X) X
theorem js_asg {vs : List Nat} {tg : Expr} {g : TG} {wg : WG} (he : JE X E e te we) (hg : JG X E vs tg g wg) (hs : swapsWithSole [tg] e pos.line X.env = pure false := by rfl) (hw : swappedStores [tg] e X.env = pure none := by rfl)
    (h1 : (assignEach [tg] X.env).map (·.2) = [assign tg X.env] := by rfl) : JS X E (.Assign [tg] e pos) (tAsg te g) (wAsg we wg) := by
  refine ⟨ps_asg he.pe hg.pe hs hw h1, ?_⟩
  intro ι σ H σD S DA XX De r s h l lx
  refine he.ab ι σ H σD S _ XX _ r s h ?_ lx
  intro ι1 d1 S1 v1 H1 e1 r1 p1 h1
  refine hg.ab ι1 σ H1 σD S1 d1 v1 _ XX _ r1 (s.mono e1) p1 h1 ?_ (lx.ext e1)
  intro ι2 σD2 S2 σ2 H2 e2 r2 s2 o2 q2
  exact l.nx ι2 σD2 S2 σ2 H2 (e1.trans e2) r2 s2 q2

/-! ### while -/
def wWhile (c : WT) (b : WS) : WS := fun D σ S X => ∃ W : Nat → ASt → Sto → Prop, (∃ m, W m σ S) ∧ ∀ m σ S, W m σ S →
  c σ S (fun k S1 => if k = true then b { nx := fun σ' S' => ∃ m', m' < m ∧ W m' σ' S', rt := D.rt, bk := D.nx, ct := fun σ' S' => ∃ m', m' < m ∧ W m' σ' S' } σ S1 X else D.nx σ S1) X
theorem js_while {c : Expr} {body : List Stmt} {tc : TT} {wc : WT} (hp : PassesOwn (model X.prog X.w) X.A X.env X.xe) (hc : JT X E c tc wc) (hb : JSs X E body t w) : JS X E (.While c body [] pos) (tWhile tc t) (wWhile wc w) := by
  refine ⟨ps_while hp hc.pe hb.pe, ?_⟩
  intro ι σ H σD S DA XX De r s h l lx
  obtain ⟨W, ⟨m0, w0⟩, turn⟩ := h
  refine ⟨fun m σ' H' => ∃ ι' σD' S', Ext X.K ι H ι' H' ∧ RelS X.K ι' S' H' ∧ Slots X.K ι' H' σD' σ' ∧ W m σD' S', ⟨m0, ι, σD, S, Ext.refl, r, s, w0⟩, ?_⟩
  rintro m σ1 H1 ⟨ι1, σD1, S1, e1, r1, s1, w1⟩
  refine hc.ab ι1 σ1 H1 σD1 S1 _ XX _ r1 s1 (turn m σD1 S1 w1) ?_ (lx.ext e1)
  intro ι2 c S2 H2 e2 r2 h2
  cases c with
  | true =>
    rw [if_pos rfl] at h2 ⊢
    refine ⟨fun σ' H' => ∃ ι' σD' S', Ext X.K ι H ι' H' ∧ RelS X.K ι' S' H' ∧ Slots X.K ι' H' σD' σ' ∧ ∃ m', m' < m ∧ W m' σD' S', fun σ' H' ⟨ι', σD', S', a, b, c, m', d, e⟩ => ⟨m', d, ι', σD', S', a, b, c, e⟩, ?_⟩
    refine hb.ab ι2 σ1 H2 σD1 S2 _ XX _ r2 (s1.mono e2) h2 ⟨?_, (l.ext (e1.trans e2)).rt, (l.ext (e1.trans e2)).nx, ?_⟩ (lx.ext (e1.trans e2))
    · intro ι3 σD3 S3 σ3 H3 e3 r3 s3 q3
      exact ⟨ι3, σD3, S3, (e1.trans e2).trans e3, r3, s3, q3⟩
    · intro ι3 σD3 S3 σ3 H3 e3 r3 s3 q3
      exact ⟨ι3, σD3, S3, (e1.trans e2).trans e3, r3, s3, q3⟩
  | false =>
    rw [if_neg Bool.false_ne_true] at h2 ⊢
    exact l.nx ι2 σD1 S2 σ1 H2 (e1.trans e2) r2 (s1.mono e2) h2
end
end AW
/-! AW7: for, comprehensions, defs, the law's entry. -/
namespace AW
open PySem PySem.Spec PyProof.Rows L2

/-- what is walked -/
inductive Src where
  | seq (ds : List D)
  | cel (n : Nat)
  | enc (n : Nat)
def Src.at : Src → Nat → Sto → Option (Option D)
  | .seq ds, i, _ => some ds[i]?
  | .cel n, i, S => match S[n]? with
    | some (.lst ds) => some ds[i]?
    | _ => none
  | .enc n, i, S => match S[n]? with
    | some (.lst ds) => some (ds[i]?.map fun d => .tup [.int (i : Nat), d])
    | _ => none
def SimIt (K : PySem.W.Frag) (ι : Ad) (H : Hp) (J : It) (src : Src) : Prop := ∀ (i : Nat) (ι' : Ad) (S' : Sto) (H' : Hp), Ext K ι H ι' H' → RelS K ι' S' H' →
  (∀ d, src.at i S' = some (some d) → J.go i H' ∧ ∀ x H'', J.yld i H' x H'' → Ext K ι' H' ι' H'' ∧ RelS K ι' S' H'' ∧ Rep K ι' H'' d x) ∧ (src.at i S' = some none → J.stop i H')
theorem SimIt.ext {K ι H ι1 H1 J src} (h : SimIt K ι H J src) (e : Ext K ι H ι1 H1) : SimIt K ι1 H1 J src := fun i ι' S' H' x r => h i ι' S' H' (e.trans x) r
abbrev WI := ASt → Sto → (Src → Sto → Prop) → XKD → Prop
def AbsI (K : PySem.W.Frag) (E : XK) (wi : TI) (w : WI) : Prop := ∀ (ι : Ad) (σ : L2.St) (H : Hp) (σD : ASt) (S : Sto) (Q : Src → Sto → Prop) (X : XKD) (R : It → Hp → Prop),
  RelS K ι S H → Slots K ι H σD σ → w σD S Q X → (∀ ι' src S' J H', Ext K ι H ι' H' → RelS K ι' S' H' → SimIt K ι' H' J src → Q src S' → R J H') → LkX K ι H X E → wi σ H R
structure JI (X : Cx) (E : XK) (tg iter : Expr) (wi : TI) (w : WI) : Prop where
  pe : PI X tg iter wi
  ab : AbsI X.K E wi w

def srcOf (S : Sto) : D → Option Src
  | .tup ds => some (.seq ds)
  | .fl ds => some (.seq ds)
  | .scr ds => some (.seq ds)
  | .ref n => match S[n]? with
    | some (.lst _) => some (.cel n)
    | _ => none
  | _ => none
def rangeD (lo : Int) (n : Nat) : List D := (List.range n).map fun k => .int (lo + (k : Nat))
theorem simL {K ι H} {a : Addr} {xs : List V} {ds : List D} (hs : ∀ ι' H', Ext K ι H ι' H' → SqL K H' a xs) (hl : RepL K ι H ds xs) : SimIt K ι H (Itl K a) (.seq ds) := by
  intro i ι' S' H' e r
  have hl' := RepL.mono e _ _ hl
  refine ⟨fun d hd => ?_, fun hd => ?_⟩
  · have hd : ds[i]? = some d := Option.some.inj hd
    obtain ⟨x, hx, px⟩ := RepL.get hl' hd
    refine ⟨⟨xs, x, hs ι' H' e, hx⟩, fun y H'' hy => ?_⟩
    obtain ⟨e1, e2⟩ := hy
    subst e1
    have := e2 xs (hs ι' _ e)
    rw [hx] at this
    cases this
    exact ⟨Ext.refl, r, px⟩
  · have hd : ds[i]? = none := Option.some.inj hd
    refine ⟨xs, hs ι' H' e, ?_⟩
    rw [← RepL.length hl]
    exact List.getElem?_eq_none_iff.mp hd
theorem simT {K ι H} {a : Addr} {xs : List V} {ds : List D} (hs : SqT K H a xs) (hl : RepL K ι H ds xs) : SimIt K ι H (Itt K a) (.seq ds) := by
  intro i ι' S' H' e r
  have hl' := RepL.mono e _ _ hl
  refine ⟨fun d hd => ?_, fun hd => ?_⟩
  · have hd : ds[i]? = some d := Option.some.inj hd
    obtain ⟨x, hx, px⟩ := RepL.get hl' hd
    refine ⟨⟨xs, x, e.tup a xs hs, hx⟩, fun y H'' hy => ?_⟩
    obtain ⟨e1, e2⟩ := hy
    subst e1
    have := e2 xs (e.tup a xs hs)
    rw [hx] at this
    cases this
    exact ⟨Ext.refl, r, px⟩
  · have hd : ds[i]? = none := Option.some.inj hd
    refine ⟨xs, e.tup a xs hs, ?_⟩
    rw [← RepL.length hl]
    exact List.getElem?_eq_none_iff.mp hd
theorem simC {K ι H} {a : Addr} {n : Nat} (h : ι.cells[n]? = some a) : SimIt K ι H (Itl K a) (.cel n) := by
  intro i ι' S' H' e r
  refine ⟨fun d hd => ?_, fun hd => ?_⟩
  · have hd : (match S'[n]? with
      | some (.lst ds) => some ds[i]?
      | _ => none) = some (some d) := hd
    split at hd
    · rename_i ds hc
      have hd : ds[i]? = some d := Option.some.inj hd
      obtain ⟨xs, q1, q2⟩ := r.cel n _ a hc (e.get h)
      obtain ⟨x, hx, px⟩ := RepL.get q2 hd
      refine ⟨⟨xs, x, SqL.of q1, hx⟩, fun y H'' hy => ?_⟩
      obtain ⟨e1, e2⟩ := hy
      subst e1
      have := e2 xs (SqL.of q1)
      rw [hx] at this
      cases this
      exact ⟨Ext.refl, r, px⟩
    · cases hd
  · have hd : (match S'[n]? with
      | some (.lst ds) => some ds[i]?
      | _ => none) = some none := hd
    split at hd
    · rename_i ds hc
      have hd : ds[i]? = none := Option.some.inj hd
      obtain ⟨xs, q1, q2⟩ := r.cel n _ a hc (e.get h)
      refine ⟨xs, SqL.of q1, ?_⟩
      rw [← RepL.length q2]
      exact List.getElem?_eq_none_iff.mp hd
    · cases hd
theorem simR {K ι H} {lo : Int} {n : Nat} : SimIt K ι H (Itr lo n) (.seq (rangeD lo n)) := by
  intro i ι' S' H' e r
  have hlen : (rangeD lo n).length = n := by unfold rangeD; simp
  refine ⟨fun d hd => ?_, fun hd => ?_⟩
  · have hd : (rangeD lo n)[i]? = some d := Option.some.inj hd
    have hi : i < n := by rw [← hlen]; exact (List.getElem?_eq_some_iff.mp hd).1
    have ed : d = .int (lo + (i : Nat)) := by
      unfold rangeD at hd
      rw [List.getElem?_map, List.getElem?_range hi] at hd
      exact (Option.some.inj hd).symm
    subst ed
    refine ⟨hi, fun y H'' hy => ?_⟩
    obtain ⟨e1, e2⟩ := hy
    subst e1
    exact ⟨Ext.refl, r, rep_int.mpr e2⟩
  · have hd : (rangeD lo n)[i]? = none := Option.some.inj hd
    have := List.getElem?_eq_none_iff.mp hd
    rw [hlen] at this
    exact this

section
variable {X : Cx} {E : XK} {tg : Expr} {pos p : Pos}
/-- a list or a tuple, walked -/
def iItems (K : PySem.W.Frag) (tl : TE) : TI := fun σ H R => tl σ H fun x H1 => ∃ a, x = .ref a ∧ (((∃ xs, SqL K H1 a xs) ∧ R (Itl K a) H1) ∨ ((∃ xs, SqT K H1 a xs) ∧ R (Itt K a) H1))
theorem pi_items {l : Expr} {tl : TE} (hl : PE X l tl) : PI X tg l (iItems X.K tl) := by
  refine ⟨fun pins s σ H R I h => ?_⟩
  refine thn (hl.run pins s σ H _ I h) fun v s1 ⟨x, H1, I1, r1, q1⟩ => ?_
  obtain ⟨a, e, q⟩ := q1
  subst e
  cases r1
  rcases q with ⟨⟨xs, hq⟩, q⟩ | ⟨⟨xs, hq⟩, q⟩
  · obtain ⟨its, rv, p, hz⟩ := I1.list hq
    refine wpAny_pyIter_list p.isList ?_
    refine ⟨s1.heap.objs.size, [s1.heap.objs.size], _, _, H1, rfl, I1.kept (t' := s1.toks) fun b o e => Heap.get?_push_of_some _ e, turn_list a _, ⟨_, Heap.get?_push_size _ rfl, rfl, rfl⟩, fun b hb => ?_, q⟩
    have e : b = s1.heap.objs.size := by simpa using hb
    subst e
    exact I1.fpOk (Nat.le_refl _) (I1.hok.fresh (Nat.le_refl _))
  · obtain ⟨its, rv, p, hz⟩ := I1.tuple hq
    refine wpAny_pyIter_tuple (show s1.heap.IsTuple a its.toArray from p) ?_
    refine ⟨s1.heap.objs.size, [s1.heap.objs.size], _, _, H1, rfl, I1.kept (t' := s1.toks) fun b o e => Heap.get?_push_of_some _ e, turn_tuple a _, ⟨_, Heap.get?_push_size _ rfl, rfl, rfl⟩, fun b hb => ?_, q⟩
    have e : b = s1.heap.objs.size := by simpa using hb
    subst e
    exact I1.fpOk (Nat.le_refl _) (I1.hok.fresh (Nat.le_refl _))
def wiItems (we : WE) : WI := fun σ S Q X => we σ S (fun d S1 => match d with
  | .tup ds => Q (.seq ds) S1
  | .fl ds => Q (.seq ds) S1
  | .ref n => match S1[n]? with
    | some (.lst _) => Q (.cel n) S1
    | _ => False
  | _ => False) X
theorem ji_items {K : PySem.W.Frag} {l : Expr} {tl : TE} {wl : WE} (hl : JE X E l tl wl) (hK : X.K = K := by rfl) : JI X E tg l (iItems K tl) (wiItems wl) := by
  subst hK
  refine ⟨pi_items hl.pe, ?_⟩
  intro ι σ H σD S Q XX R r s h l lx
  refine hl.ab ι σ H σD S _ XX _ r s h ?_ lx
  intro ι1 d1 S1 v1 H1 e1 r1 p1 h1
  cases d1 with
  | tup ds =>
    obtain ⟨a, xs, rfl, q1, q2⟩ := rep_tup.mp p1
    exact ⟨a, rfl, .inr ⟨⟨xs, q1⟩, l ι1 _ S1 _ H1 e1 r1 (simT q1 q2) h1⟩⟩
  | fl ds =>
    obtain ⟨a, xs, rfl, na, q1, q2⟩ := rep_fl.mp p1
    exact ⟨a, rfl, .inl ⟨⟨xs, SqL.of q1⟩, l ι1 _ S1 _ H1 e1 r1 (simL (fun ι' H' e => SqL.of (e.frz a xs na q1).2) q2) h1⟩⟩
  | ref n =>
    obtain ⟨a, rfl, ha⟩ := rep_ref.mp p1
    have h1 : (match S1[n]? with
      | some (.lst _) => Q (.cel n) S1
      | _ => False) := h1
    split at h1
    · rename_i ds hc
      obtain ⟨xs, q1, q2⟩ := r1.cel n _ a hc ha
      exact ⟨a, rfl, .inl ⟨⟨xs, SqL.of q1⟩, l ι1 _ S1 _ H1 e1 r1 (simC ha) h1⟩⟩
    · exact h1.elim
  | _ => exact h1.elim
def wiRange1 (w : WA) : WI := fun σ S Q X => w σ S (fun ds S1 => match ds with
  | [.int j] => (-(2 ^ 62) ≤ j ∧ j < 2 ^ 62) ∧ Q (.seq (rangeD 0 j.toNat)) S1
  | _ => False) X
def wiRange2 (w : WA) : WI := fun σ S Q X => w σ S (fun ds S1 => match ds with
  | [.int i, .int j] => (-(2 ^ 62) ≤ i ∧ i < 2 ^ 62 ∧ -(2 ^ 62) ≤ j ∧ j < 2 ^ 62) ∧ Q (.seq (rangeD i (j - i).toNat)) S1
  | _ => False) X
theorem ji_range1 {a : Expr} {ta : TA} {wa : WA} (hm : X.mg "range" = none) (ha : JA X E [a] ta wa) (hg : Gl X "range" := by rfl) (hs : starEach [a] X.env = [(false, eval a X.env)] := by rfl) : JI X E tg (.Call (.Name "range" p) [a] [] pos) (iRng1 ta) (wiRange1 wa) := by
  refine ⟨pi_range1 hg hm ha.pe hs, ?_⟩
  intro ι σ H σD S Q XX R r s h l lx
  refine ha.ab ι σ H σD S _ XX _ r s h ?_ lx
  intro ι1 ds S1 vs H1 e1 r1 p1 h1
  rcases ds with _ | ⟨d, _ | ⟨d2, r2⟩⟩
  · exact h1.elim
  · cases d <;> try exact h1.elim
    rename_i j
    obtain ⟨v, ev, q1⟩ := repL1 p1
    subst ev
    rw [rep_int] at q1
    subst q1
    exact ⟨j, rfl, h1.1.1, h1.1.2, l ι1 _ S1 _ H1 e1 r1 simR h1.2⟩
  · cases d <;> exact h1.elim
theorem ji_range2 {a b : Expr} {ta : TA} {wa : WA} (hm : X.mg "range" = none) (ha : JA X E [a, b] ta wa) (hg : Gl X "range" := by rfl) (hs : starEach [a, b] X.env = [(false, eval a X.env), (false, eval b X.env)] := by rfl) (hs2 : starEach [b] X.env = [(false, eval b X.env)] := by rfl) : JI X E tg (.Call (.Name "range" p) [a, b] [] pos) (iRng2 ta) (wiRange2 wa) := by
  refine ⟨pi_range2 hg hm ha.pe hs hs2, ?_⟩
  intro ι σ H σD S Q XX R r s h l lx
  refine ha.ab ι σ H σD S _ XX _ r s h ?_ lx
  intro ι1 ds S1 vs H1 e1 r1 p1 h1
  rcases ds with _ | ⟨d, _ | ⟨d2, _ | _⟩⟩ <;> try exact h1.elim
  · cases d <;> exact h1.elim
  · cases d <;> cases d2 <;> try exact h1.elim
    rename_i i j
    obtain ⟨v, u, ev, q1, q2⟩ := repL2 p1
    subst ev
    rw [rep_int] at q1 q2
    subst q1 q2
    exact ⟨i, j, rfl, h1.1, l ι1 _ S1 _ H1 e1 r1 simR h1.2⟩
  · cases d <;> cases d2 <;> exact h1.elim
end

/-! ### for -/
/-- over a sequence that is known -/
def forL (wg : WG) (b : WS) (D0 : AE) (X : XKD) : List D → ASt → Sto → Prop
  | [], σ, S => D0.nx σ S
  | d :: ds, σ, S => wg d σ S (fun σ1 S1 => b { nx := fun σ2 S2 => forL wg b D0 X ds σ2 S2, rt := D0.rt, bk := D0.nx, ct := fun σ2 S2 => forL wg b D0 X ds σ2 S2 } σ1 S1 X) X
/-- over a cell, as it stands at each turn -/
def forC (wg : WG) (b : WS) (D0 : AE) (X : XKD) (src : Src) : Nat → Nat → ASt → Sto → Prop
  | 0, i, σ, S => src.at i S = some none ∧ D0.nx σ S
  | k + 1, i, σ, S => match src.at i S with
    | some (some d) => wg d σ S (fun σ1 S1 => b { nx := fun σ2 S2 => forC wg b D0 X src k (i + 1) σ2 S2, rt := D0.rt, bk := D0.nx, ct := fun σ2 S2 => forC wg b D0 X src k (i + 1) σ2 S2 } σ1 S1 X) X
    | _ => False
def cellLen (S : Sto) (n : Nat) : Nat := match S[n]? with
  | some (.lst ds) => ds.length
  | _ => 0
def wFor (wi : WI) (wg : WG) (b : WS) : WS := fun D σ S X => wi σ S (fun src S1 => match src with
  | .seq ds => forL wg b D X ds σ S1
  | .cel n => forC wg b D X (.cel n) (cellLen S1 n) 0 σ S1
  | .enc n => forC wg b D X (.enc n) (cellLen S1 n) 0 σ S1) X
section
variable {X : Cx} {E : XK} {tg iter : Expr} {pos p : Pos} {body : List Stmt} {t : TS} {w : WS} {wi : TI} {wI : WI} {g : TG} {wg : WG}
theorem js_for {vs : List Nat} (hp : PassesOwn (model X.prog X.w) X.A X.env X.xe) (hc : X.calm = true) (hi : JI X E tg iter wi wI) (hg : JG X E vs tg g wg) (hb : JSs X E body t w)
    (hs : ∀ x, foldedSetIterable iter X.env x = pure x := by intro _; rfl) : JS X E (.For tg iter body [] pos) (tFor wi g t) (wFor wI wg w) := by
  refine ⟨ps_for hp hc hi.pe hg.pe hb.pe hs, ?_⟩
  intro ι σ H σD S DA XX De r s h l lx
  refine hi.ab ι σ H σD S _ XX _ r s h ?_ lx
  intro ι1 src S1 J H1 e1 r1 sim h1
  -- one turn: from the rest that is wished (Z) at turn i
  have turn : ∀ (d : D) (i : Nat) (Z : ASt → Sto → Prop) (M : L2.St → Hp → Prop) (ι2 : Ad) (σD2 : ASt) (S2 : Sto) (σ2 : L2.St) (H2 : Hp), Ext X.K ι1 H1 ι2 H2 → RelS X.K ι2 S2 H2 → Slots X.K ι2 H2 σD2 σ2 → src.at i S2 = some (some d) →
      wg d σD2 S2 (fun σ1 S1 => w { nx := Z, rt := DA.rt, bk := DA.nx, ct := Z } σ1 S1 XX) XX → (∀ ι3 σD3 S3 σ3 H3, Ext X.K ι1 H1 ι3 H3 → RelS X.K ι3 S3 H3 → Slots X.K ι3 H3 σD3 σ3 → Z σD3 S3 → M σ3 H3) →
      J.go i H2 ∧ ∀ x H', J.yld i H2 x H' → g x σ2 H' fun σ3 H3 => t { De with nx := M, ct := M, bk := De.nx } σ3 H3 := by
    intro d i Z M ι2 σD2 S2 σ2 H2 e2 r2 s2 hd hq hM
    obtain ⟨go, yl⟩ := (sim i ι2 S2 H2 e2 r2).1 d hd
    refine ⟨go, fun x H' hy => ?_⟩
    obtain ⟨e3, r3, p3⟩ := yl x H' hy
    refine hg.ab ι2 σ2 H' σD2 S2 d x _ XX _ r3 (s2.mono e3) p3 hq ?_ (lx.ext ((e1.trans e2).trans e3))
    intro ι4 σD4 S4 σ4 H4 e4 r4 s4 o4 q4
    have ee := ((e1.trans e2).trans e3).trans e4
    refine hb.ab ι4 σ4 H4 σD4 S4 _ XX _ r4 s4 q4 ⟨?_, (l.ext ee).rt, (l.ext ee).nx, ?_⟩ (lx.ext ee)
    · intro ι5 σD5 S5 σ5 H5 e5 r5 s5 q5
      exact hM ι5 σD5 S5 σ5 H5 (((e2.trans e3).trans e4).trans e5) r5 s5 q5
    · intro ι5 σD5 S5 σ5 H5 e5 r5 s5 q5
      exact hM ι5 σD5 S5 σ5 H5 (((e2.trans e3).trans e4).trans e5) r5 s5 q5
  have cells : ∀ (hsrc : ∀ ds, src ≠ .seq ds) (k : Nat), forC wg w DA XX src k 0 σD S1 → ∃ W : Nat → Nat → L2.St → Hp → Prop, (∃ m, W 0 m σ H1) ∧ ∀ i m σ H, W i m σ H →
      (J.stop i H ∧ De.nx σ H) ∨ (J.go i H ∧ ∃ N : L2.St → Hp → Prop, (∀ σ' H', N σ' H' → ∃ m', m' < m ∧ W (i + 1) m' σ' H') ∧ ∀ x H', J.yld i H x H' → g x σ H' fun σ2 H2 => t { De with nx := N, ct := N, bk := De.nx } σ2 H2) := by
    intro hsrc k hk
    refine ⟨fun i m σ' H' => ∃ ι' σD' S', Ext X.K ι1 H1 ι' H' ∧ RelS X.K ι' S' H' ∧ Slots X.K ι' H' σD' σ' ∧ forC wg w DA XX src m i σD' S', ⟨k, ι1, σD, S1, Ext.refl, r1, s.mono e1, hk⟩, ?_⟩
    rintro i m σ2 H2 ⟨ι2, σD2, S2, e2, r2, s2, h2⟩
    cases m with
    | zero =>
      obtain ⟨h3, h4⟩ := h2
      exact .inl ⟨(sim i ι2 S2 H2 e2 r2).2 h3, l.nx ι2 σD2 S2 σ2 H2 (e1.trans e2) r2 s2 h4⟩
    | succ m =>
      unfold forC at h2
      split at h2
      · rename_i d hd
        obtain ⟨go, st⟩ := turn d i _ (fun σ' H' => ∃ ι' σD' S', Ext X.K ι1 H1 ι' H' ∧ RelS X.K ι' S' H' ∧ Slots X.K ι' H' σD' σ' ∧ forC wg w DA XX src m (i + 1) σD' S') ι2 σD2 S2 σ2 H2 e2 r2 s2 hd h2
          fun ι3 σD3 S3 σ3 H3 e3 r3 s3 q3 => ⟨ι3, σD3, S3, e3, r3, s3, q3⟩
        exact .inr ⟨go, _, fun σ' H' n => ⟨m, Nat.lt_succ_self m, n⟩, st⟩
      · exact h2.elim
  cases src with
  | seq ds =>
    refine ⟨fun i m σ' H' => m = ds.length - i ∧ i ≤ ds.length ∧ ∃ ι' σD' S', Ext X.K ι1 H1 ι' H' ∧ RelS X.K ι' S' H' ∧ Slots X.K ι' H' σD' σ' ∧ forL wg w DA XX (ds.drop i) σD' S', ⟨ds.length, by omega, Nat.zero_le _, ι1, σD, S1, Ext.refl, r1, s.mono e1, by rw [List.drop_zero]; exact h1⟩, ?_⟩
    rintro i m σ2 H2 ⟨rfl, hi, ι2, σD2, S2, e2, r2, s2, h2⟩
    by_cases hlt : i < ds.length
    · rw [List.drop_eq_getElem_cons hlt] at h2
      have hd : (Src.seq ds).at i S2 = some (some ds[i]) := congrArg some (List.getElem?_eq_getElem hlt)
      obtain ⟨go, st⟩ := turn ds[i] i _ (fun σ' H' => ∃ ι' σD' S', Ext X.K ι1 H1 ι' H' ∧ RelS X.K ι' S' H' ∧ Slots X.K ι' H' σD' σ' ∧ forL wg w DA XX (ds.drop (i + 1)) σD' S') ι2 σD2 S2 σ2 H2 e2 r2 s2 hd h2
        fun ι3 σD3 S3 σ3 H3 e3 r3 s3 q3 => ⟨ι3, σD3, S3, e3, r3, s3, q3⟩
      exact .inr ⟨go, _, fun σ' H' n => ⟨ds.length - (i + 1), by omega, rfl, hlt, n⟩, st⟩
    · have ei : i = ds.length := by omega
      subst ei
      rw [List.drop_length] at h2
      exact .inl ⟨(sim _ ι2 S2 H2 e2 r2).2 (congrArg some (List.getElem?_eq_none_iff.mpr (Nat.le_refl _))), l.nx ι2 σD2 S2 σ2 H2 (e1.trans e2) r2 s2 h2⟩
  | cel n => exact cells (fun _ z => nomatch z) _ h1
  | enc n => exact cells (fun _ z => nomatch z) _ h1
end
end AW
/-! AW8: comprehensions. -/
namespace AW
open PySem PySem.Spec PyProof.Rows L2

def wipeD (σ : ASt) : List Nat → ASt
  | [] => σ
  | v :: vs => (wipeD σ vs).set v none
theorem wipe_get {σ : L2.St} {i : Nat} : ∀ {vs : List Nat}, i ∉ vs → (wipe σ vs)[i]? = σ[i]?
  | [], _ => rfl
  | v :: vs, h => by
    unfold wipe
    rw [List.getElem?_set_ne (fun e => h (by rw [e]; exact List.mem_cons_self))]
    exact wipe_get fun z => h (List.mem_cons_of_mem _ z)
theorem wipe_none {σ : L2.St} {i : Nat} : ∀ {vs : List Nat}, i ∈ vs → i < σ.length → (wipe σ vs)[i]? = some none
  | [], h, _ => by cases h
  | v :: vs, h, hl => by
    unfold wipe
    by_cases e : v = i
    · subst e
      rw [List.getElem?_set_self (by rw [wipe_length]; exact hl)]
    · rw [List.getElem?_set_ne e]
      exact wipe_none ((List.mem_cons.mp h).resolve_left fun z => e z.symm) hl
theorem SameOff.wipe {vs : List Nat} {σ σ2 : L2.St} (h : SameOff vs (wipe σ vs) σ2) : L2.wipe σ2 vs = L2.wipe σ vs := by
  have hl : σ2.length = σ.length := by rw [h.1, wipe_length]
  refine List.ext_getElem? fun i => ?_
  by_cases hi : i ∈ vs
  · by_cases hlt : i < σ.length
    · rw [wipe_none hi hlt, wipe_none hi (by rw [hl]; exact hlt)]
    · rw [List.getElem?_eq_none (by rw [wipe_length]; omega), List.getElem?_eq_none (by rw [wipe_length]; omega)]
  · rw [wipe_get hi, h.2 i hi, wipe_get hi]
theorem Slots.wipe {K ι H} {σD : ASt} {σ : L2.St} (s : Slots K ι H σD σ) : ∀ vs : List Nat, Slots K ι H (wipeD σD vs) (L2.wipe σ vs)
  | [] => s
  | v :: vs => by
    have q := Slots.wipe s vs
    unfold wipeD L2.wipe
    refine ⟨by rw [List.length_set, List.length_set]; exact q.1, fun i d h => ?_⟩
    by_cases e : v = i
    · subst e
      by_cases hl : v < (wipeD σD vs).length
      · rw [List.getElem?_set_self hl] at h; cases h
      · rw [List.getElem?_eq_none (by rw [List.length_set]; omega)] at h; cases h
    · rw [List.getElem?_set_ne e] at h
      rw [List.getElem?_set_ne e]
      exact q.2 i d h

structure JTs (X : Cx) (E : XK) (ifs : List Expr) (t : TT) (w : WT) : Prop where
  pe : PTs X ifs t
  ab : AbsT X.K E t w
def wYes : WT := fun _ S Q _ => Q true S
theorem jts_nil {X : Cx} {E : XK} : JTs X E [] tYes wYes := ⟨pts_nil, fun ι σ H σD S Q XX Qh r s h l lx => l ι true S H Ext.refl r h⟩
theorem jts_one {X : Cx} {E : XK} {c : Expr} {t : TT} {w : WT} (h : JT X E c t w) : JTs X E [c] t w := ⟨pts_one h.pe, h.ab⟩

/-- one turn of a comprehension; the rest is rest -/
@[reducible] def lcTurn (wg : WG) (wt : WT) (we : WE) (σ : ASt) (d : D) (acc : List D) (S : Sto) (rest : List D → Sto → Prop) : Prop :=
  wg d σ S (fun σ2 S2 => wt σ2 S2 (fun b S3 => if b = true then we σ2 S3 (fun y S4 => rest (acc ++ [y]) S4) X0 else rest acc S3) X0) X0
def lcL (wg : WG) (wt : WT) (we : WE) (σ : ASt) (Q : List D → Sto → Prop) : List D → List D → Sto → Prop
  | [], acc, S => Q acc S
  | d :: ds, acc, S => lcTurn wg wt we σ d acc S fun acc' S' => lcL wg wt we σ Q ds acc' S'
def lcC (wg : WG) (wt : WT) (we : WE) (σ : ASt) (Q : List D → Sto → Prop) (src : Src) : Nat → Nat → List D → Sto → Prop
  | 0, i, acc, S => src.at i S = some none ∧ Q acc S
  | k + 1, i, acc, S => match src.at i S with
    | some (some d) => lcTurn wg wt we σ d acc S fun acc' S' => lcC wg wt we σ Q src k (i + 1) acc' S'
    | _ => False
def wLcA (wi : WI) (wg : WG) (wt : WT) (we : WE) (vs : List Nat) (fin : List D → Sto → VKD → Prop) : WE := fun σ S Q X => wi σ S (fun src S1 => match src with
  | .seq ds => ds.length ≤ sizeLine ∧ lcL wg wt we (wipeD σ vs) (fun acc S2 => fin acc S2 Q) ds [] S1
  | .cel n => cellLen S1 n ≤ sizeLine ∧ lcC wg wt we (wipeD σ vs) (fun acc S2 => fin acc S2 Q) (.cel n) (cellLen S1 n) 0 [] S1
  | .enc n => cellLen S1 n ≤ sizeLine ∧ lcC wg wt we (wipeD σ vs) (fun acc S2 => fin acc S2 Q) (.enc n) (cellLen S1 n) 0 [] S1) X
/-- a list that stays as it is; a cell -/
@[reducible] def finF : List D → Sto → VKD → Prop := fun acc S Q => Q (.fl acc) S
@[reducible] def finR : List D → Sto → VKD → Prop := fun acc S Q => Q (.ref S.length) (S ++ [.lst acc])
def wLc (wi : WI) (wg : WG) (wt : WT) (we : WE) (vs : List Nat) : WE := wLcA wi wg wt we vs finF
def wLcR (wi : WI) (wg : WG) (wt : WT) (we : WE) (vs : List Nat) : WE := wLcA wi wg wt we vs finR

/-- what the list made may be taken as -/
def FinOk (K : PySem.W.Frag) (fin : List D → Sto → VKD → Prop) : Prop := ∀ (ι ι' : Ad) (H H' : Hp) (S S' : Sto) (p : Addr) (acc : List D) (xs : List V) (Q : VKD) (Qh : VK), RelS K ι S H → H p = none → Ext K ι H ι' H' → RelS K ι' S' H' → p ∈ ι'.hid →
  H' p = some (.lst xs) → RepL K ι' H' acc xs → fin acc S' Q → LkE K ι H Q Qh → Qh (.ref p) H'
theorem fin_fl {K : PySem.W.Frag} : FinOk K finF := by
  intro ι ι' H H' S S' p acc xs Q Qh r0 n e r hp h hl q l
  have h2 : ∀ a ∈ ι.hid, a ∈ ι'.hid := e.hid
  refine l ⟨ι'.cells, ι.hid⟩ (.fl acc) S' (.ref p) H' (e.bare (fun _ z => z) h2) (r.bare h2) (rep_fl.mpr ⟨p, xs, rfl, fun z => ?_, h, RepL.bare h2 hl⟩) q
  rcases z with z | z
  · exact (r.hid p hp).1 z
  · obtain ⟨u, y⟩ := (r0.hid p z).2
    rw [n] at y; cases y
theorem fin_cell {K : PySem.W.Frag} : FinOk K finR := by
  intro ι ι' H H' S S' p acc xs Q Qh r0 n e r hp h hl q l
  have h2 : ∀ a ∈ ι.hid, a ∈ ι'.hid := e.hid
  have np : p ∉ ι.hid := fun z => by
    obtain ⟨u, y⟩ := (r0.hid p z).2
    rw [n] at y; cases y
  have e1 := e.bare (fun _ z => z) h2
  have r1 := r.bare h2
  have pc : p ∉ ι'.cells := (r.hid p hp).1
  -- from the bare state to the one with p as a cell
  have e2 : Ext0 K ι' H' ⟨ι'.cells ++ [p], ι.hid⟩ H' := ⟨fun _ _ z => z, fun b ys nb z => ⟨fun y => by
    rcases y with y | y
    · rcases List.mem_append.mp y with y | y
      · exact nb (.inl y)
      · rw [List.mem_singleton.mp y] at nb; exact nb (.inr hp)
    · exact nb (.inr (h2 b y)), z⟩, fun _ _ z => z, List.prefix_append _ _⟩
  refine l ⟨ι'.cells ++ [p], ι.hid⟩ (.ref S'.length) (S' ++ [.lst acc]) (.ref p) H' ⟨e.toExt0.trans e2, fun _ z => z, e.hidk⟩ ⟨?_, ?_, fun a ha => ⟨fun z => ?_, (r.hid a (h2 a ha)).2⟩, fun m c a q1 q2 => ?_⟩ (rep_ref.mpr ⟨p, rfl, ?_⟩) q
  · show (ι'.cells ++ [p]).length = _
    rw [List.length_append, List.length_append, r.len]; rfl
  · show (ι'.cells ++ [p]).Nodup
    rw [List.nodup_append]
    exact ⟨r.nd, by simp, fun a ha b hb => by rintro rfl; exact pc (by rw [List.mem_singleton.mp hb] at ha; exact ha)⟩
  · rcases List.mem_append.mp z with z | z
    · exact (r.hid a (h2 a ha)).1 z
    · exact np (by rw [← List.mem_singleton.mp z]; exact ha)
  · have q2 : (ι'.cells ++ [p])[m]? = some a := q2
    by_cases hm : m < S'.length
    · rw [List.getElem?_append_left hm] at q1
      rw [List.getElem?_append_left (by rw [r.len]; exact hm)] at q2
      exact (r.cel m c a q1 q2).mono0 e2 fun _ z => z
    · have em : m = S'.length := by
        have := (List.getElem?_eq_some_iff.mp q1).1
        rw [List.length_append, List.length_singleton] at this
        omega
      subst em
      rw [List.getElem?_append_right (Nat.le_refl _), Nat.sub_self] at q1
      rw [List.getElem?_append_right (by rw [r.len]; exact Nat.le_refl _), r.len, Nat.sub_self] at q2
      cases q1
      cases q2
      exact ⟨xs, h, RepL.mono0 e2 _ _ hl⟩
  · show (ι'.cells ++ [p])[S'.length]? = some p
    rw [List.getElem?_append_right (by rw [r.len]; exact Nat.le_refl _), r.len, Nat.sub_self]
    rfl

theorem abs_lc {K : PySem.W.Frag} {E : XK} {wi : TI} {wI : WI} {g : TG} {wg : WG} {tt : TT} {wt : WT} {te : TE} {we : WE} {vs : List Nat} {fin : List D → Sto → VKD → Prop} (hfin : FinOk K fin)
    (hi : AbsI K E wi wI) (hg : AbsG K E0 vs g wg) (ht : AbsT K E0 tt wt) (he : AbsE K E0 te we) : AbsE K E (tLc wi g tt te vs) (wLcA wI wg wt we vs fin) := by
  intro ι σ H σD S Q XX Qh r s h l lx
  refine hi ι σ H σD S _ XX _ r s h ?_ lx
  intro ι1 src S1 J H1 e1 r1 sim h1 p np
  have s1 := (s.mono e1).wipe vs
  -- the state of the loop
  let Inv (i : Nat) (Z : List D → Sto → Prop) (H' : Hp) : Prop := ∃ ι' S' acc xs, Ext K ι1 H1 ι' H' ∧ RelS K ι' S' H' ∧ p ∈ ι'.hid ∧ H' p = some (.lst xs) ∧ RepL K ι' H' acc xs ∧ acc.length ≤ i ∧ Z acc S'
  have start : ∀ Z : List D → Sto → Prop, Z [] S1 → Inv 0 Z (upd H1 p (.lst [])) := fun Z z => ⟨ι1.hide p, S1, [], [], Ext.hide r1 np, r1.hide np, List.mem_cons_self, upd_same, RepL.nil, Nat.le_refl _, z⟩
  have turn : ∀ (d : D) (i : Nat) (Z : List D → Sto → Prop) (H2 : Hp), i < sizeLine → Inv i (fun acc S' => src.at i S' = some (some d) ∧ lcTurn wg wt we (wipeD σD vs) d acc S' Z) H2 →
      J.go i H2 ∧ ∀ x H', J.yld i H2 x H' → g x (wipe σ vs) H' fun σ2 H2 => wipe σ2 vs = wipe σ vs ∧ tt σ2 H2 fun b H3 =>
        if b = true then te σ2 H3 fun y H4 => ∃ acc, H4 p = some (.lst acc) ∧ acc.length < sizeLine ∧ Inv (i + 1) Z (upd H4 p (.lst (acc ++ [y]))) else Inv (i + 1) Z H3 := by
    rintro d i Z H2 hlt ⟨ι2, S2, acc, xs, e2, r2, hp2, hx2, hl2, ha, hd, q2⟩
    obtain ⟨go, yl⟩ := (sim i ι2 S2 H2 e2 r2).1 d hd
    refine ⟨go, fun x H' hy => ?_⟩
    obtain ⟨e3, r3, p3⟩ := yl x H' hy
    refine hg ι2 _ H' (wipeD σD vs) S2 d x _ X0 _ r3 ((s1.mono e2).mono e3) p3 q2 ?_ LkX.none
    intro ι4 σD4 S4 σ4 H4 e4 r4 s4 o4 q4
    refine ⟨o4.wipe, ?_⟩
    refine ht ι4 σ4 H4 σD4 S4 _ X0 _ r4 s4 q4 ?_ LkX.none
    intro ι5 b S5 H5 e5 r5 q5
    have e25 := (e3.trans e4).trans e5
    have hp5 : p ∈ ι5.hid := e25.hid p hp2
    have hx5 : H5 p = some (.lst xs) := (e25.hidk p hp2).trans hx2
    cases b with
    | false =>
      rw [if_neg Bool.false_ne_true] at q5 ⊢
      exact ⟨ι5, S5, acc, xs, e2.trans e25, r5, hp5, hx5, RepL.mono e25 _ _ hl2, by omega, q5⟩
    | true =>
      rw [if_pos rfl] at q5 ⊢
      refine he ι5 σ4 H5 σD4 S5 _ X0 _ r5 (s4.mono e5) q5 ?_ LkX.none
      intro ι6 y S6 vy H6 e6 r6 p6 q6
      have hp6 : p ∈ ι6.hid := e6.hid p hp5
      have hx6 : H6 p = some (.lst xs) := (e6.hidk p hp5).trans hx5
      have e26 := e25.trans e6
      have len := RepL.length hl2
      refine ⟨xs, hx6, by omega, ι6, S6, acc ++ [y], xs ++ [vy], (e2.trans e26).hidw r1 np hp6 hx6, r6.hidw hp6 hx6, hp6, upd_same, ?_, by rw [List.length_append, List.length_singleton]; omega, q6⟩
      have w := Ext0.hidw (K := K) (o := .lst (xs ++ [vy])) hp6 hx6
      exact RepL.append (RepL.mono0 w _ _ (RepL.mono e26 _ _ hl2)) (RepL.cons (Rep.mono0 w _ _ p6) RepL.nil)
  have done : ∀ (i : Nat) (H2 : Hp), Inv i (fun acc S' => src.at i S' = some none ∧ fin acc S' Q) H2 → J.stop i H2 ∧ Qh (.ref p) H2 := by
    rintro i H2 ⟨ι2, S2, acc, xs, e2, r2, hp2, hx2, hl2, ha, hd, q2⟩
    exact ⟨(sim i ι2 S2 H2 e2 r2).2 hd, hfin ι1 ι2 H1 H2 S1 S2 p acc xs Q Qh r1 np e2 r2 hp2 hx2 hl2 q2 (l.ext e1)⟩
  have cells : ∀ k, k ≤ sizeLine → lcC wg wt we (wipeD σD vs) (fun acc S2 => fin acc S2 Q) src k 0 [] S1 → ∃ W : Nat → Nat → Hp → Prop, (∃ m, W 0 m (upd H1 p (.lst []))) ∧ ∀ i m H, W i m H →
      (J.stop i H ∧ Qh (.ref p) H) ∨ (J.go i H ∧ ∃ Nx : Hp → Prop, (∀ H', Nx H' → ∃ m', m' < m ∧ W (i + 1) m' H') ∧ ∀ x H', J.yld i H x H' → g x (wipe σ vs) H' fun σ2 H2 => wipe σ2 vs = wipe σ vs ∧ tt σ2 H2 fun b H3 =>
        if b = true then te σ2 H3 fun y H4 => ∃ acc, H4 p = some (.lst acc) ∧ acc.length < sizeLine ∧ Nx (upd H4 p (.lst (acc ++ [y]))) else Nx H3) := by
    intro k hk hq
    refine ⟨fun i m H' => m + i = k ∧ Inv i (fun acc S' => lcC wg wt we (wipeD σD vs) (fun acc S2 => fin acc S2 Q) src m i acc S') H', ⟨k, rfl, start _ hq⟩, ?_⟩
    rintro i m H2 ⟨hm, ι2, S2, acc, xs, e2, r2, hp2, hx2, hl2, ha, q2⟩
    cases m with
    | zero => exact .inl (done i H2 ⟨ι2, S2, acc, xs, e2, r2, hp2, hx2, hl2, ha, q2⟩)
    | succ m =>
      unfold lcC at q2
      split at q2
      · rename_i d hd
        obtain ⟨go, st⟩ := turn d i _ H2 (by omega) ⟨ι2, S2, acc, xs, e2, r2, hp2, hx2, hl2, ha, hd, q2⟩
        exact .inr ⟨go, _, fun H' n => ⟨m, Nat.lt_succ_self m, by omega, n⟩, st⟩
      · exact q2.elim
  cases src with
  | seq ds =>
    obtain ⟨hz, hq⟩ := h1
    refine ⟨fun i m H' => m = ds.length - i ∧ i ≤ ds.length ∧ Inv i (fun acc S' => lcL wg wt we (wipeD σD vs) (fun acc S2 => fin acc S2 Q) (ds.drop i) acc S') H', ⟨ds.length, by omega, Nat.zero_le _, start _ (by rw [List.drop_zero]; exact hq)⟩, ?_⟩
    rintro i m H2 ⟨rfl, hi2, ι2, S2, acc, xs, e2, r2, hp2, hx2, hl2, ha, q2⟩
    by_cases hlt : i < ds.length
    · rw [List.drop_eq_getElem_cons hlt] at q2
      have hd : (Src.seq ds).at i S2 = some (some ds[i]) := congrArg some (List.getElem?_eq_getElem hlt)
      obtain ⟨go, st⟩ := turn ds[i] i _ H2 (by omega) ⟨ι2, S2, acc, xs, e2, r2, hp2, hx2, hl2, ha, hd, q2⟩
      exact .inr ⟨go, _, fun H' n => ⟨ds.length - (i + 1), by omega, rfl, hlt, n⟩, st⟩
    · have ei : i = ds.length := by omega
      subst ei
      rw [List.drop_length] at q2
      exact .inl (done _ H2 ⟨ι2, S2, acc, xs, e2, r2, hp2, hx2, hl2, ha, congrArg some (List.getElem?_eq_none_iff.mpr (Nat.le_refl _)), q2⟩)
  | cel n => exact cells _ h1.1 h1.2
  | enc n => exact cells _ h1.1 h1.2
section
variable {X : Cx} {E : XK} {elt tg iter : Expr} {ifs : List Expr} {scope : Scope} {own : List (Str × Nat)} {pos : Pos} {wi : TI} {wI : WI} {g : TG} {wg : WG} {tt : TT} {wt : WT} {te : TE} {we : WE}
theorem je_lcA {fin : List D → Sto → VKD → Prop} (hfin : FinOk X.K fin) (hc : X.calm = true) (hN : X.N.Nodup) (hi : JI X E tg iter wi wI) (ok : BlkOk X.N X.env.scope scope own)
    (hg : ∀ (s : Shared) (H : Hp) (C : Addr) (cl : List (Str × Addr)) (fp : List Addr), JG (X.blk s H scope (compEnvC scope cl C X.env) fp) E0 (own.map (·.2)) tg g wg) (ht : ∀ (s : Shared) (H : Hp) (C : Addr) (cl : List (Str × Addr)) (fp : List Addr), JTs (X.blk s H scope (compEnvC scope cl C X.env) fp) E0 ifs tt wt)
    (he : ∀ (s : Shared) (H : Hp) (C : Addr) (cl : List (Str × Addr)) (fp : List Addr), JE (X.blk s H scope (compEnvC scope cl C X.env) fp) E0 elt te we) (s0 : Shared) (hs : ∀ x, foldedSetIterable iter X.env x = pure x := by intro _; rfl) :
    JE X E (.ListComp elt [⟨tg, iter, ifs, 0⟩] scope pos) (tLc wi g tt te (own.map (·.2))) (wLcA wI wg wt we (own.map (·.2)) fin) :=
  ⟨pe_lc hc hN hi.pe ok (fun s H C cl fp => (hg s H C cl fp).pe) (fun s H C cl fp => (ht s H C cl fp).pe) (fun s H C cl fp => (he s H C cl fp).pe) hs,
    abs_lc hfin hi.ab (hg s0 (fun _ => none) 0 [] []).ab (ht s0 (fun _ => none) 0 [] []).ab (he s0 (fun _ => none) 0 [] []).ab⟩
theorem js_setLcA {fin : List D → Sto → VKD → Prop} (hfin : FinOk X.K fin) {i : Nat} {y : Str} {py spos : Pos} (hc : X.calm = true) (hN : X.N.Nodup) (hy : X.N[i]? = some y) (hyl : X.env.scope.names.lookup y = some .local)
    (hsw : swapsWith (.ListComp elt [⟨tg, iter, ifs, 0⟩] scope pos) (some (.Name y py)) spos.line X.env = pure true) (hi : JI X E tg iter wi wI) (ok : BlkOk X.N X.env.scope scope own)
    (hg : ∀ (s : Shared) (H : Hp) (C : Addr) (cl : List (Str × Addr)) (fp : List Addr), JG (X.blk s H scope (compEnvC scope cl C X.env) fp) E0 (own.map (·.2)) tg g wg) (ht : ∀ (s : Shared) (H : Hp) (C : Addr) (cl : List (Str × Addr)) (fp : List Addr), JTs (X.blk s H scope (compEnvC scope cl C X.env) fp) E0 ifs tt wt)
    (he : ∀ (s : Shared) (H : Hp) (C : Addr) (cl : List (Str × Addr)) (fp : List Addr), JE (X.blk s H scope (compEnvC scope cl C X.env) fp) E0 elt te we) (s0 : Shared) (hs : ∀ x, foldedSetIterable iter X.env x = pure x := by intro _; rfl) :
    JS X E (.Assign [.Name y py] (.ListComp elt [⟨tg, iter, ifs, 0⟩] scope pos) spos) (tAsg (tLc wi g tt te (own.map (·.2))) (gName i)) (wSet i (wLcA wI wg wt we (own.map (·.2)) fin)) := by
  refine ⟨ps_setLc hc hN hy hyl hsw hi.pe ok (fun s H C cl fp => (hg s H C cl fp).pe) (fun s H C cl fp => (ht s H C cl fp).pe) (fun s H C cl fp => (he s H C cl fp).pe) hs, ?_⟩
  have ab := abs_lc hfin hi.ab (hg s0 (fun _ => none) 0 [] []).ab (ht s0 (fun _ => none) 0 [] []).ab (he s0 (fun _ => none) 0 [] []).ab
  intro ι σ H σD S DA XX De r s h l lx
  refine ab ι σ H σD S _ XX _ r s h ?_ lx
  intro ι1 d1 S1 v1 H1 e1 r1 p1 h1
  exact l.nx ι1 _ S1 _ H1 e1 r1 ((s.mono e1).set i p1) h1
end
end AW
/-! AW9: defs by their bodies; the law's entry. -/
namespace AW
open PySem PySem.Spec PyProof.Rows L2

/-! ### cells that are left behind -/
mutual
def D.under (k : Nat) : D → Bool
  | .tup ds => belowL k ds
  | .fl ds => belowL k ds
  | .scr ds => belowL k ds
  | .ref n => decide (n < k)
  | _ => true
def belowL (k : Nat) : List D → Bool
  | [] => true
  | d :: ds => d.under k && belowL k ds
end
def belowF (k : Nat) : List (Str × D) → Bool
  | [] => true
  | d :: ds => d.2.under k && belowF k ds
def Cel.under (k : Nat) : Cel → Bool
  | .lst ds => belowL k ds
  | .ins _ fs => belowF k fs
/-- all cells speak of cells of the store -/
def Closed (S : Sto) : Prop := ∀ c ∈ S, c.under S.length = true
mutual
/-- the cells from k on are seen as lists that stay as they are -/
inductive Frz (S : Sto) (k : Nat) : D → D → Prop where
  | same {d : D} : d.under k = true → Frz S k d d
  | cell {n : Nat} {ds es : List D} : k ≤ n → S[n]? = some (.lst ds) → FrzL S k ds es → Frz S k (.ref n) (.fl es)
  | tup {ds es : List D} : FrzL S k ds es → Frz S k (.tup ds) (.tup es)
  | fl {ds es : List D} : FrzL S k ds es → Frz S k (.fl ds) (.fl es)
inductive FrzL (S : Sto) (k : Nat) : List D → List D → Prop where
  | nil : FrzL S k [] []
  | cons {d e : D} {ds es : List D} : Frz S k d e → FrzL S k ds es → FrzL S k (d :: ds) (e :: es)
end
theorem FrzL.same {S : Sto} {k : Nat} : ∀ {ds : List D}, belowL k ds = true → FrzL S k ds ds
  | [], _ => .nil
  | d :: ds, h => by
    unfold belowL at h
    rw [Bool.and_eq_true] at h
    exact .cons (.same h.1) (FrzL.same h.2)
def Gives (Q : VKD) (m : Nat) (d : D) (S' : Sto) : Prop := Q d S' ∨ ∃ S'' d' g, S' = S'' ++ g ∧ m ≤ S''.length ∧ Closed S'' ∧ Frz S' S''.length d d' ∧ Q d' S''
def GivesX (X : XKD) (m : Nat) (c : Value) (fo : Option (List (Str × D))) (S' : Sto) : Prop := X c fo S' ∨ (fo = none ∧ ∃ S'' g, S' = S'' ++ g ∧ m ≤ S''.length ∧ Closed S'' ∧ X c none S'')
section
variable {K : PySem.W.Frag} {ι ι1 : Ad} {H H1 : Hp} {S S1 : Sto}
abbrev Ad.cut (ι : Ad) (k : Nat) : Ad := ⟨ι.cells.take k, ι.hid⟩
theorem cut_in {a : Addr} {k : Nat} (h : a ∈ ι.cut k) : a ∈ ι := h.elim (fun z => .inl (List.mem_of_mem_take z)) .inr
mutual
theorem Rep.cut {k : Nat} : ∀ (d : D) (v : V), d.under k = true → Rep K ι H d v → Rep K (ι.cut k) H d v
  | .non, _, _, h => by rw [rep_non] at h ⊢; exact h
  | .bl _, _, _, h => by rw [rep_bl] at h ⊢; exact h
  | .int _, _, _, h => by rw [rep_int] at h ⊢; exact h
  | .str _, _, _, h => by rw [rep_str] at h ⊢; exact h
  | .tup ds, _, b, h => by
    rw [rep_tup] at h ⊢
    obtain ⟨a, xs, e1, e2, e3⟩ := h
    exact ⟨a, xs, e1, e2, RepL.cut ds xs (by unfold D.under at b; exact b) e3⟩
  | .fl ds, _, b, h => by
    rw [rep_fl] at h ⊢
    obtain ⟨a, xs, e1, n, e2, e3⟩ := h
    exact ⟨a, xs, e1, fun z => n (cut_in z), e2, RepL.cut ds xs (by unfold D.under at b; exact b) e3⟩
  | .scr ds, _, b, h => by
    rw [rep_scr] at h ⊢
    obtain ⟨a, xs, e1, e2, e3⟩ := h
    exact ⟨a, xs, e1, e2, RepL.cut ds xs (by unfold D.under at b; exact b) e3⟩
  | .ref n, _, b, h => by
    rw [rep_ref] at h ⊢
    obtain ⟨a, e1, e2⟩ := h
    refine ⟨a, e1, ?_⟩
    unfold D.under at b
    show (ι.cells.take k)[n]? = some a
    rw [List.getElem?_take_of_lt (of_decide_eq_true b)]
    exact e2
  | .exc _, _, _, h => by unfold Rep at h ⊢; exact h
theorem RepL.cut {k : Nat} : ∀ (ds : List D) (xs : List V), belowL k ds = true → RepL K ι H ds xs → RepL K (ι.cut k) H ds xs
  | [], _, _, h => by unfold RepL at h ⊢; exact h
  | d :: ds, _, b, h => by
    unfold RepL at h ⊢
    unfold belowL at b
    rw [Bool.and_eq_true] at b
    obtain ⟨x, r, e1, e2, e3⟩ := h
    exact ⟨x, r, e1, Rep.cut d x b.1 e2, RepL.cut ds r b.2 e3⟩
end
theorem RepF.cut {k : Nat} : ∀ (ds : List (Str × D)) (xs : List (Str × V)), belowF k ds = true → RepF K ι H ds xs → RepF K (ι.cut k) H ds xs
  | [], _, _, h => by unfold RepF at h ⊢; exact h
  | d :: ds, _, b, h => by
    unfold RepF at h ⊢
    unfold belowF at b
    rw [Bool.and_eq_true] at b
    obtain ⟨x, r, e1, e2, e3⟩ := h
    exact ⟨x, r, e1, Rep.cut _ x b.1 e2, RepF.cut ds r b.2 e3⟩
mutual
theorem Rep.below : ∀ (d : D) (v : V), Rep K ι H d v → d.under ι.cells.length = true
  | .non, _, _ => by unfold D.under; rfl
  | .bl _, _, _ => by unfold D.under; rfl
  | .int _, _, _ => by unfold D.under; rfl
  | .str _, _, _ => by unfold D.under; rfl
  | .tup ds, _, h => by
    rw [rep_tup] at h
    obtain ⟨a, xs, e1, e2, e3⟩ := h
    unfold D.under
    exact RepL.below ds xs e3
  | .fl ds, _, h => by
    rw [rep_fl] at h
    obtain ⟨a, xs, e1, n, e2, e3⟩ := h
    unfold D.under
    exact RepL.below ds xs e3
  | .scr ds, _, h => by
    rw [rep_scr] at h
    obtain ⟨a, xs, e1, e2, e3⟩ := h
    unfold D.under
    exact RepL.below ds xs e3
  | .ref n, _, h => by
    rw [rep_ref] at h
    obtain ⟨a, e1, e2⟩ := h
    unfold D.under
    exact decide_eq_true (List.getElem?_eq_some_iff.mp e2).1
  | .exc _, _, _ => by unfold D.under; rfl
theorem RepL.below : ∀ (ds : List D) (xs : List V), RepL K ι H ds xs → belowL ι.cells.length ds = true
  | [], _, _ => by unfold belowL; rfl
  | d :: ds, _, h => by
    unfold RepL at h
    obtain ⟨x, r, e1, e2, e3⟩ := h
    unfold belowL
    rw [Rep.below d x e2, RepL.below ds r e3]; rfl
end
theorem RepF.below : ∀ (ds : List (Str × D)) (xs : List (Str × V)), RepF K ι H ds xs → belowF ι.cells.length ds = true
  | [], _, _ => by unfold belowF; rfl
  | d :: ds, _, h => by
    unfold RepF at h
    obtain ⟨x, r, e1, e2, e3⟩ := h
    unfold belowF
    rw [Rep.below _ x e2, RepF.below ds r e3]; rfl
theorem RelS.closed (r : RelS K ι S H) : Closed S := fun c hc => by
  obtain ⟨n, hn⟩ := List.getElem?_of_mem hc
  obtain ⟨a, h1, h2⟩ := r.at hn
  rw [← r.len]
  cases c with
  | lst ds => obtain ⟨xs, _, h3⟩ := h2; exact RepL.below ds xs h3
  | ins C fs => obtain ⟨dx, xs, _, h3⟩ := h2; exact RepF.below fs xs h3
theorem RelS.cut {g : Sto} (r : RelS K ι (S ++ g) H) (c : Closed S) : RelS K (ι.cut S.length) S H := by
  have hl : S.length ≤ ι.cells.length := by rw [r.len, List.length_append]; omega
  refine ⟨by show (ι.cells.take S.length).length = _; rw [List.length_take]; omega, r.nd.sublist (List.take_sublist _ _), fun a ha => ⟨fun z => (r.hid a ha).1 (List.mem_of_mem_take z), (r.hid a ha).2⟩, fun n x a h1 h2 => ?_⟩
  have hn : n < S.length := (List.getElem?_eq_some_iff.mp h1).1
  have h2 : (ι.cells.take S.length)[n]? = some a := h2
  rw [List.getElem?_take_of_lt hn] at h2
  have q := r.cel n x a (by rw [List.getElem?_append_left hn]; exact h1) h2
  have b := c x (List.mem_of_getElem? h1)
  cases x with
  | lst ds => obtain ⟨xs, e, h3⟩ := q; exact ⟨xs, e, RepL.cut ds xs b h3⟩
  | ins C fs => obtain ⟨dx, xs, e, h3⟩ := q; exact ⟨dx, xs, e, RepF.cut fs xs b h3⟩
theorem Ext.cut (e : Ext K ι H ι1 H1) {k : Nat} (h : ι.cells.length ≤ k) : Ext K ι H (ι1.cut k) H1 := by
  refine ⟨⟨e.tup, fun a xs m q => ⟨fun z => (e.frz a xs m q).1 (cut_in z), (e.frz a xs m q).2⟩, e.scr, ?_⟩, e.hid, e.hidk⟩
  obtain ⟨t, q⟩ := e.pre
  show ι.cells <+: ι1.cells.take k
  rw [← q, List.take_append, List.take_of_length_le h]
  exact List.prefix_append _ _
mutual
theorem Frz.rep {k : Nat} (r : RelS K ι S H) : ∀ {d e : D} (v : V), Frz S k d e → Rep K ι H d v → Rep K (ι.cut k) H e v
  | _, _, v, .same b, h => Rep.cut _ v b h
  | _, _, v, .cell (n := n) hk hc f, h => by
    obtain ⟨a, e1, e2⟩ := rep_ref.mp h
    obtain ⟨xs, q1, q2⟩ := r.cel _ _ a hc e2
    refine rep_fl.mpr ⟨a, xs, e1, fun z => ?_, q1, FrzL.rep r xs f q2⟩
    rcases z with z | z
    · obtain ⟨m, hm⟩ := List.getElem?_of_mem z
      have hm : (ι.cells.take k)[m]? = some a := hm
      have hlt : m < k := by
        have := (List.getElem?_eq_some_iff.mp hm).1
        rw [List.length_take] at this
        omega
      rw [List.getElem?_take_of_lt hlt] at hm
      have := nodup_eq r.nd hm e2
      omega
    · exact (r.hid a z).1 (List.mem_of_getElem? e2)
  | _, _, v, .tup f, h => by
    obtain ⟨a, xs, e1, e2, e3⟩ := rep_tup.mp h
    exact rep_tup.mpr ⟨a, xs, e1, e2, FrzL.rep r xs f e3⟩
  | _, _, v, .fl f, h => by
    obtain ⟨a, xs, e1, n, e2, e3⟩ := rep_fl.mp h
    exact rep_fl.mpr ⟨a, xs, e1, fun z => n (cut_in z), e2, FrzL.rep r xs f e3⟩
theorem FrzL.rep {k : Nat} (r : RelS K ι S H) : ∀ {ds es : List D} (xs : List V), FrzL S k ds es → RepL K ι H ds xs → RepL K (ι.cut k) H es xs
  | _, _, xs, .nil, h => by unfold RepL at h; subst h; exact RepL.nil
  | _, _, xs, .cons f g, h => by
    unfold RepL at h
    obtain ⟨x, rr, rfl, e2, e3⟩ := h
    exact RepL.cons (Frz.rep r x f e2) (FrzL.rep r rr g e3)
end
theorem LkE.gives {Q : VKD} {Qh : VK} (r : RelS K ι S H) (l : LkE K ι H Q Qh) : LkE K ι H (Gives Q S.length) Qh := by
  intro ι' d S' v H' e r' p g
  rcases g with g | ⟨S'', d', gg, rfl, hm, hc, hf, hq⟩
  · exact l ι' d S' v H' e r' p g
  · exact l (ι'.cut S''.length) d' S'' v H' (e.cut (by rw [r.len]; exact hm)) (r'.cut hc) (Frz.rep r' v hf p) hq
theorem LkX.gives {X : XKD} {E : XK} (r : RelS K ι S H) (l : LkX K ι H X E) : LkX K ι H (GivesX X S.length) E := by
  intro ι' c fo od S' H' e r' p g
  rcases g with g | ⟨rfl, S'', gg, rfl, hm, hc, hq⟩
  · exact l ι' c fo od S' H' e r' p g
  · refine l (ι'.cut S''.length) c Option.none od S'' H' (e.cut (by rw [r.len]; exact hm)) (r'.cut hc) ?_ hq
    cases od with
    | none => exact True.intro
    | some _ => exact p.elim
end

/-! ### defs -/
def startD (N : List Str) (ds : List D) : ASt := ds.map some ++ List.replicate (N.length - ds.length) none
theorem slots_start {K ι H} {N : List Str} {ds : List D} {vs : List V} (h : RepL K ι H ds vs) : Slots K ι H (startD N ds) (L2.start N vs) := by
  have hl := RepL.length h
  refine ⟨by unfold startD L2.start; rw [List.length_append, List.length_append, List.length_map, List.length_map, List.length_replicate, List.length_replicate, hl], fun i d e => ?_⟩
  unfold startD at e
  unfold L2.start
  by_cases hi : i < ds.length
  · rw [List.getElem?_append_left (by rw [List.length_map]; exact hi), List.getElem?_map] at e
    cases q : ds[i]? with
    | none => rw [q] at e; cases e
    | some d' =>
      rw [q] at e
      cases e
      obtain ⟨x, h1, h2⟩ := RepL.get h q
      refine ⟨x, ?_, h2⟩
      rw [List.getElem?_append_left (by rw [List.length_map, ← hl]; exact hi), List.getElem?_map, h1]
      rfl
  · rw [List.getElem?_append_right (by rw [List.length_map]; omega), List.getElem?_replicate] at e
    split at e <;> cases e
abbrev noS : ASt → Sto → Prop := fun _ _ => False
def endOf (Q : VKD) (m : Nat) : AE := { nx := fun _ S' => Gives Q m .non S', rt := Gives Q m, bk := noS, ct := noS }
section
variable {P : Program} {w : World} {K : PySem.W.Frag} {mg : Str → Option Value} {base : Heap}
/-- THE RULE for a def -/
theorem fn_abs {x qual : Str} {st : Stmt} {f : Addr} {fd : FuncData} {N ps : List Str} {k : Nat} {a : ASp} {wB : WS} (F : Fun K x qual st f fd) (Sc : FnScope N ps (defScope st)) (len : ∀ ds S Q XX, a ds S Q XX → ds.length = ps.length)
    (hbody : ∀ (cdv : Value) (A : Around) (outer : List Env) (s : Shared) (H : Hp) (E : XK), Room k (A.deeper (envOfC qual (defScope st) s.heap.objs.size f cdv)) →
      ∃ t, JSs (cxOf (L2.CX P w) P w K mg base N qual (defScope st) f cdv A outer s H E) E (defBody st) t wB)
    (hp : ∀ ds S Q XX, Closed S → a ds S Q XX → wB (endOf Q S.length) (startD N ds) S (GivesX XX S.length)) : FnOk P w K mg base (L2.CX P w) (k + 1) f fd ps (spOf K a) := by
  refine F.okX Sc (fun vs H Q E ⟨ι, ds, S, Qa, Xa, r, rl, q, l, lx⟩ => ?_) (fun cdv A outer s H vs Q E hr ⟨ι, ds, S, Qa, Xa, r, rl, q, l, lx⟩ => ?_)
  · rw [← RepL.length rl]; exact len _ _ _ _ q
  · obtain ⟨t, j⟩ := hbody cdv A outer s H E hr
    refine ⟨t, j.pe, ?_⟩
    refine j.ab ι (L2.start N vs) H (startD N ds) S (endOf Qa S.length) (GivesX Xa S.length) _ r (slots_start rl) (hp ds S Qa Xa r.closed q) ⟨?_, l.gives r, ?_, ?_⟩ (lx.gives r)
    · intro ι' σD' S' σ' H' e r' s' g
      exact (l.gives r) ι' .non S' .non H' e r' (rep_non.mpr rfl) g
    · intro ι' σD' S' σ' H' e r' s' g
      exact g
    · intro ι' σD' S' σ' H' e r' s' g
      exact g
theorem cal_mk {x qual : Str} {st : Stmt} {f : Addr} {fd : FuncData} {ps : List Str} {k : Nat} {a : ASp} (F : Fun K x qual st f fd) (ok : FnOk P w K mg base (L2.CX P w) k f fd ps (spOf K a)) (hm : mg x = some (.ref f)) (hb : Binds K fd ps []) : Cal P w K mg base k x a :=
  ⟨f, fd, ps, ok, hm, F.kp, hb⟩
/-- what a body's derivation wants of its context -/
theorem px_of {x qual : Str} {sc : Scope} {f : Addr} {cdv : Value} {A : Around} {outer : List Env} {s : Shared} {H : Hp} {E : XK} {N : List Str} : Passes (L2.CX P w) (cxOf (L2.CX P w) P w K mg base N qual sc f cdv A outer s H E) E :=
  passes_call (takes_of rfl rfl rfl rfl) (fun _ _ _ _ h => h)
theorem po_of {x qual : Str} {sc : Scope} {f : Addr} {cdv : Value} {A : Around} {outer : List Env} {s : Shared} {H : Hp} {E : XK} {N : List Str} : PassesOwn (model (cxOf (L2.CX P w) P w K mg base N qual sc f cdv A outer s H E).prog (cxOf (L2.CX P w) P w K mg base N qual sc f cdv A outer s H E).w) (cxOf (L2.CX P w) P w K mg base N qual sc f cdv A outer s H E).A (cxOf (L2.CX P w) P w K mg base N qual sc f cdv A outer s H E).env (cxOf (L2.CX P w) P w K mg base N qual sc f cdv A outer s H E).xe :=
  passes_of rfl
end

/-! ### the law -/
def aspLaw : ASp := fun ds S Q _ => ∃ ns : List Int, ns.length ≤ 63 ∧ (ds = [.scr (ns.map .int)] ∨ ds = [.fl (ns.map .int)]) ∧ S = [] ∧ ∀ S', Q (.bl true) S'
theorem law_sp (K : PySem.W.Frag) (H : Hp) (a : Addr) (ns : List Int) (h : ns.length ≤ 63) (hS : SqL K H a (ns.map V.int)) : spOf K aspLaw [.ref a] H (fun v _ => v = .bl true) fun _ _ _ => False := by
  have lk : LkE K ⟨[], []⟩ H (fun d _ => d = .bl true) (fun v _ => v = .bl true) := fun ι' d S' v H' e r p q => by
    subst q
    exact rep_bl.mp p
  have r : RelS K ⟨[], []⟩ [] H := ⟨rfl, List.nodup_nil, fun a z => (nomatch (z : a ∈ ([] : List Addr))), fun n c a z => by simp at z⟩
  have no : a ∉ (⟨[], []⟩ : Ad) := fun z => by rcases z with z | z <;> cases z
  rcases hS with (hS | ⟨o, hS⟩) | hS
  · exact ⟨⟨[], []⟩, [.fl (ns.map .int)], [], fun d _ => d = .bl true, X0, r, RepL.cons (rep_fl.mpr ⟨a, _, rfl, no, hS, repL_of_ints ns⟩) RepL.nil, ⟨ns, h, .inr rfl, rfl, fun _ => rfl⟩, lk, LkX.none⟩
  · exact ⟨⟨[], []⟩, [.scr (ns.map .int)], [], fun d _ => d = .bl true, X0, r, RepL.cons (rep_scr.mpr ⟨a, _, rfl, .inl ⟨o, hS⟩, repL_of_ints ns⟩) RepL.nil, ⟨ns, h, .inl rfl, rfl, fun _ => rfl⟩, lk, LkX.none⟩
  · exact ⟨⟨[], []⟩, [.scr (ns.map .int)], [], fun d _ => d = .bl true, X0, r, RepL.cons (rep_scr.mpr ⟨a, _, rfl, .inr hS, repL_of_ints ns⟩) RepL.nil, ⟨ns, h, .inl rfl, rfl, fun _ => rfl⟩, lk, LkX.none⟩
theorem law_cx {P : Program} {w : World} (H : Hp) (s : Shared) (e : Value) (s' : Shared) (h : L2.CX P w [] H s (fun _ _ _ => False) e s') : False := by
  obtain ⟨_, _, _, _, _, _, _, _, _, _, _, _, z⟩ := h
  exact z
end AW
/-! AW10: further rules. -/
namespace AW
open PySem PySem.Spec PyProof.Rows L2

section
variable {X : Cx} {E : XK} {pos p apos : Pos} {a b c e o : Expr} {es : List Expr} {ta tb tc te to : TE} {wa wb wc we wo : WE} {t : TA} {w : WA}
theorem je_str {x : Str} {j : Nat} : JE X E (.Constant (.str x) j pos) (tC (.str x)) (wC (.str x)) :=
  ⟨pe_str, fun ι σ H σD S Q XX Qh r s h l lx => l ι (.str x) S (.str x) H Ext.refl r (rep_str.mpr rfl) h⟩
/-- a module's constant that is an int -/
theorem je_globI {x : Str} {i : Int} {u : Tok} (hm : X.mg x = some (.int i u)) (hg : Gl X x := by rfl) (hd : (x == ("__debug__" : Str)) = false := by decide) : JE X E (.Name x pos) (tC (.int i)) (wC (.int i)) :=
  ⟨pe_glob (v := .int i) hg hm ⟨_, rfl⟩ hd, fun ι σ H σD S Q XX Qh r s h l lx => l ι (.int i) S (.int i) H Ext.refl r (rep_int.mpr rfl) h⟩
theorem op_eqAll (hu : X.A.units + 64 < cLine) : OpR X (compareOp .Eq) (rEqAll X.K) := op_eq.or (op_eqD hu)
theorem op_neAll (hu : X.A.units + 64 < cLine) : OpR X (compareOp .NotEq) (rNeAll X.K) := op_ne.or (op_neD hu)
theorem nob {op : CmpOp} (h : op ≠ .In := by decide) (h2 : op ≠ .NotIn := by decide) : behindInMarks op b = false := nomark b h h2
theorem je_eq {K : PySem.W.Frag} (hu : X.A.units + 64 < cLine) (ha : JE X E a ta wa) (hb : JE X E b tb wb) (hK : X.K = K := by rfl) : JE X E (.Compare a [.Eq] [b] pos) (tOp (rEqAll K) ta tb) (wOp fEq wa wb) := by
  subst hK
  exact je_cmp (op_eqAll hu) abs_eq ha hb nob
theorem je_ne {K : PySem.W.Frag} (hu : X.A.units + 64 < cLine) (ha : JE X E a ta wa) (hb : JE X E b tb wb) (hK : X.K = K := by rfl) : JE X E (.Compare a [.NotEq] [b] pos) (tOp (rNeAll K) ta tb) (wOp fNe wa wb) := by
  subst hK
  exact je_cmp (op_neAll hu) abs_ne ha hb nob
theorem je_lt (ha : JE X E a ta wa) (hb : JE X E b tb wb) : JE X E (.Compare a [.Lt] [b] pos) (tOp (rI0 fun i j => .bl (decide (i < j))) ta tb) (wOp fLt wa wb) := je_cmp op_lt abs_cmpI ha hb nob
theorem je_le (ha : JE X E a ta wa) (hb : JE X E b tb wb) : JE X E (.Compare a [.LtE] [b] pos) (tOp (rI0 fun i j => .bl (decide (i ≤ j))) ta tb) (wOp fLe wa wb) := je_cmp op_le abs_cmpI ha hb nob
theorem je_gt (ha : JE X E a ta wa) (hb : JE X E b tb wb) : JE X E (.Compare a [.Gt] [b] pos) (tOp (rI0 fun i j => .bl (decide (j < i))) ta tb) (wOp fGt wa wb) := je_cmp op_gt abs_cmpI ha hb nob
theorem je_ge (ha : JE X E a ta wa) (hb : JE X E b tb wb) : JE X E (.Compare a [.GtE] [b] pos) (tOp (rI0 fun i j => .bl (decide (j ≤ i))) ta tb) (wOp fGe wa wb) := je_cmp op_ge abs_cmpI ha hb nob
theorem jt_eq {K : PySem.W.Frag} (hu : X.A.units + 64 < cLine) (ha : JE X E a ta wa) (hb : JE X E b tb wb) (hK : X.K = K := by rfl) : JT X E (.Compare a [.Eq] [b] pos) (tTest (tOp (rEqAll K) ta tb)) (wTest (wOp fEq wa wb)) := by
  subst hK
  exact jt_cmp (op_eqAll hu) abs_eq ha hb nob
theorem jt_ne {K : PySem.W.Frag} (hu : X.A.units + 64 < cLine) (ha : JE X E a ta wa) (hb : JE X E b tb wb) (hK : X.K = K := by rfl) : JT X E (.Compare a [.NotEq] [b] pos) (tTest (tOp (rNeAll K) ta tb)) (wTest (wOp fNe wa wb)) := by
  subst hK
  exact jt_cmp (op_neAll hu) abs_ne ha hb nob
theorem jt_lt (ha : JE X E a ta wa) (hb : JE X E b tb wb) : JT X E (.Compare a [.Lt] [b] pos) (tTest (tOp (rI0 fun i j => .bl (decide (i < j))) ta tb)) (wTest (wOp fLt wa wb)) := jt_cmp op_lt abs_cmpI ha hb nob
theorem jt_le (ha : JE X E a ta wa) (hb : JE X E b tb wb) : JT X E (.Compare a [.LtE] [b] pos) (tTest (tOp (rI0 fun i j => .bl (decide (i ≤ j))) ta tb)) (wTest (wOp fLe wa wb)) := jt_cmp op_le abs_cmpI ha hb nob
theorem jt_gt (ha : JE X E a ta wa) (hb : JE X E b tb wb) : JT X E (.Compare a [.Gt] [b] pos) (tTest (tOp (rI0 fun i j => .bl (decide (j < i))) ta tb)) (wTest (wOp fGt wa wb)) := jt_cmp op_gt abs_cmpI ha hb nob
theorem jt_ge (ha : JE X E a ta wa) (hb : JE X E b tb wb) : JT X E (.Compare a [.GtE] [b] pos) (tTest (tOp (rI0 fun i j => .bl (decide (j ≤ i))) ta tb)) (wTest (wOp fGe wa wb)) := jt_cmp op_ge abs_cmpI ha hb nob

/-! ### a < b < c -/
theorem abs_chain {K : PySem.W.Frag} {r r' : R2} {f f' : F2} (hr : AbsR2 K E r f) (hr' : AbsR2 K E r' f') (ha : AbsE K E ta wa) (hb : AbsE K E tb wb) (hc : AbsE K E tc wc) : AbsE K E (tChain r r' ta tb tc) (wChain f f' wa wb wc) := by
  intro ι σ H σD S Q XX Qh rs s h l lx
  refine ha ι σ H σD S _ XX _ rs s h ?_ lx
  intro ι1 d1 S1 v1 H1 e1 r1 p1 h1
  refine hb ι1 σ H1 σD S1 _ XX _ r1 (s.mono e1) h1 ?_ (lx.ext e1)
  intro ι2 d2 S2 v2 H2 e2 r2 p2 h2
  refine hr ι2 H2 S2 d1 d2 v1 v2 _ XX _ r2 (Rep.mono e2 _ _ p1) p2 h2 ?_ (lx.ext (e1.trans e2))
  intro ι3 z S3 vz H3 e3 r3 p3 h3
  cases z <;> try exact h3.elim
  rename_i k
  refine ⟨k, rep_bl.mp p3, ?_⟩
  have ee := (e1.trans e2).trans e3
  cases k with
  | false => exact l ι3 (.bl false) S3 _ H3 ee r3 (rep_bl.mpr rfl) h3
  | true =>
    refine hc ι3 σ H3 σD S3 _ XX _ r3 (s.mono ee) h3 ?_ (lx.ext ee)
    intro ι4 d4 S4 v4 H4 e4 r4 p4 h4
    exact hr' ι4 H4 S4 d2 d4 v2 v4 Q XX Qh r4 (Rep.mono (e3.trans e4) _ _ p2) p4 h4 (l.ext (ee.trans e4)) (lx.ext (ee.trans e4))
theorem je_chain {op op' : CmpOp} {r r' : R2} {f f' : F2} (ho : OpR X (compareOp op) r) (ho' : OpR X (compareOp op') r') (hr : AbsR2 X.K E r f) (hr' : AbsR2 X.K E r' f') (ha : JE X E a ta wa) (hb : JE X E b tb wb) (hc : JE X E c tc wc)
    (hm : lastMarks [op, op'] [b, c] = false := by with_unfolding_all rfl) : JE X E (.Compare a [op, op'] [b, c] pos) (tChain r r' ta tb tc) (wChain f f' wa wb wc) :=
  ⟨pe_chain ho ho' ha.pe hb.pe hc.pe hm, abs_chain hr hr' ha.ab hb.ab hc.ab⟩
theorem jt_chain {op op' : CmpOp} {r r' : R2} {f f' : F2} (ho : OpR X (compareOp op) r) (ho' : OpR X (compareOp op') r') (hr : AbsR2 X.K E r f) (hr' : AbsR2 X.K E r' f') (ha : JE X E a ta wa) (hb : JE X E b tb wb) (hc : JE X E c tc wc)
    (hm : lastMarks [op, op'] [b, c] = false := by with_unfolding_all rfl) : JT X E (.Compare a [op, op'] [b, c] pos) (tTest (tChain r r' ta tb tc)) (wTest (wChain f f' wa wb wc)) :=
  ⟨pt_chain ho ho' ha.pe hb.pe hc.pe hm, abs_test (abs_chain hr hr' ha.ab hb.ab hc.ab)⟩

/-! ### x in xs -/
def flatD : D → Bool
  | .non => true
  | .bl _ => true
  | .int _ => true
  | .str _ => true
  | _ => false
def eqF : D → D → Bool
  | .non, .non => true
  | .bl a, .bl b => a == b
  | .bl a, .int b => (if a then 1 else 0) == b
  | .int a, .bl b => a == (if b then 1 else 0)
  | .int a, .int b => a == b
  | .str a, .str b => a == b
  | _, _ => false
theorem flat_rep {K ι H} {d : D} {v : V} (h : Rep K ι H d v) (f : flatD d = true) : flatV v = true := by
  cases d <;> first
    | (rw [rep_non] at h; subst h; rfl)
    | (rw [rep_bl] at h; subst h; rfl)
    | (rw [rep_int] at h; subst h; rfl)
    | (rw [rep_str] at h; subst h; rfl)
    | cases f
theorem eqF_rep {K ι H} {d e : D} {v u : V} (h : Rep K ι H d v) (h2 : Rep K ι H e u) (f : flatD d = true) (f2 : flatD e = true) : eqF d e = eqV v u := by
  cases d <;> cases e <;> first
    | (simp only [rep_non, rep_bl, rep_int, rep_str] at h h2; subst h h2; rfl)
    | exact Bool.noConfusion f
    | exact Bool.noConfusion f2
theorem flatL_rep {K ι H} : ∀ {ds : List D} {xs : List V}, RepL K ι H ds xs → ds.all flatD = true → xs.all flatV = true
  | [], _, h, _ => by unfold RepL at h; subst h; rfl
  | d :: ds, _, h, f => by
    unfold RepL at h
    obtain ⟨x, r, rfl, h1, h2⟩ := h
    rw [List.all_cons, Bool.and_eq_true] at f
    rw [List.all_cons, flat_rep h1 f.1, flatL_rep h2 f.2]; rfl
theorem inV_rep {K ι H} {e : D} {u : V} (he : Rep K ι H e u) (fe : flatD e = true) : ∀ {ds : List D} {xs : List V}, RepL K ι H ds xs → ds.all flatD = true → (ds.any fun d => eqF d e) = inV u xs
  | [], _, h, _ => by unfold RepL at h; subst h; rfl
  | d :: ds, _, h, f => by
    unfold RepL at h
    obtain ⟨x, r, rfl, h1, h2⟩ := h
    rw [List.all_cons, Bool.and_eq_true] at f
    show (eqF d e || ds.any fun d => eqF d e) = (eqV x u || r.any fun y => eqV y u)
    rw [eqF_rep h1 he f.1 fe, inV_rep he fe h2 f.2]; rfl
def fInB (neg : Bool) : F2 := fun x y S Q _ => match items S y with
  | some ds => (flatD x = true ∧ ds.all flatD = true) ∧ Q (.bl (if neg then !(ds.any fun d => eqF d x) else ds.any fun d => eqF d x)) S
  | none => False
theorem abs_in {K : PySem.W.Frag} {neg : Bool} : AbsR2 K E (rIn K neg) (fInB neg) := by
  intro ι H S x y v u Q XX Qh r hx hy h l lx
  unfold fInB at h
  split at h
  · rename_i ds e
    obtain ⟨p, xs, rfl, hs, hl⟩ := items_rep r hy e
    obtain ⟨⟨f1, f2⟩, q⟩ := h
    refine ⟨p, xs, rfl, hs, flat_rep hx f1, flatL_rep hl f2, ?_⟩
    rw [← inV_rep hx f1 hl f2]
    exact l ι _ S _ H Ext.refl r (rep_bl.mpr rfl) q
  · exact h.elim
theorem je_in {K : PySem.W.Frag} (hm : behindInMarks .In b = false := by rfl) (ha : JE X E a ta wa) (hb : JE X E b tb wb) (hK : X.K = K := by rfl) : JE X E (.Compare a [.In] [b] pos) (tOp (rIn K false) ta tb) (wOp (fInB false) wa wb) := by
  subst hK
  exact je_cmp op_in_seq abs_in ha hb hm
theorem je_notin {K : PySem.W.Frag} (hm : behindInMarks .NotIn b = false := by rfl) (ha : JE X E a ta wa) (hb : JE X E b tb wb) (hK : X.K = K := by rfl) : JE X E (.Compare a [.NotIn] [b] pos) (tOp (rIn K true) ta tb) (wOp (fInB true) wa wb) := by
  subst hK
  exact je_cmp op_notIn_seq abs_in ha hb hm
theorem jt_in {K : PySem.W.Frag} (hm : behindInMarks .In b = false := by rfl) (ha : JE X E a ta wa) (hb : JE X E b tb wb) (hK : X.K = K := by rfl) : JT X E (.Compare a [.In] [b] pos) (tTest (tOp (rIn K false) ta tb)) (wTest (wOp (fInB false) wa wb)) := by
  subst hK
  exact jt_cmp op_in_seq abs_in ha hb hm
theorem jt_notin {K : PySem.W.Frag} (hm : behindInMarks .NotIn b = false := by rfl) (ha : JE X E a ta wa) (hb : JE X E b tb wb) (hK : X.K = K := by rfl) : JT X E (.Compare a [.NotIn] [b] pos) (tTest (tOp (rIn K true) ta tb)) (wTest (wOp (fInB true) wa wb)) := by
  subst hK
  exact jt_cmp op_notIn_seq abs_in ha hb hm
/-! ### methods -/
def wBits (wo : WE) : WE := fun σ S Q X => wo σ S (fun d S1 => match d with
  | .int i => Q (.int ((Builtin.Int.intBits i : Nat) : Int)) S1
  | _ => False) X
theorem je_bits (ho : JE X E o to wo) (hbase : attributeBase o "bit_length" X.env (eval o X.env) = eval o X.env := by rfl) (hline : (apos.endLine == pos.line) = true := by rfl) : JE X E (.Call (.Attribute o "bit_length" apos) [] [] pos) (tBits to) (wBits wo) := by
  refine ⟨pe_bits ho.pe hbase hline, ?_⟩
  intro ι σ H σD S Q XX Qh r s h l lx
  refine ho.ab ι σ H σD S _ XX _ r s h ?_ lx
  intro ι1 d1 S1 v1 H1 e1 r1 p1 h1
  cases d1 <;> try exact h1.elim
  exact ⟨_, rep_int.mp p1, l ι1 _ S1 _ H1 e1 r1 (rep_int.mpr rfl) h1⟩
/-- o.append(e) of a cell -/
def fApp (o : D) (ds : List D) (S : Sto) (Q : VKD) : Prop := match o, ds with
  | .ref n, [d] => match S[n]? with
    | some (.lst es) => es.length < sizeLine ∧ Q .non (S.set n (.lst (es ++ [d])))
    | _ => False
  | _, _ => False
def wApp (wo : WE) (w : WA) : WE := fun σ S Q X => wo σ S (fun o S1 => (match o with
  | .ref n => match S1[n]? with
    | some (.lst _) => True
    | _ => False
  | _ => False) ∧ w σ S1 (fun ds S2 => fApp o ds S2 Q) X) X
theorem je_append {K : PySem.W.Frag} (ho : JE X E o to wo) (ha : JA X E (e :: es) t w) (hbase : attributeBase o "append" X.env (eval o X.env) = eval o X.env := by rfl)
    (hfew : ((backTo pos (starEach (e :: es) X.env)).all (fun x => !x.1) && (backToKw pos (keywordEach [] X.env)).all (fun x => x.1.isSome)
      && decide ((e :: es).length + ([] : List Keyword).length + (if ([] : List Keyword).isEmpty then 0 else 1) < 30)) = true := by rfl)
    (hline : (apos.endLine == pos.line) = true := by rfl) (hs : starEach (e :: es) X.env = (false, eval e X.env) :: starEach es X.env := by rfl) (hplain : (backTo pos (starEach es X.env)).any (·.1) = false := by rfl) (hK : X.K = K := by rfl) :
    JE X E (.Call (.Attribute o "append" apos) (e :: es) [] pos) (tBM K "list" rAppend to t) (wApp wo w) := by
  subst hK
  refine ⟨pe_bm PySem.F.plainAttrs_list PySem.F.slot_list_append PySem.F.type_list_append mt_append ho.pe ha.pe hbase hfew hline hs hplain, ?_⟩
  intro ι σ H σD S Q XX Qh r s h l lx
  refine ho.ab ι σ H σD S _ XX _ r s h ?_ lx
  intro ι1 d1 S1 v1 H1 e1 r1 p1 h1
  obtain ⟨h1, h2⟩ := h1
  split at h1
  · rename_i n
    split at h1
    · rename_i es0 hc
      obtain ⟨a, rfl, ha1⟩ := rep_ref.mp p1
      obtain ⟨xs0, q1, q2⟩ := r1.cel n _ a hc ha1
      refine ⟨.inl ⟨rfl, xs0, SqL.of q1⟩, ?_⟩
      refine ha.ab ι1 σ H1 σD S1 _ XX _ r1 (s.mono e1) h2 ?_ (lx.ext e1)
      intro ι2 ds S2 vs H2 e2 r2 p2 h3
      unfold fApp at h3
      split at h3
      · rename_i n2 d en
        cases en
        split at h3
        · rename_i es2 hc2
          obtain ⟨v, ev, p3⟩ := repL1 p2
          subst ev
          have ha2 := e2.get ha1
          obtain ⟨xs, q3, q4⟩ := r2.cel n _ a hc2 ha2
          have ex := Ext.wr (o' := .lst (xs ++ [v])) r2 (List.mem_of_getElem? ha2) q3 True.intro
          refine ⟨a, xs, v, rfl, rfl, q3, by rw [← RepL.length q4]; exact h3.1, ?_⟩
          exact l ι2 .non _ .non _ ((e1.trans e2).trans ex) (r2.wr (c := .lst (es2 ++ [d])) ha2 q3 True.intro ⟨_, upd_same, RepL.append (RepL.mono ex _ _ q4) (RepL.cons (Rep.mono ex _ _ p3) RepL.nil)⟩) (rep_non.mpr rfl) h3.2
        · exact h3.elim
      · exact h3.elim
    · exact h1.elim
  · exact h1.elim
end
/-- where a def is not called -/
def aspNo : ASp := fun _ _ _ _ => False
theorem cal_no {P : Program} {w : World} {K : PySem.W.Frag} {mg : Str → Option Value} {base : Heap} {x qual : Str} {st : Stmt} {f : Addr} {fd : FuncData} {ps : List Str} (F : Fun K x qual st f fd) (hm : mg x = some (.ref f)) (hb : Binds K fd ps []) : Cal P w K mg base 0 x aspNo :=
  ⟨f, fd, ps, ⟨fun vs H Q E ⟨_, _, _, _, _, _, _, z, _⟩ => z.elim, fun A outer s H args us vs Q E _ _ _ _ ⟨_, _, _, _, _, _, _, z, _⟩ => z.elim⟩, hm, F.kp, hb⟩
end AW
/-! AW11: what readings come to. -/
namespace AW
open PySem PySem.Spec PyProof.Rows L2

theorem z_map_cons {α β : Type} (f : α → β) (a : α) (l : List α) : (a :: l).map f = f a :: l.map f := rfl
theorem z_map_nil {α β : Type} (f : α → β) : ([] : List α).map f = [] := rfl
theorem z_len_cons {α : Type} (a : α) (l : List α) : (a :: l).length = l.length + 1 := rfl
theorem z_len_nil {α : Type} : ([] : List α).length = 0 := rfl
theorem z_cons_append {α : Type} (a : α) (l r : List α) : (a :: l) ++ r = a :: (l ++ r) := rfl
theorem z_nil_append {α : Type} (r : List α) : [] ++ r = r := rfl
theorem z_rep0 {α : Type} (a : α) : List.replicate 0 a = [] := rfl
theorem z_rep {α : Type} (n : Nat) (a : α) : List.replicate (n + 1) a = a :: List.replicate n a := rfl
theorem z_get0 {α : Type} (a : α) (l : List α) : (a :: l)[0]? = some a := rfl
theorem z_get {α : Type} (n : Nat) (a : α) (l : List α) : (a :: l)[n + 1]? = l[n]? := rfl
theorem z_set0 {α : Type} (a b : α) (l : List α) : (a :: l).set 0 b = b :: l := rfl
theorem z_set {α : Type} (n : Nat) (a b : α) (l : List α) : (a :: l).set (n + 1) b = a :: l.set n b := rfl
theorem z_set_set {α : Type} (l : List α) (n : Nat) (a b : α) : (l.set n a).set n b = l.set n b := List.set_set ..
theorem z_len_set {α : Type} (l : List α) (n : Nat) (a : α) : (l.set n a).length = l.length := List.length_set ..
theorem z_true_and (p : Prop) : (True ∧ p) = p := true_and p
theorem z_and_true (p : Prop) : (p ∧ True) = p := and_true p
theorem z_if_f {α : Sort u} (a b : α) : (if false = true then a else b) = b := if_neg Bool.false_ne_true
theorem z_if_t {α : Sort u} (a b : α) : (if true = true then a else b) = a := if_pos rfl
theorem z_not_t : (!true) = false := rfl
theorem z_not_f : (!false) = true := rfl
theorem z_if_dec {α : Sort u} (p : Prop) [h : Decidable p] (a b : α) : (if decide p = true then a else b) = if p then a else b := by
  by_cases q : p
  · rw [if_pos q, if_pos (decide_eq_true q)]
  · rw [if_neg q, if_neg (by rw [decide_eq_false q]; exact Bool.false_ne_true)]
theorem z_if_ndec {α : Sort u} (p : Prop) [h : Decidable p] (a b : α) : (if (!decide p) = true then a else b) = if p then b else a := by
  by_cases q : p
  · rw [if_pos q, if_neg (by rw [decide_eq_true q]; exact Bool.false_ne_true)]
  · rw [if_neg q, if_pos (by rw [decide_eq_false q]; rfl)]
theorem z_if_T {α : Sort u} {h : Decidable True} (a b : α) : @ite α True h a b = a := if_pos True.intro
theorem z_if_F {α : Sort u} {h : Decidable False} (a b : α) : @ite α False h a b = b := if_neg id
theorem z_cast0 : ((0 : Nat) : Int) = 0 := rfl
theorem z_cast1 : ((1 : Nat) : Int) = 1 := rfl
theorem z_some_eq {α : Type} (a b : α) : (some a = some b) = (a = b) := propext ⟨Option.some.inj, congrArg some⟩
theorem at0 (a : D) (r : List D) : atI (a :: r) 0 = some a := atI_nat (j := 0) rfl
theorem at1 (a b : D) (r : List D) : atI (a :: b :: r) 1 = some b := atI_nat (j := 1) rfl
theorem at2 (a b c : D) (r : List D) : atI (a :: b :: c :: r) 2 = some c := atI_nat (j := 2) rfl
theorem at3 (a b c d : D) (r : List D) : atI (a :: b :: c :: d :: r) 3 = some d := atI_nat (j := 3) rfl
theorem at4 (a b c d e : D) (r : List D) : atI (a :: b :: c :: d :: e :: r) 4 = some e := atI_nat (j := 4) rfl
theorem at5 (a b c d e f : D) (r : List D) : atI (a :: b :: c :: d :: e :: f :: r) 5 = some f := atI_nat (j := 5) rfl
theorem at6 (a b c d e f g : D) (r : List D) : atI (a :: b :: c :: d :: e :: f :: g :: r) 6 = some g := atI_nat (j := 6) rfl
theorem at7 (a b c d e f g h : D) (r : List D) : atI (a :: b :: c :: d :: e :: f :: g :: h :: r) 7 = some h := atI_nat (j := 7) rfl
theorem atI_of {α : Type} {ds : List α} {k : Int} {d : α} (h0 : 0 ≤ k) (h : ds[k.toNat]? = some d) : atI ds k = some d := by
  have e : k = ((k.toNat : Nat) : Int) := by omega
  rw [e]; exact atI_nat h
theorem atI_last1 {α : Type} (ds : List α) : atI ds (-1) = ds.getLast? := by
  rcases List.eq_nil_or_concat ds with h | ⟨l, a, h⟩
  · subst h; rfl
  · subst h; rw [List.concat_eq_append, atI_last]; simp
theorem ixN_nat {n k : Nat} (h : k < n) : ixN n (k : Int) = some k := by
  unfold ixN
  rw [if_pos (by omega), if_pos (by omega)]
  rfl
theorem ixN_of {n : Nat} {k : Int} (h0 : 0 ≤ k) (h : k < n) : ixN n k = some k.toNat := by
  unfold ixN
  rw [if_pos h0, if_pos h]
theorem ix41 : ixN 4 1 = some 1 := rfl
theorem ix42 : ixN 4 2 = some 2 := rfl
theorem ix43 : ixN 4 3 = some 3 := rfl
theorem gss {S : Sto} {n : Nat} {c : Cel} (h : n < S.length) : (S.set n c)[n]? = some c := List.getElem?_set_self h
theorem get_set {S : Sto} {n : Nat} {c c0 : Cel} (h : S[n]? = some c0) : (S.set n c)[n]? = some c := by
  rw [List.getElem?_set_self (List.getElem?_eq_some_iff.mp h).1]
theorem get_set_ne {S : Sto} {n m : Nat} {c : Cel} (h : n ≠ m) : (S.set n c)[m]? = S[m]? := List.getElem?_set_ne h
/-- a store with other cells behind it -/
theorem gives_drop {Q : VKD} {S g : Sto} {m : Nat} {d : D} (hm : m ≤ S.length) (hc : Closed S) (hd : d.under S.length = true) (h : Q d S) : Gives Q m d (S ++ g) := .inr ⟨S, d, g, rfl, hm, hc, .same hd, h⟩
theorem gives_now {Q : VKD} {S : Sto} {m : Nat} {d : D} (h : Q d S) : Gives Q m d S := .inl h

/-- a block cut behind its first statement: what holds there is all that the rest may use -/
theorem seq_cut {w u : WS} {D : AE} {σ : ASt} {S : Sto} {X : XKD} (P : ASt → Sto → Prop) (h2 : ∀ σ' S', P σ' S' → u D σ' S' X)
    (h1 : ∀ R : ASt → Sto → Prop, (∀ σ' S', P σ' S' → R σ' S') → w { nx := R, rt := D.rt, bk := D.bk, ct := D.ct } σ S X) : wSeq w u D σ S X := h1 _ h2
/-- a while: P holds ahead of each test; m falls -/
theorem while_cut {c : WT} {b : WS} {D0 : AE} {σ : ASt} {S : Sto} {X : XKD} (P : Nat → ASt → Sto → Prop) (m0 : Nat) (h0 : P m0 σ S)
    (hs : ∀ m σ S (R : ASt → Sto → Prop), P m σ S → (∀ m' σ' S', m' < m → P m' σ' S' → R σ' S') → c σ S (fun k S1 => if k = true then b { nx := R, rt := D0.rt, bk := D0.nx, ct := R } σ S1 X else D0.nx σ S1) X) : wWhile c b D0 σ S X :=
  ⟨P, ⟨m0, h0⟩, fun m σ S h => hs m σ S _ h fun m' σ' S' hl hp => ⟨m', hl, hp⟩⟩
/-- a for over a list that is known: P i holds ahead of the i-th turn -/
theorem for_cut {wg : WG} {b : WS} {D0 : AE} {σ : ASt} {S : Sto} {X : XKD} (ds : List D) (P : Nat → ASt → Sto → Prop) (h0 : P 0 σ S)
    (hs : ∀ i d σ S (R : ASt → Sto → Prop), ds[i]? = some d → P i σ S → (∀ σ' S', P (i + 1) σ' S' → R σ' S') → wg d σ S (fun σ1 S1 => b { nx := R, rt := D0.rt, bk := D0.nx, ct := R } σ1 S1 X) X)
    (hd : ∀ σ S, P ds.length σ S → D0.nx σ S) : forL wg b D0 X ds σ S := by
  have gen : ∀ (k i : Nat) (σ : ASt) (S : Sto), k + i = ds.length → P i σ S → forL wg b D0 X (ds.drop i) σ S := by
    intro k
    induction k with
    | zero =>
      intro i σ S e hp
      have e' : i = ds.length := by omega
      subst e'
      rw [List.drop_length]
      exact hd σ S hp
    | succ k ih =>
      intro i σ S e hp
      have hlt : i < ds.length := by omega
      rw [List.drop_eq_getElem_cons hlt]
      unfold forL
      exact hs i ds[i] σ S _ (List.getElem?_eq_getElem hlt) hp fun σ' S' h => ih (i + 1) σ' S' (by omega) h
  have q := gen ds.length 0 σ S (by omega) h0
  rwa [List.drop_zero] at q
theorem rangeD_len (lo : Int) (n : Nat) : (rangeD lo n).length = n := by unfold rangeD; simp
theorem rangeD_get {lo : Int} {n i : Nat} {d : D} (h : (rangeD lo n)[i]? = some d) : i < n ∧ d = .int (lo + (i : Nat)) := by
  have hi : i < n := by rw [← rangeD_len lo n]; exact (List.getElem?_eq_some_iff.mp h).1
  refine ⟨hi, ?_⟩
  unfold rangeD at h
  rw [List.getElem?_map, List.getElem?_range hi] at h
  exact (Option.some.inj h).symm
theorem range_cut {wg : WG} {b : WS} {D0 : AE} {σ : ASt} {S : Sto} {X : XKD} (lo : Int) (n : Nat) (P : Nat → ASt → Sto → Prop) (h0 : P 0 σ S)
    (hs : ∀ i σ S (R : ASt → Sto → Prop), i < n → P i σ S → (∀ σ' S', P (i + 1) σ' S' → R σ' S') → wg (.int (lo + (i : Nat))) σ S (fun σ1 S1 => b { nx := R, rt := D0.rt, bk := D0.nx, ct := R } σ1 S1 X) X)
    (hd : ∀ σ S, P n σ S → D0.nx σ S) : forL wg b D0 X (rangeD lo n) σ S :=
  for_cut (rangeD lo n) P h0 (fun i d σ S R hd hp hR => by obtain ⟨h1, rfl⟩ := rangeD_get hd; exact hs i σ S R h1 hp hR) (fun σ S hp => hd σ S (by rwa [rangeD_len] at hp))
/-- one of some ints -/
theorem at_ints (ns : List Int) {k : Int} (h0 : 0 ≤ k) (h1 : k < ns.length) : ∃ m, m ∈ ns ∧ L2.atI (ns.map D.int) k = some (.int m) := by
  have hk : k.toNat < ns.length := by omega
  refine ⟨ns[k.toNat], List.getElem_mem hk, atI_of h0 ?_⟩
  rw [List.getElem?_map, List.getElem?_eq_getElem hk]; rfl
theorem log2_lt_of {n k : Nat} (h0 : 0 < k) (h : n < 2 ^ k) : n.log2 < k := by
  by_cases hn : n = 0
  · subst hn; rw [Nat.log2_zero]; exact h0
  · exact (Nat.log2_lt hn).mpr h
theorem mulOk_of {i j : Int} {a b : Nat} (ha : i.natAbs < 2 ^ a) (hb : j.natAbs < 2 ^ b) (h : a + b ≤ 100000000) : MulOk i j := by
  have key : ∀ (x : Int) (n : Nat), x.natAbs < 2 ^ n → Builtin.Int.intBits x ≤ n := fun x n hx => by
    unfold Builtin.Int.intBits
    split
    · exact Nat.zero_le _
    · rename_i h0
      by_cases hn : n = 0
      · subst hn
        simp at hx
        exact absurd (by rw [hx]; rfl) h0
      · have := log2_lt_of (Nat.pos_of_ne_zero hn) hx
        omega
  have h1 := key i a ha
  have h2 := key j b hb
  have e : bitsLine = 134217728 := by decide
  unfold MulOk IntMulOk
  intro z
  rw [Bool.and_eq_true] at z
  have z2 := z.2
  unfold Builtin.Int.intTooBig at z2
  have z3 := of_decide_eq_true z2
  rw [e] at z3
  omega
theorem divOk_of {j : Int} (h0 : j ≠ 0) (h : j.natAbs < 2 ^ 9000) : DivOk j := ⟨h0, log2_lt_of (by omega) h⟩
theorem fdiv_pos {i j : Int} (h : 0 ≤ j) : i.fdiv j = i / j := Int.fdiv_eq_ediv_of_nonneg i h
theorem fmod_pos {i j : Int} (h : 0 ≤ j) : i.fmod j = i % j := Int.fmod_eq_emod_of_nonneg i h
/-- the walk: readings come to what they say -/
local macro_rules | `(tactic| walk_at "aw") => `(tactic| try simp only [X0, wVar, wC, itemsL, items, wOp, wTest, wChain, fAdd, fSub, fMul, fDiv, fMod, fPow, fShl, fCmpI, fLt, fLe, fGt, fGe, wNeg, fEqB, fEq, fNe, fTru, wTruA, wAnd, wOr, wNotA, wAndV, wOrV, wNotV, wIf, isNon, wIsN, wNil, wCons, wTup, wLst, wLstR, fIx, wNoPart, wPart, fSl, wSl, wCB, gAbs, gInt, gLen, gTuple, gList, gListR, gSum, gAny, gAll, gMax, gMin, isTN, wIsi, wNext, wSeq, wBreak, wCont, wDrop, wRet, wRetN, wIfS, wNever, wSet, wPar, wAug, fIAdd, wgName, wgNil, wgCons, wgTup, fPut, wgSub, wAsg, wiItems, wiRange1, wiRange2, wFor, wipeD, wYes, lcTurn, wLcA, finF, finR, endOf, fInB, wBits, fApp, wApp, z_map_cons, z_map_nil, z_len_cons, z_len_nil, z_cons_append, z_nil_append, z_rep0, z_rep, z_get0, z_get, z_set0, z_set, z_set_set, z_len_set, z_true_and, z_and_true, z_if_f, z_if_t, z_not_t, z_not_f, z_if_dec, z_if_ndec, z_some_eq, z_if_T, z_if_F, z_cast0, z_cast1, Int.cast_ofNat_Int, at0, at1, at2, at3, at4, at5, at6, at7, atI_last1, ix41, ix42, ix43, startD, Nat.reduceAdd, Nat.reduceSub, L2.CPow, Int.reduceLE, Int.reduceLT, Int.reduceAbs, Int.reduceToNat, Int.reducePow, Int.reduceSub, Int.reduceAdd, Int.reduceMul, Int.reduceNeg, Int.reduceEq, Nat.reducePow, Nat.reduceLT, Nat.reduceLeDiff, Nat.reduceMul, ne_eq, not_false_eq_true, not_true_eq_false, reduceCtorEq, sizeLine_eq, see_non, see_bl, see_int, see_str, see_tup, see_fl, see_scr])
end AW
namespace AW
open PySem PySem.Spec PyProof.Rows L2
/-! ### equality of data -/
/-- trees without bools and references, of few levels -/
def D.cl : Nat → D → Bool
  | _, .int _ => true
  | _, .non => true
  | _, .str x => PyData.strOk x
  | n + 1, .tup ds => ds.all (D.cl n)
  | n + 1, .fl ds => ds.all (D.cl n)
  | _, _ => false
/-- trees without references, of few levels -/
def D.dt : Nat → D → Bool
  | _, .int _ => true
  | _, .non => true
  | _, .bl _ => true
  | _, .str x => PyData.strOk x
  | n + 1, .tup ds => ds.all (D.dt n)
  | n + 1, .fl ds => ds.all (D.dt n)
  | _, _ => false
theorem D.cl_dt : ∀ (n : Nat) (d : D), d.cl n = true → d.dt n = true := by
  intro n
  induction n with
  | zero => intro d h; cases d <;> first | rfl | exact h | cases h
  | succ n ih =>
    intro d h
    cases d with
    | tup ds => rw [D.cl, List.all_eq_true] at h; rw [D.dt, List.all_eq_true]; exact fun x hx => ih x (h x hx)
    | fl ds => rw [D.cl, List.all_eq_true] at h; rw [D.dt, List.all_eq_true]; exact fun x hx => ih x (h x hx)
    | _ => first | rfl | exact h | cases h
theorem pyL_map : ∀ ds : List D, pyL ds = ds.map D.py
  | [] => by rw [pyL, List.map_nil]
  | d :: ds => by rw [pyL, List.map_cons, pyL_map ds]
theorem pureL_all : ∀ ds : List D, pureL ds = ds.all D.pure
  | [] => by rw [pureL, List.all_nil]
  | d :: ds => by rw [pureL, List.all_cons, pureL_all ds]
theorem depthAll_le {n : Nat} : ∀ {ds : List PyData}, (∀ d ∈ ds, PyData.depth d ≤ n) → PyData.depthAll ds ≤ n
  | [], _ => by simp only [PyData.depthAll]; omega
  | d :: ds, h => by
    have a := h d (.head _)
    have b := depthAll_le (ds := ds) fun x hx => h x (.tail _ hx)
    simp only [PyData.depthAll]
    omega
theorem canLayAll0_of : ∀ {ds : List PyData}, (∀ d ∈ ds, PyData.canLay0 d = true) → PyData.canLayAll0 ds = true
  | [], _ => by simp only [PyData.canLayAll0]
  | d :: ds, h => by
    simp only [PyData.canLayAll0, Bool.and_eq_true]
    exact ⟨h d (.head _), canLayAll0_of fun x hx => h x (.tail _ hx)⟩
theorem D.dt_ok : ∀ (n : Nat) (d : D), d.dt n = true → d.pure = true ∧ PyData.canLay0 d.py = true ∧ PyData.depth d.py ≤ n := by
  intro n
  induction n with
  | zero => intro d h; cases d <;> first | (cases h; done) | exact ⟨by simp [D.pure], by simpa [D.py, PyData.canLay0, D.dt] using h, by simp [D.py, PyData.depth]⟩
  | succ n ih =>
    have all : ∀ ds : List D, ds.all (D.dt n) = true → pureL ds = true ∧ PyData.canLayAll0 (pyL ds) = true ∧ PyData.depthAll (pyL ds) ≤ n := by
      intro ds h
      rw [List.all_eq_true] at h
      refine ⟨by rw [pureL_all, List.all_eq_true]; exact fun x hx => (ih x (h x hx)).1, ?_, ?_⟩
      · rw [pyL_map]
        refine canLayAll0_of fun d hd => ?_
        obtain ⟨x, hx, rfl⟩ := List.mem_map.mp hd
        exact (ih x (h x hx)).2.1
      · rw [pyL_map]
        refine depthAll_le fun d hd => ?_
        obtain ⟨x, hx, rfl⟩ := List.mem_map.mp hd
        exact (ih x (h x hx)).2.2
    intro d h
    cases d with
    | tup ds =>
      rw [D.dt] at h
      obtain ⟨a, b, c⟩ := all ds h
      exact ⟨by simp only [D.pure, a], by simp only [D.py, PyData.canLay0, b], by simp only [D.py, PyData.depth]; omega⟩
    | fl ds =>
      rw [D.dt] at h
      obtain ⟨a, b, c⟩ := all ds h
      exact ⟨by simp only [D.pure, a], by simp only [D.py, PyData.canLay0, b], by simp only [D.py, PyData.depth]; omega⟩
    | scr ds => cases h
    | ref m => cases h
    | exc m => cases h
    | _ => exact ⟨by simp only [D.pure], by simpa [D.py, PyData.canLay0, D.dt] using h, by simp [D.py, PyData.depth]⟩
theorem eqOk_dt {x y : D} {n m : Nat} (hx : x.dt n = true) (hy : y.dt m = true) (h : n ≤ 64 := by decide) (h2 : m ≤ 64 := by decide) : EqOk x y := by
  obtain ⟨a, b, c⟩ := D.dt_ok n x hx
  obtain ⟨a', b', c'⟩ := D.dt_ok m y hy
  exact ⟨a, a', Bool.and_eq_true_iff.mpr ⟨b, decide_eq_true (by omega)⟩, Bool.and_eq_true_iff.mpr ⟨b', decide_eq_true (by omega)⟩⟩
mutual
theorem eqv_self : ∀ d : D, PyData.eqv d.py d.py = true
  | .non => by simp [D.py, PyData.eqv]
  | .bl b => by simp [D.py, PyData.eqv]
  | .int i => by simp [D.py, PyData.eqv]
  | .str x => by simp [D.py, PyData.eqv]
  | .tup ds => by simp only [D.py, PyData.eqv]; exact eqvAll_self ds
  | .fl ds => by simp only [D.py, PyData.eqv]; exact eqvAll_self ds
  | .scr ds => by simp only [D.py, PyData.eqv]; exact eqvAll_self ds
  | .ref n => by simp [D.py, PyData.eqv]
  | .exc _ => by simp [D.py, PyData.eqv]
theorem eqvAll_self : ∀ ds : List D, PyData.eqvAll (pyL ds) (pyL ds) = true
  | [] => by simp [pyL, PyData.eqvAll]
  | d :: ds => by simp only [pyL, PyData.eqvAll, eqv_self d, eqvAll_self ds, Bool.and_self]
end
theorem eqvAll_of {n m : Nat} : ∀ {xs ys : List D}, (∀ x ∈ xs, ∀ y : D, D.cl m y = true → PyData.eqv x.py y.py = true → x = y) → ys.all (D.cl m) = true → PyData.eqvAll (pyL xs) (pyL ys) = true → xs = ys
  | [], [], _, _, _ => rfl
  | [], y :: ys, _, _, h => by simp [pyL, PyData.eqvAll] at h
  | x :: xs, [], _, _, h => by simp [pyL, PyData.eqvAll] at h
  | x :: xs, y :: ys, g, c, h => by
    simp only [pyL, PyData.eqvAll, Bool.and_eq_true] at h
    rw [List.all_cons, Bool.and_eq_true] at c
    rw [g x (.head _) y c.1 h.1, eqvAll_of (n := n) (fun z hz => g z (.tail _ hz)) c.2 h.2]
/-- == of trees without bools is equality -/
theorem eqv_cl : ∀ (n m : Nat) (x y : D), x.cl n = true → y.cl m = true → PyData.eqv x.py y.py = true → x = y := by
  intro n
  induction n with
  | zero =>
    intro m x y hx hy h
    cases x <;> cases y <;> first | (cases hx; done) | (cases m <;> cases hy; done) | rfl | (simp [D.py, PyData.eqv] at h; done) | (simp [D.py, PyData.eqv] at h; subst h; rfl)
  | succ n ih =>
    intro m x y hx hy h
    cases x with
    | tup xs =>
      rw [D.cl, List.all_eq_true] at hx
      cases y with
      | tup ys =>
        cases m with
        | zero => cases hy
        | succ m =>
          rw [D.cl] at hy
          simp only [D.py, PyData.eqv] at h
          rw [eqvAll_of (n := n) (m := m) (fun x hm y hy h => ih m x y (hx x hm) hy h) hy h]
      | _ => simp [D.py, PyData.eqv] at h
    | fl xs =>
      rw [D.cl, List.all_eq_true] at hx
      cases y with
      | fl ys =>
        cases m with
        | zero => cases hy
        | succ m =>
          rw [D.cl] at hy
          simp only [D.py, PyData.eqv] at h
          rw [eqvAll_of (n := n) (m := m) (fun x hm y hy h => ih m x y (hx x hm) hy h) hy h]
      | scr ys => cases m <;> cases hy
      | _ => simp [D.py, PyData.eqv] at h
    | scr xs => cases hx
    | ref xs => cases hx
    | exc xs => cases hx
    | bl b => cases hx
    | _ =>
      cases y <;> first | (cases m <;> cases hy; done) | rfl | (simp [D.py, PyData.eqv] at h; done) | (simp [D.py, PyData.eqv] at h; subst h; rfl)
theorem eqv_dec {n m : Nat} {x y : D} (hx : x.cl n = true) (hy : y.cl m = true) {p : Prop} [Decidable p] (hp : x = y ↔ p) : PyData.eqv x.py y.py = decide p := by
  cases h : PyData.eqv x.py y.py with
  | true => exact (decide_eq_true (hp.mp (eqv_cl n m x y hx hy h))).symm
  | false =>
    refine (decide_eq_false fun q => ?_).symm
    rw [hp.mpr q, eqv_self] at h
    cases h
/-! ### loops over cells and comprehensions -/
theorem cellLen_of {S : Sto} {n : Nat} {ds : List D} (h : S[n]? = some (.lst ds)) : cellLen S n = ds.length := by unfold cellLen; rw [h]
/-- a for over a cell that stays as it is -/
theorem cel_cut {wg : WG} {b : WS} {D0 : AE} {σ : ASt} {S : Sto} {X : XKD} (n : Nat) (ds : List D) (P : Nat → ASt → Sto → Prop) (h0 : P 0 σ S) (hc : ∀ i σ S, P i σ S → S[n]? = some (.lst ds))
    (hs : ∀ i d σ S (R : ASt → Sto → Prop), ds[i]? = some d → P i σ S → (∀ σ' S', P (i + 1) σ' S' → R σ' S') → wg d σ S (fun σ1 S1 => b { nx := R, rt := D0.rt, bk := D0.nx, ct := R } σ1 S1 X) X)
    (hd : ∀ σ S, P ds.length σ S → D0.nx σ S) : forC wg b D0 X (.cel n) (cellLen S n) 0 σ S := by
  have gen : ∀ (k i : Nat) (σ : ASt) (S : Sto), k + i = ds.length → P i σ S → forC wg b D0 X (.cel n) k i σ S := by
    intro k
    induction k with
    | zero =>
      intro i σ S e hp
      have e' : i = ds.length := by omega
      subst e'
      unfold forC
      simp only [Src.at, hc _ _ _ hp]
      exact ⟨by rw [List.getElem?_eq_none (Nat.le_refl _)], hd σ S hp⟩
    | succ k ih =>
      intro i σ S e hp
      have hlt : i < ds.length := by omega
      have g : ds[i]? = some ds[i] := List.getElem?_eq_getElem hlt
      unfold forC
      simp only [Src.at, hc _ _ _ hp, g]
      exact hs i ds[i] σ S _ g hp fun σ' S' h => ih (i + 1) σ' S' (by omega) h
  rw [cellLen_of (hc _ _ _ h0)]
  exact gen ds.length 0 σ S (by omega) h0
/-- a comprehension over a list that is known: P i acc holds ahead of the i-th turn -/
theorem lc_cut {wg : WG} {wt : WT} {we : WE} {σ : ASt} {Q : List D → Sto → Prop} {S : Sto} (ds : List D) (P : Nat → List D → Sto → Prop) (h0 : P 0 [] S)
    (hs : ∀ i d acc S (R : List D → Sto → Prop), ds[i]? = some d → P i acc S → (∀ acc' S', P (i + 1) acc' S' → R acc' S') → lcTurn wg wt we σ d acc S R)
    (hd : ∀ acc S, P ds.length acc S → Q acc S) : lcL wg wt we σ Q ds [] S := by
  have gen : ∀ (k i : Nat) (acc : List D) (S : Sto), k + i = ds.length → P i acc S → lcL wg wt we σ Q (ds.drop i) acc S := by
    intro k
    induction k with
    | zero =>
      intro i acc S e hp
      have e' : i = ds.length := by omega
      subst e'
      rw [List.drop_length]
      unfold lcL
      exact hd acc S hp
    | succ k ih =>
      intro i acc S e hp
      have hlt : i < ds.length := by omega
      rw [List.drop_eq_getElem_cons hlt]
      unfold lcL
      exact hs i ds[i] acc S _ (List.getElem?_eq_getElem hlt) hp fun acc' S' h => ih (i + 1) acc' S' (by omega) h
  have q := gen ds.length 0 [] S (by omega) h0
  rwa [List.drop_zero] at q
theorem lcc_cut {wg : WG} {wt : WT} {we : WE} {σ : ASt} {Q : List D → Sto → Prop} {S : Sto} (n : Nat) (ds : List D) (P : Nat → List D → Sto → Prop) (h0 : P 0 [] S) (hc : ∀ i acc S, P i acc S → S[n]? = some (.lst ds))
    (hs : ∀ i d acc S (R : List D → Sto → Prop), ds[i]? = some d → P i acc S → (∀ acc' S', P (i + 1) acc' S' → R acc' S') → lcTurn wg wt we σ d acc S R)
    (hd : ∀ acc S, P ds.length acc S → Q acc S) : lcC wg wt we σ Q (.cel n) (cellLen S n) 0 [] S := by
  have gen : ∀ (k i : Nat) (acc : List D) (S : Sto), k + i = ds.length → P i acc S → lcC wg wt we σ Q (.cel n) k i acc S := by
    intro k
    induction k with
    | zero =>
      intro i acc S e hp
      have e' : i = ds.length := by omega
      subst e'
      unfold lcC
      simp only [Src.at, hc _ _ _ hp]
      exact ⟨by rw [List.getElem?_eq_none (Nat.le_refl _)], hd acc S hp⟩
    | succ k ih =>
      intro i acc S e hp
      have hlt : i < ds.length := by omega
      have g : ds[i]? = some ds[i] := List.getElem?_eq_getElem hlt
      unfold lcC
      simp only [Src.at, hc _ _ _ hp, g]
      exact hs i ds[i] acc S _ g hp fun acc' S' h => ih (i + 1) acc' S' (by omega) h
  rw [cellLen_of (hc _ _ _ h0)]
  exact gen ds.length 0 [] S (by omega) h0
theorem take_succ_of {α : Type} {xs : List α} {i : Nat} {d : α} (h : xs[i]? = some d) : xs.take (i + 1) = xs.take i ++ [d] := by
  rw [List.take_add_one, h]; rfl
theorem lcL_map {wg : WG} {wt : WT} {we : WE} {σ : ASt} {Q : List D → Sto → Prop} {S : Sto} (ds : List D) (f : D → D) (hs : ∀ (i : Nat) d acc (R : List D → Sto → Prop), ds[i]? = some d → R (acc ++ [f d]) S → lcTurn wg wt we σ d acc S R) (hq : Q (ds.map f) S) : lcL wg wt we σ Q ds [] S := by
  refine lc_cut ds (fun i acc S' => S' = S ∧ acc = (ds.take i).map f) ⟨rfl, rfl⟩ ?_ ?_
  · rintro i d acc S' R hd ⟨rfl, rfl⟩ hR
    exact hs i d _ R hd (hR _ _ ⟨rfl, by rw [take_succ_of hd, List.map_append]; rfl⟩)
  · rintro acc S' ⟨rfl, rfl⟩
    rw [List.take_length]
    exact hq
theorem lcC_map {wg : WG} {wt : WT} {we : WE} {σ : ASt} {Q : List D → Sto → Prop} {S : Sto} {n : Nat} {ds : List D} (hS : S[n]? = some (.lst ds)) (f : D → D) (hs : ∀ (i : Nat) d acc (R : List D → Sto → Prop), ds[i]? = some d → R (acc ++ [f d]) S → lcTurn wg wt we σ d acc S R) (hq : Q (ds.map f) S) : lcC wg wt we σ Q (.cel n) (cellLen S n) 0 [] S := by
  refine lcc_cut n ds (fun i acc S' => S' = S ∧ acc = (ds.take i).map f) ⟨rfl, rfl⟩ ?_ ?_ ?_
  · rintro i acc S' ⟨rfl, _⟩
    exact hS
  · rintro i d acc S' R hd ⟨rfl, rfl⟩ hR
    exact hs i d _ R hd (hR _ _ ⟨rfl, by rw [take_succ_of hd, List.map_append]; rfl⟩)
  · rintro acc S' ⟨rfl, rfl⟩
    rw [List.take_length]
    exact hq
theorem bls_true {α : Type} (xs : List α) {R : Bool → Prop} (h : R true) : match (some (xs.map fun _ => D.bl true)).bind blsOf with
    | some bs => R (bs.all id)
    | none => False := by
  rw [Option.bind_some, show (xs.map fun _ => D.bl true) = (xs.map fun _ => true).map D.bl by rw [List.map_map]; rfl, blsOf_map]
  have e : (xs.map fun _ => true).all id = true := by
    rw [List.all_eq_true]
    intro x hx
    obtain ⟨_, _, rfl⟩ := List.mem_map.mp hx
    rfl
  show R ((xs.map fun _ => true).all id)
  rw [e]
  exact h
/-- an if cut behind its test -/
theorem if_cut {c : WT} {a b : WS} {D0 : AE} {σ : ASt} {S : Sto} {X : XKD} (Pt Pf : Sto → Prop) (ha : ∀ S1, Pt S1 → a D0 σ S1 X) (hb : ∀ S1, Pf S1 → b D0 σ S1 X)
    (h : ∀ K : Bool → Sto → Prop, (∀ S1, Pt S1 → K true S1) → (∀ S1, Pf S1 → K false S1) → c σ S K X) : wIfS c a b D0 σ S X :=
  h _ (fun S1 h => ha S1 h) (fun S1 h => hb S1 h)
/-- a tree is equal to itself -/
theorem D.see_dt {S : Sto} : ∀ (k n : Nat) (d : D), d.dt n = true → D.see S k d = d := by
  intro k n d h
  cases d with
  | ref m => cases n <;> cases h
  | _ => cases k <;> rfl
theorem eq_same {d : D} {n : Nat} (h : d.dt n = true) {S : Sto} {Q : VKD} {X : XKD} (q : Q (.bl true) S) (hn : n ≤ 64 := by decide) : fEq d d S Q X := by
  have gen : EqOk (d.see S 4) (d.see S 4) ∧ Q (.bl (PyData.eqv (d.see S 4).py (d.see S 4).py)) S := by
    rw [D.see_dt 4 n d h, eqv_self]
    exact ⟨eqOk_dt h h hn hn, q⟩
  cases d with
  | int i =>
    show Q (.bl (decide (i = i))) S
    rw [decide_eq_true rfl]
    exact q
  | str i =>
    show Q (.bl (decide (i = i))) S
    rw [decide_eq_true rfl]
    exact q
  | _ => exact gen
theorem ne_same {d : D} {n : Nat} (h : d.dt n = true) {S : Sto} {Q : VKD} {X : XKD} (q : Q (.bl false) S) (hn : n ≤ 64 := by decide) : fNe d d S Q X := by
  have gen : EqOk (d.see S 4) (d.see S 4) ∧ Q (.bl (!PyData.eqv (d.see S 4).py (d.see S 4).py)) S := by
    rw [D.see_dt 4 n d h, eqv_self]
    exact ⟨eqOk_dt h h hn hn, q⟩
  cases d with
  | int i =>
    show Q (.bl (!decide (i = i))) S
    rw [decide_eq_true rfl]
    exact q
  | str i =>
    show Q (.bl (!decide (i = i))) S
    rw [decide_eq_true rfl]
    exact q
  | _ => exact gen
end AW
/-! AW13: the walk from the outside in. Lz holds what lies ahead, so that nothing is done to it before it is reached. -/
namespace AW
open PySem PySem.Spec PyProof.Rows L2
inductive Tg {α : Sort u} (a : α) : Type where
  | mk
def Lz {α : Sort u} (a : α) (_ : Tg a) : α := a
theorem lz_open {P : Prop} {t : Tg P} (h : P) : Lz P t := h
theorem ax_xv0 {d : D} {σ : ASt} {S : Sto} {Q : VKD} {X : XKD} : wVar 0 (some d :: σ) S Q X = (Q d S) := id rfl
theorem ax_xv1 {a0 : Option D} {d : D} {σ : ASt} {S : Sto} {Q : VKD} {X : XKD} : wVar 1 (a0 :: some d :: σ) S Q X = (Q d S) := id rfl
theorem ax_xv2 {a0 a1 : Option D} {d : D} {σ : ASt} {S : Sto} {Q : VKD} {X : XKD} : wVar 2 (a0 :: a1 :: some d :: σ) S Q X = (Q d S) := id rfl
theorem ax_xv3 {a0 a1 a2 : Option D} {d : D} {σ : ASt} {S : Sto} {Q : VKD} {X : XKD} : wVar 3 (a0 :: a1 :: a2 :: some d :: σ) S Q X = (Q d S) := id rfl
theorem ax_xv4 {a0 a1 a2 a3 : Option D} {d : D} {σ : ASt} {S : Sto} {Q : VKD} {X : XKD} : wVar 4 (a0 :: a1 :: a2 :: a3 :: some d :: σ) S Q X = (Q d S) := id rfl
theorem ax_xv5 {a0 a1 a2 a3 a4 : Option D} {d : D} {σ : ASt} {S : Sto} {Q : VKD} {X : XKD} : wVar 5 (a0 :: a1 :: a2 :: a3 :: a4 :: some d :: σ) S Q X = (Q d S) := id rfl
theorem ax_xv6 {a0 a1 a2 a3 a4 a5 : Option D} {d : D} {σ : ASt} {S : Sto} {Q : VKD} {X : XKD} : wVar 6 (a0 :: a1 :: a2 :: a3 :: a4 :: a5 :: some d :: σ) S Q X = (Q d S) := id rfl
theorem ax_xv7 {a0 a1 a2 a3 a4 a5 a6 : Option D} {d : D} {σ : ASt} {S : Sto} {Q : VKD} {X : XKD} : wVar 7 (a0 :: a1 :: a2 :: a3 :: a4 :: a5 :: a6 :: some d :: σ) S Q X = (Q d S) := id rfl
theorem ax_xv8 {a0 a1 a2 a3 a4 a5 a6 a7 : Option D} {d : D} {σ : ASt} {S : Sto} {Q : VKD} {X : XKD} : wVar 8 (a0 :: a1 :: a2 :: a3 :: a4 :: a5 :: a6 :: a7 :: some d :: σ) S Q X = (Q d S) := id rfl
theorem ax_xv9 {a0 a1 a2 a3 a4 a5 a6 a7 a8 : Option D} {d : D} {σ : ASt} {S : Sto} {Q : VKD} {X : XKD} : wVar 9 (a0 :: a1 :: a2 :: a3 :: a4 :: a5 :: a6 :: a7 :: a8 :: some d :: σ) S Q X = (Q d S) := id rfl
theorem ax_xv10 {a0 a1 a2 a3 a4 a5 a6 a7 a8 a9 : Option D} {d : D} {σ : ASt} {S : Sto} {Q : VKD} {X : XKD} : wVar 10 (a0 :: a1 :: a2 :: a3 :: a4 :: a5 :: a6 :: a7 :: a8 :: a9 :: some d :: σ) S Q X = (Q d S) := id rfl
theorem ax_xv11 {a0 a1 a2 a3 a4 a5 a6 a7 a8 a9 a10 : Option D} {d : D} {σ : ASt} {S : Sto} {Q : VKD} {X : XKD} : wVar 11 (a0 :: a1 :: a2 :: a3 :: a4 :: a5 :: a6 :: a7 :: a8 :: a9 :: a10 :: some d :: σ) S Q X = (Q d S) := id rfl
theorem ax_xv12 {a0 a1 a2 a3 a4 a5 a6 a7 a8 a9 a10 a11 : Option D} {d : D} {σ : ASt} {S : Sto} {Q : VKD} {X : XKD} : wVar 12 (a0 :: a1 :: a2 :: a3 :: a4 :: a5 :: a6 :: a7 :: a8 :: a9 :: a10 :: a11 :: some d :: σ) S Q X = (Q d S) := id rfl
theorem ax_xv13 {a0 a1 a2 a3 a4 a5 a6 a7 a8 a9 a10 a11 a12 : Option D} {d : D} {σ : ASt} {S : Sto} {Q : VKD} {X : XKD} : wVar 13 (a0 :: a1 :: a2 :: a3 :: a4 :: a5 :: a6 :: a7 :: a8 :: a9 :: a10 :: a11 :: a12 :: some d :: σ) S Q X = (Q d S) := id rfl
theorem ax_xv14 {a0 a1 a2 a3 a4 a5 a6 a7 a8 a9 a10 a11 a12 a13 : Option D} {d : D} {σ : ASt} {S : Sto} {Q : VKD} {X : XKD} : wVar 14 (a0 :: a1 :: a2 :: a3 :: a4 :: a5 :: a6 :: a7 :: a8 :: a9 :: a10 :: a11 :: a12 :: a13 :: some d :: σ) S Q X = (Q d S) := id rfl
theorem ax_xv15 {a0 a1 a2 a3 a4 a5 a6 a7 a8 a9 a10 a11 a12 a13 a14 : Option D} {d : D} {σ : ASt} {S : Sto} {Q : VKD} {X : XKD} : wVar 15 (a0 :: a1 :: a2 :: a3 :: a4 :: a5 :: a6 :: a7 :: a8 :: a9 :: a10 :: a11 :: a12 :: a13 :: a14 :: some d :: σ) S Q X = (Q d S) := id rfl
theorem ax_xv16 {a0 a1 a2 a3 a4 a5 a6 a7 a8 a9 a10 a11 a12 a13 a14 a15 : Option D} {d : D} {σ : ASt} {S : Sto} {Q : VKD} {X : XKD} : wVar 16 (a0 :: a1 :: a2 :: a3 :: a4 :: a5 :: a6 :: a7 :: a8 :: a9 :: a10 :: a11 :: a12 :: a13 :: a14 :: a15 :: some d :: σ) S Q X = (Q d S) := id rfl
theorem ax_xv17 {a0 a1 a2 a3 a4 a5 a6 a7 a8 a9 a10 a11 a12 a13 a14 a15 a16 : Option D} {d : D} {σ : ASt} {S : Sto} {Q : VKD} {X : XKD} : wVar 17 (a0 :: a1 :: a2 :: a3 :: a4 :: a5 :: a6 :: a7 :: a8 :: a9 :: a10 :: a11 :: a12 :: a13 :: a14 :: a15 :: a16 :: some d :: σ) S Q X = (Q d S) := id rfl
theorem ax_xv18 {a0 a1 a2 a3 a4 a5 a6 a7 a8 a9 a10 a11 a12 a13 a14 a15 a16 a17 : Option D} {d : D} {σ : ASt} {S : Sto} {Q : VKD} {X : XKD} : wVar 18 (a0 :: a1 :: a2 :: a3 :: a4 :: a5 :: a6 :: a7 :: a8 :: a9 :: a10 :: a11 :: a12 :: a13 :: a14 :: a15 :: a16 :: a17 :: some d :: σ) S Q X = (Q d S) := id rfl
theorem ax_xv19 {a0 a1 a2 a3 a4 a5 a6 a7 a8 a9 a10 a11 a12 a13 a14 a15 a16 a17 a18 : Option D} {d : D} {σ : ASt} {S : Sto} {Q : VKD} {X : XKD} : wVar 19 (a0 :: a1 :: a2 :: a3 :: a4 :: a5 :: a6 :: a7 :: a8 :: a9 :: a10 :: a11 :: a12 :: a13 :: a14 :: a15 :: a16 :: a17 :: a18 :: some d :: σ) S Q X = (Q d S) := id rfl
theorem ax_xv20 {a0 a1 a2 a3 a4 a5 a6 a7 a8 a9 a10 a11 a12 a13 a14 a15 a16 a17 a18 a19 : Option D} {d : D} {σ : ASt} {S : Sto} {Q : VKD} {X : XKD} : wVar 20 (a0 :: a1 :: a2 :: a3 :: a4 :: a5 :: a6 :: a7 :: a8 :: a9 :: a10 :: a11 :: a12 :: a13 :: a14 :: a15 :: a16 :: a17 :: a18 :: a19 :: some d :: σ) S Q X = (Q d S) := id rfl
theorem ax_xv21 {a0 a1 a2 a3 a4 a5 a6 a7 a8 a9 a10 a11 a12 a13 a14 a15 a16 a17 a18 a19 a20 : Option D} {d : D} {σ : ASt} {S : Sto} {Q : VKD} {X : XKD} : wVar 21 (a0 :: a1 :: a2 :: a3 :: a4 :: a5 :: a6 :: a7 :: a8 :: a9 :: a10 :: a11 :: a12 :: a13 :: a14 :: a15 :: a16 :: a17 :: a18 :: a19 :: a20 :: some d :: σ) S Q X = (Q d S) := id rfl
theorem ax_xv22 {a0 a1 a2 a3 a4 a5 a6 a7 a8 a9 a10 a11 a12 a13 a14 a15 a16 a17 a18 a19 a20 a21 : Option D} {d : D} {σ : ASt} {S : Sto} {Q : VKD} {X : XKD} : wVar 22 (a0 :: a1 :: a2 :: a3 :: a4 :: a5 :: a6 :: a7 :: a8 :: a9 :: a10 :: a11 :: a12 :: a13 :: a14 :: a15 :: a16 :: a17 :: a18 :: a19 :: a20 :: a21 :: some d :: σ) S Q X = (Q d S) := id rfl
theorem ax_xv23 {a0 a1 a2 a3 a4 a5 a6 a7 a8 a9 a10 a11 a12 a13 a14 a15 a16 a17 a18 a19 a20 a21 a22 : Option D} {d : D} {σ : ASt} {S : Sto} {Q : VKD} {X : XKD} : wVar 23 (a0 :: a1 :: a2 :: a3 :: a4 :: a5 :: a6 :: a7 :: a8 :: a9 :: a10 :: a11 :: a12 :: a13 :: a14 :: a15 :: a16 :: a17 :: a18 :: a19 :: a20 :: a21 :: a22 :: some d :: σ) S Q X = (Q d S) := id rfl
theorem ax_xv24 {a0 a1 a2 a3 a4 a5 a6 a7 a8 a9 a10 a11 a12 a13 a14 a15 a16 a17 a18 a19 a20 a21 a22 a23 : Option D} {d : D} {σ : ASt} {S : Sto} {Q : VKD} {X : XKD} : wVar 24 (a0 :: a1 :: a2 :: a3 :: a4 :: a5 :: a6 :: a7 :: a8 :: a9 :: a10 :: a11 :: a12 :: a13 :: a14 :: a15 :: a16 :: a17 :: a18 :: a19 :: a20 :: a21 :: a22 :: a23 :: some d :: σ) S Q X = (Q d S) := id rfl
theorem ax_xv25 {a0 a1 a2 a3 a4 a5 a6 a7 a8 a9 a10 a11 a12 a13 a14 a15 a16 a17 a18 a19 a20 a21 a22 a23 a24 : Option D} {d : D} {σ : ASt} {S : Sto} {Q : VKD} {X : XKD} : wVar 25 (a0 :: a1 :: a2 :: a3 :: a4 :: a5 :: a6 :: a7 :: a8 :: a9 :: a10 :: a11 :: a12 :: a13 :: a14 :: a15 :: a16 :: a17 :: a18 :: a19 :: a20 :: a21 :: a22 :: a23 :: a24 :: some d :: σ) S Q X = (Q d S) := id rfl
theorem ax_xv26 {a0 a1 a2 a3 a4 a5 a6 a7 a8 a9 a10 a11 a12 a13 a14 a15 a16 a17 a18 a19 a20 a21 a22 a23 a24 a25 : Option D} {d : D} {σ : ASt} {S : Sto} {Q : VKD} {X : XKD} : wVar 26 (a0 :: a1 :: a2 :: a3 :: a4 :: a5 :: a6 :: a7 :: a8 :: a9 :: a10 :: a11 :: a12 :: a13 :: a14 :: a15 :: a16 :: a17 :: a18 :: a19 :: a20 :: a21 :: a22 :: a23 :: a24 :: a25 :: some d :: σ) S Q X = (Q d S) := id rfl
theorem ax_xv27 {a0 a1 a2 a3 a4 a5 a6 a7 a8 a9 a10 a11 a12 a13 a14 a15 a16 a17 a18 a19 a20 a21 a22 a23 a24 a25 a26 : Option D} {d : D} {σ : ASt} {S : Sto} {Q : VKD} {X : XKD} : wVar 27 (a0 :: a1 :: a2 :: a3 :: a4 :: a5 :: a6 :: a7 :: a8 :: a9 :: a10 :: a11 :: a12 :: a13 :: a14 :: a15 :: a16 :: a17 :: a18 :: a19 :: a20 :: a21 :: a22 :: a23 :: a24 :: a25 :: a26 :: some d :: σ) S Q X = (Q d S) := id rfl
theorem ax_xv28 {a0 a1 a2 a3 a4 a5 a6 a7 a8 a9 a10 a11 a12 a13 a14 a15 a16 a17 a18 a19 a20 a21 a22 a23 a24 a25 a26 a27 : Option D} {d : D} {σ : ASt} {S : Sto} {Q : VKD} {X : XKD} : wVar 28 (a0 :: a1 :: a2 :: a3 :: a4 :: a5 :: a6 :: a7 :: a8 :: a9 :: a10 :: a11 :: a12 :: a13 :: a14 :: a15 :: a16 :: a17 :: a18 :: a19 :: a20 :: a21 :: a22 :: a23 :: a24 :: a25 :: a26 :: a27 :: some d :: σ) S Q X = (Q d S) := id rfl
theorem ax_xv29 {a0 a1 a2 a3 a4 a5 a6 a7 a8 a9 a10 a11 a12 a13 a14 a15 a16 a17 a18 a19 a20 a21 a22 a23 a24 a25 a26 a27 a28 : Option D} {d : D} {σ : ASt} {S : Sto} {Q : VKD} {X : XKD} : wVar 29 (a0 :: a1 :: a2 :: a3 :: a4 :: a5 :: a6 :: a7 :: a8 :: a9 :: a10 :: a11 :: a12 :: a13 :: a14 :: a15 :: a16 :: a17 :: a18 :: a19 :: a20 :: a21 :: a22 :: a23 :: a24 :: a25 :: a26 :: a27 :: a28 :: some d :: σ) S Q X = (Q d S) := id rfl
theorem ax_xv30 {a0 a1 a2 a3 a4 a5 a6 a7 a8 a9 a10 a11 a12 a13 a14 a15 a16 a17 a18 a19 a20 a21 a22 a23 a24 a25 a26 a27 a28 a29 : Option D} {d : D} {σ : ASt} {S : Sto} {Q : VKD} {X : XKD} : wVar 30 (a0 :: a1 :: a2 :: a3 :: a4 :: a5 :: a6 :: a7 :: a8 :: a9 :: a10 :: a11 :: a12 :: a13 :: a14 :: a15 :: a16 :: a17 :: a18 :: a19 :: a20 :: a21 :: a22 :: a23 :: a24 :: a25 :: a26 :: a27 :: a28 :: a29 :: some d :: σ) S Q X = (Q d S) := id rfl
theorem ax_xv31 {a0 a1 a2 a3 a4 a5 a6 a7 a8 a9 a10 a11 a12 a13 a14 a15 a16 a17 a18 a19 a20 a21 a22 a23 a24 a25 a26 a27 a28 a29 a30 : Option D} {d : D} {σ : ASt} {S : Sto} {Q : VKD} {X : XKD} : wVar 31 (a0 :: a1 :: a2 :: a3 :: a4 :: a5 :: a6 :: a7 :: a8 :: a9 :: a10 :: a11 :: a12 :: a13 :: a14 :: a15 :: a16 :: a17 :: a18 :: a19 :: a20 :: a21 :: a22 :: a23 :: a24 :: a25 :: a26 :: a27 :: a28 :: a29 :: a30 :: some d :: σ) S Q X = (Q d S) := id rfl
theorem ax_xv32 {a0 a1 a2 a3 a4 a5 a6 a7 a8 a9 a10 a11 a12 a13 a14 a15 a16 a17 a18 a19 a20 a21 a22 a23 a24 a25 a26 a27 a28 a29 a30 a31 : Option D} {d : D} {σ : ASt} {S : Sto} {Q : VKD} {X : XKD} : wVar 32 (a0 :: a1 :: a2 :: a3 :: a4 :: a5 :: a6 :: a7 :: a8 :: a9 :: a10 :: a11 :: a12 :: a13 :: a14 :: a15 :: a16 :: a17 :: a18 :: a19 :: a20 :: a21 :: a22 :: a23 :: a24 :: a25 :: a26 :: a27 :: a28 :: a29 :: a30 :: a31 :: some d :: σ) S Q X = (Q d S) := id rfl
theorem ax_xv33 {a0 a1 a2 a3 a4 a5 a6 a7 a8 a9 a10 a11 a12 a13 a14 a15 a16 a17 a18 a19 a20 a21 a22 a23 a24 a25 a26 a27 a28 a29 a30 a31 a32 : Option D} {d : D} {σ : ASt} {S : Sto} {Q : VKD} {X : XKD} : wVar 33 (a0 :: a1 :: a2 :: a3 :: a4 :: a5 :: a6 :: a7 :: a8 :: a9 :: a10 :: a11 :: a12 :: a13 :: a14 :: a15 :: a16 :: a17 :: a18 :: a19 :: a20 :: a21 :: a22 :: a23 :: a24 :: a25 :: a26 :: a27 :: a28 :: a29 :: a30 :: a31 :: a32 :: some d :: σ) S Q X = (Q d S) := id rfl
theorem ax_xv34 {a0 a1 a2 a3 a4 a5 a6 a7 a8 a9 a10 a11 a12 a13 a14 a15 a16 a17 a18 a19 a20 a21 a22 a23 a24 a25 a26 a27 a28 a29 a30 a31 a32 a33 : Option D} {d : D} {σ : ASt} {S : Sto} {Q : VKD} {X : XKD} : wVar 34 (a0 :: a1 :: a2 :: a3 :: a4 :: a5 :: a6 :: a7 :: a8 :: a9 :: a10 :: a11 :: a12 :: a13 :: a14 :: a15 :: a16 :: a17 :: a18 :: a19 :: a20 :: a21 :: a22 :: a23 :: a24 :: a25 :: a26 :: a27 :: a28 :: a29 :: a30 :: a31 :: a32 :: a33 :: some d :: σ) S Q X = (Q d S) := id rfl
theorem ax_xv35 {a0 a1 a2 a3 a4 a5 a6 a7 a8 a9 a10 a11 a12 a13 a14 a15 a16 a17 a18 a19 a20 a21 a22 a23 a24 a25 a26 a27 a28 a29 a30 a31 a32 a33 a34 : Option D} {d : D} {σ : ASt} {S : Sto} {Q : VKD} {X : XKD} : wVar 35 (a0 :: a1 :: a2 :: a3 :: a4 :: a5 :: a6 :: a7 :: a8 :: a9 :: a10 :: a11 :: a12 :: a13 :: a14 :: a15 :: a16 :: a17 :: a18 :: a19 :: a20 :: a21 :: a22 :: a23 :: a24 :: a25 :: a26 :: a27 :: a28 :: a29 :: a30 :: a31 :: a32 :: a33 :: a34 :: some d :: σ) S Q X = (Q d S) := id rfl
theorem ax_xc {d : D} {σ : ASt} {S : Sto} {Q : VKD} {X : XKD} : wC d σ S Q X = (Q d S) := id rfl
theorem ax_xop {f : F2} {a b : WE} {σ : ASt} {S : Sto} {Q : VKD} {X : XKD} : wOp f a b σ S Q X = (a σ S (fun x S1 => b σ S1 (fun y S2 => f x y S2 (Lz Q .mk) X) X) X) := id rfl
theorem ax_xcb {g : FC} {w : WA} {σ : ASt} {S : Sto} {Q : VKD} {X : XKD} : wCB g w σ S Q X = (w σ S (fun ds S1 => g ds S1 (Lz Q .mk) X) X) := id rfl
theorem ax_xnil {σ : ASt} {S : Sto} {Q : List D → Sto → Prop} {X : XKD} : wNil σ S Q X = (Q [] S) := id rfl
theorem ax_xcons {e : WE} {w : WA} {σ : ASt} {S : Sto} {Q : List D → Sto → Prop} {X : XKD} : wCons e w σ S Q X = (e σ S (fun d S1 => w σ S1 (fun ds S2 => Q (d :: ds) S2) X) X) := id rfl
theorem ax_xtup {w : WA} {σ : ASt} {S : Sto} {Q : VKD} {X : XKD} : wTup w σ S Q X = (w σ S (fun ds S1 => ds.length ≤ sizeLine ∧ Q (.tup ds) S1) X) := id rfl
theorem ax_xlst {w : WA} {σ : ASt} {S : Sto} {Q : VKD} {X : XKD} : wLst w σ S Q X = (w σ S (fun ds S1 => ds.length ≤ sizeLine ∧ Q (.fl ds) S1) X) := id rfl
theorem ax_xlstr {w : WA} {σ : ASt} {S : Sto} {Q : VKD} {X : XKD} : wLstR w σ S Q X = (w σ S (fun ds S1 => ds.length ≤ sizeLine ∧ Q (.ref S1.length) (S1 ++ [.lst ds])) X) := id rfl
def tsQ (d : D) (S : Sto) (Q : Bool → Sto → Prop) : Prop := match d with
  | .bl b => Q b S
  | _ => False
theorem ax_xtest {w : WE} {σ : ASt} {S : Sto} {Q : Bool → Sto → Prop} {X : XKD} : wTest w σ S Q X = (w σ S (fun d S1 => tsQ d S1 (Lz Q .mk)) X) := id rfl
theorem ax_xts {b : Bool} {S : Sto} {Q : Bool → Sto → Prop} : tsQ (.bl b) S Q = (Q b S) := id rfl
theorem ax_xtrua {w : WE} {σ : ASt} {S : Sto} {Q : Bool → Sto → Prop} {X : XKD} : wTruA w σ S Q X = (w σ S (fun d S1 => fTru d S1 (Lz (fun k => Q k S1) .mk)) X) := id rfl
theorem ax_xand {t u : WT} {σ : ASt} {S : Sto} {Q : Bool → Sto → Prop} {X : XKD} : wAnd t u σ S Q X = (t σ S (fun c S1 => if c = true then Lz (u σ S1 Q X) .mk else Lz (Q false S1) .mk) X) := id rfl
theorem ax_xor {t u : WT} {σ : ASt} {S : Sto} {Q : Bool → Sto → Prop} {X : XKD} : wOr t u σ S Q X = (t σ S (fun c S1 => if c = true then Lz (Q true S1) .mk else Lz (u σ S1 Q X) .mk) X) := id rfl
theorem ax_xnota {t : WT} {σ : ASt} {S : Sto} {Q : Bool → Sto → Prop} {X : XKD} : wNotA t σ S Q X = (t σ S (fun c S1 => Q (!c) S1) X) := id rfl
theorem ax_xandv {a b : WE} {σ : ASt} {S : Sto} {Q : VKD} {X : XKD} : wAndV a b σ S Q X = (a σ S (fun x S1 => fTru x S1 (Lz (fun k => if k = true then Lz (b σ S1 Q X) .mk else Lz (Q x S1) .mk) .mk)) X) := id rfl
theorem ax_xorv {a b : WE} {σ : ASt} {S : Sto} {Q : VKD} {X : XKD} : wOrV a b σ S Q X = (a σ S (fun x S1 => fTru x S1 (Lz (fun k => if k = true then Lz (Q x S1) .mk else Lz (b σ S1 Q X) .mk) .mk)) X) := id rfl
theorem ax_xnotv {a : WE} {σ : ASt} {S : Sto} {Q : VKD} {X : XKD} : wNotV a σ S Q X = (a σ S (fun x S1 => fTru x S1 (Lz (fun k => Q (.bl (!k)) S1) .mk)) X) := id rfl
theorem ax_xif {t : WT} {a b : WE} {σ : ASt} {S : Sto} {Q : VKD} {X : XKD} : wIf t a b σ S Q X = (t σ S (fun c S1 => if c = true then Lz (a σ S1 Q X) .mk else Lz (b σ S1 Q X) .mk) X) := id rfl
def inQ (g : Bool → Bool) (x : D) (S : Sto) (Q : VKD) : Prop := Q (.bl (g (isNon x))) S
theorem ax_xisn {g : Bool → Bool} {a : WE} {σ : ASt} {S : Sto} {Q : VKD} {X : XKD} : wIsN g a σ S Q X = (a σ S (fun x S1 => inQ g x S1 (Lz Q .mk)) X) := id rfl
theorem ax_xin_non {g : Bool → Bool} {S : Sto} {Q : VKD} : inQ g (.non) S Q = (Q (.bl (g true)) S) := id rfl
theorem ax_xin_bl {b : Bool} {g : Bool → Bool} {S : Sto} {Q : VKD} : inQ g (.bl b) S Q = (Q (.bl (g false)) S) := id rfl
theorem ax_xin_int {i : Int} {g : Bool → Bool} {S : Sto} {Q : VKD} : inQ g (.int i) S Q = (Q (.bl (g false)) S) := id rfl
theorem ax_xin_str {x : Str} {g : Bool → Bool} {S : Sto} {Q : VKD} : inQ g (.str x) S Q = (Q (.bl (g false)) S) := id rfl
theorem ax_xin_tup {ds : List D} {g : Bool → Bool} {S : Sto} {Q : VKD} : inQ g (.tup ds) S Q = (Q (.bl (g false)) S) := id rfl
theorem ax_xin_fl {ds : List D} {g : Bool → Bool} {S : Sto} {Q : VKD} : inQ g (.fl ds) S Q = (Q (.bl (g false)) S) := id rfl
theorem ax_xin_scr {ds : List D} {g : Bool → Bool} {S : Sto} {Q : VKD} : inQ g (.scr ds) S Q = (Q (.bl (g false)) S) := id rfl
theorem ax_xin_ref {n : Nat} {g : Bool → Bool} {S : Sto} {Q : VKD} : inQ g (.ref n) S Q = (Q (.bl (g false)) S) := id rfl
theorem ax_xtr_non {S : Sto} {Q : Bool → Prop} : fTru .non S Q = (Q false) := id rfl
theorem ax_xtr_bl {b : Bool} {S : Sto} {Q : Bool → Prop} : fTru (.bl b) S Q = (Q b) := id rfl
theorem ax_xtr_int {i : Int} {S : Sto} {Q : Bool → Prop} : fTru (.int i) S Q = (Q (i != 0)) := id rfl
theorem ax_xtr_str {y : Str} {S : Sto} {Q : Bool → Prop} : fTru (.str y) S Q = (y.length ≤ sizeLine ∧ Q ((y.length : Int) != 0)) := id rfl
theorem ax_xtr_tup {ds : List D} {S : Sto} {Q : Bool → Prop} : fTru (.tup ds) S Q = (Q (!ds.isEmpty)) := id rfl
theorem ax_xtr_fl {ds : List D} {S : Sto} {Q : Bool → Prop} : fTru (.fl ds) S Q = (Q (!ds.isEmpty)) := id rfl
theorem ax_xtr_scr {ds : List D} {S : Sto} {Q : Bool → Prop} : fTru (.scr ds) S Q = (Q (!ds.isEmpty)) := id rfl
theorem ax_xadd_i {i j : Int} {S : Sto} {Q : VKD} {X : XKD} : fAdd (.int i) (.int j) S Q X = (Q (.int (i + j)) S) := id rfl
theorem ax_xadd_s {i j : Str} {S : Sto} {Q : VKD} {X : XKD} : fAdd (.str i) (.str j) S Q X = (i.length + j.length ≤ sizeLine ∧ Q (.str (i ++ j)) S) := id rfl
theorem ax_xadd_t {xs ys : List D} {S : Sto} {Q : VKD} {X : XKD} : fAdd (.tup xs) (.tup ys) S Q X = (xs.length + ys.length ≤ sizeLine ∧ Q (.tup (xs ++ ys)) S) := id rfl
theorem ax_xadd_f {xs ys : List D} {S : Sto} {Q : VKD} {X : XKD} : fAdd (.fl xs) (.fl ys) S Q X = (xs.length + ys.length ≤ sizeLine ∧ Q (.fl (xs ++ ys)) S) := id rfl
theorem ax_xsub {i j : Int} {S : Sto} {Q : VKD} {X : XKD} : fSub (.int i) (.int j) S Q X = (Q (.int (i - j)) S) := id rfl
theorem ax_xmul {i j : Int} {S : Sto} {Q : VKD} {X : XKD} : fMul (.int i) (.int j) S Q X = (MulOk i j ∧ Q (.int (i * j)) S) := id rfl
theorem ax_xmul_f {xs : List D} {k : Int} {S : Sto} {Q : VKD} {X : XKD} : fMul (.fl xs) (.int k) S Q X = ((k < 2 ^ 62 ∧ -(2 ^ 62) ≤ k ∧ xs.length * k.toNat ≤ sizeLine) ∧ Q (.fl (List.replicate k.toNat xs).flatten) S) := id rfl
theorem ax_xdiv {i j : Int} {S : Sto} {Q : VKD} {X : XKD} : fDiv (.int i) (.int j) S Q X = (DivOk j ∧ Q (.int (i.fdiv j)) S) := id rfl
theorem ax_xmod {i j : Int} {S : Sto} {Q : VKD} {X : XKD} : fMod (.int i) (.int j) S Q X = (j ≠ 0 ∧ Q (.int (i.fmod j)) S) := id rfl
theorem ax_xpow {i j : Int} {S : Sto} {Q : VKD} {X : XKD} : fPow (.int i) (.int j) S Q X = (L2.CPow i j ∧ Q (.int (i ^ j.toNat)) S) := id rfl
theorem ax_xshl {i j : Int} {S : Sto} {Q : VKD} {X : XKD} : fShl (.int i) (.int j) S Q X = (L2.CPow i j ∧ Q (.int (i * 2 ^ j.toNat)) S) := id rfl
theorem ax_xlt {i j : Int} {S : Sto} {Q : VKD} {X : XKD} : fLt (.int i) (.int j) S Q X = (Q (.bl (decide (i < j))) S) := id rfl
theorem ax_xle {i j : Int} {S : Sto} {Q : VKD} {X : XKD} : fLe (.int i) (.int j) S Q X = (Q (.bl (decide (i ≤ j))) S) := id rfl
theorem ax_xgt {i j : Int} {S : Sto} {Q : VKD} {X : XKD} : fGt (.int i) (.int j) S Q X = (Q (.bl (decide (j < i))) S) := id rfl
theorem ax_xge {i j : Int} {S : Sto} {Q : VKD} {X : XKD} : fGe (.int i) (.int j) S Q X = (Q (.bl (decide (j ≤ i))) S) := id rfl
theorem ax_xiadd_i {i j : Int} {S : Sto} {Q : VKD} {X : XKD} : fIAdd (.int i) (.int j) S Q X = (Q (.int (i + j)) S) := id rfl
theorem ax_xiadd_s {i j : Str} {S : Sto} {Q : VKD} {X : XKD} : fIAdd (.str i) (.str j) S Q X = (i.length + j.length ≤ sizeLine ∧ Q (.str (i ++ j)) S) := id rfl
def ngQ (x : D) (S : Sto) (Q : VKD) : Prop := match x with
  | .int i => Q (.int (-i)) S
  | _ => False
theorem ax_xneg {a : WE} {σ : ASt} {S : Sto} {Q : VKD} {X : XKD} : wNeg a σ S Q X = (a σ S (fun x S1 => ngQ x S1 (Lz Q .mk)) X) := id rfl
theorem ax_xng {i : Int} {S : Sto} {Q : VKD} : ngQ (.int i) S Q = (Q (.int (-i)) S) := id rfl
/-- == of trees as Python has it -/
def D.eqb (x y : D) : Bool := PyData.eqv x.py y.py
theorem ax_xeq_ii {i j : Int} {S : Sto} {Q : VKD} {X : XKD} : fEq (.int i) (.int j) S Q X = (Q (.bl ((decide (i = j)))) S) := id rfl
theorem ax_xeq_ss {i j : Str} {S : Sto} {Q : VKD} {X : XKD} : fEq (.str i) (.str j) S Q X = (Q (.bl ((decide (i = j)))) S) := id rfl
theorem ax_xeq_non_non {S : Sto} {Q : VKD} {X : XKD} : fEq (.non) (.non) S Q X = (EqOk (.non) (.non) ∧ Q (.bl ((D.eqb (.non) (.non)))) S) := id rfl
theorem ax_xeq_non_bl {b2 : Bool} {S : Sto} {Q : VKD} {X : XKD} : fEq (.non) (.bl b2) S Q X = (EqOk (.non) (.bl b2) ∧ Q (.bl ((D.eqb (.non) (.bl b2)))) S) := id rfl
theorem ax_xeq_non_int {j : Int} {S : Sto} {Q : VKD} {X : XKD} : fEq (.non) (.int j) S Q X = (EqOk (.non) (.int j) ∧ Q (.bl ((D.eqb (.non) (.int j)))) S) := id rfl
theorem ax_xeq_non_str {y : Str} {S : Sto} {Q : VKD} {X : XKD} : fEq (.non) (.str y) S Q X = (EqOk (.non) (.str y) ∧ Q (.bl ((D.eqb (.non) (.str y)))) S) := id rfl
theorem ax_xeq_non_tup {es : List D} {S : Sto} {Q : VKD} {X : XKD} : fEq (.non) (.tup es) S Q X = (EqOk (.non) (.tup es) ∧ Q (.bl ((D.eqb (.non) (.tup es)))) S) := id rfl
theorem ax_xeq_non_fl {es : List D} {S : Sto} {Q : VKD} {X : XKD} : fEq (.non) (.fl es) S Q X = (EqOk (.non) (.fl es) ∧ Q (.bl ((D.eqb (.non) (.fl es)))) S) := id rfl
theorem ax_xeq_non_scr {es : List D} {S : Sto} {Q : VKD} {X : XKD} : fEq (.non) (.scr es) S Q X = (EqOk (.non) (.scr es) ∧ Q (.bl ((D.eqb (.non) (.scr es)))) S) := id rfl
theorem ax_xeq_bl_non {b : Bool} {S : Sto} {Q : VKD} {X : XKD} : fEq (.bl b) (.non) S Q X = (EqOk (.bl b) (.non) ∧ Q (.bl ((D.eqb (.bl b) (.non)))) S) := id rfl
theorem ax_xeq_bl_bl {b : Bool} {b2 : Bool} {S : Sto} {Q : VKD} {X : XKD} : fEq (.bl b) (.bl b2) S Q X = (EqOk (.bl b) (.bl b2) ∧ Q (.bl ((D.eqb (.bl b) (.bl b2)))) S) := id rfl
theorem ax_xeq_bl_int {b : Bool} {j : Int} {S : Sto} {Q : VKD} {X : XKD} : fEq (.bl b) (.int j) S Q X = (EqOk (.bl b) (.int j) ∧ Q (.bl ((D.eqb (.bl b) (.int j)))) S) := id rfl
theorem ax_xeq_bl_str {b : Bool} {y : Str} {S : Sto} {Q : VKD} {X : XKD} : fEq (.bl b) (.str y) S Q X = (EqOk (.bl b) (.str y) ∧ Q (.bl ((D.eqb (.bl b) (.str y)))) S) := id rfl
theorem ax_xeq_bl_tup {b : Bool} {es : List D} {S : Sto} {Q : VKD} {X : XKD} : fEq (.bl b) (.tup es) S Q X = (EqOk (.bl b) (.tup es) ∧ Q (.bl ((D.eqb (.bl b) (.tup es)))) S) := id rfl
theorem ax_xeq_bl_fl {b : Bool} {es : List D} {S : Sto} {Q : VKD} {X : XKD} : fEq (.bl b) (.fl es) S Q X = (EqOk (.bl b) (.fl es) ∧ Q (.bl ((D.eqb (.bl b) (.fl es)))) S) := id rfl
theorem ax_xeq_bl_scr {b : Bool} {es : List D} {S : Sto} {Q : VKD} {X : XKD} : fEq (.bl b) (.scr es) S Q X = (EqOk (.bl b) (.scr es) ∧ Q (.bl ((D.eqb (.bl b) (.scr es)))) S) := id rfl
theorem ax_xeq_int_non {i : Int} {S : Sto} {Q : VKD} {X : XKD} : fEq (.int i) (.non) S Q X = (EqOk (.int i) (.non) ∧ Q (.bl ((D.eqb (.int i) (.non)))) S) := id rfl
theorem ax_xeq_int_bl {i : Int} {b2 : Bool} {S : Sto} {Q : VKD} {X : XKD} : fEq (.int i) (.bl b2) S Q X = (EqOk (.int i) (.bl b2) ∧ Q (.bl ((D.eqb (.int i) (.bl b2)))) S) := id rfl
theorem ax_xeq_int_str {i : Int} {y : Str} {S : Sto} {Q : VKD} {X : XKD} : fEq (.int i) (.str y) S Q X = (EqOk (.int i) (.str y) ∧ Q (.bl ((D.eqb (.int i) (.str y)))) S) := id rfl
theorem ax_xeq_int_tup {i : Int} {es : List D} {S : Sto} {Q : VKD} {X : XKD} : fEq (.int i) (.tup es) S Q X = (EqOk (.int i) (.tup es) ∧ Q (.bl ((D.eqb (.int i) (.tup es)))) S) := id rfl
theorem ax_xeq_int_fl {i : Int} {es : List D} {S : Sto} {Q : VKD} {X : XKD} : fEq (.int i) (.fl es) S Q X = (EqOk (.int i) (.fl es) ∧ Q (.bl ((D.eqb (.int i) (.fl es)))) S) := id rfl
theorem ax_xeq_int_scr {i : Int} {es : List D} {S : Sto} {Q : VKD} {X : XKD} : fEq (.int i) (.scr es) S Q X = (EqOk (.int i) (.scr es) ∧ Q (.bl ((D.eqb (.int i) (.scr es)))) S) := id rfl
theorem ax_xeq_str_non {x : Str} {S : Sto} {Q : VKD} {X : XKD} : fEq (.str x) (.non) S Q X = (EqOk (.str x) (.non) ∧ Q (.bl ((D.eqb (.str x) (.non)))) S) := id rfl
theorem ax_xeq_str_bl {x : Str} {b2 : Bool} {S : Sto} {Q : VKD} {X : XKD} : fEq (.str x) (.bl b2) S Q X = (EqOk (.str x) (.bl b2) ∧ Q (.bl ((D.eqb (.str x) (.bl b2)))) S) := id rfl
theorem ax_xeq_str_int {x : Str} {j : Int} {S : Sto} {Q : VKD} {X : XKD} : fEq (.str x) (.int j) S Q X = (EqOk (.str x) (.int j) ∧ Q (.bl ((D.eqb (.str x) (.int j)))) S) := id rfl
theorem ax_xeq_str_tup {x : Str} {es : List D} {S : Sto} {Q : VKD} {X : XKD} : fEq (.str x) (.tup es) S Q X = (EqOk (.str x) (.tup es) ∧ Q (.bl ((D.eqb (.str x) (.tup es)))) S) := id rfl
theorem ax_xeq_str_fl {x : Str} {es : List D} {S : Sto} {Q : VKD} {X : XKD} : fEq (.str x) (.fl es) S Q X = (EqOk (.str x) (.fl es) ∧ Q (.bl ((D.eqb (.str x) (.fl es)))) S) := id rfl
theorem ax_xeq_str_scr {x : Str} {es : List D} {S : Sto} {Q : VKD} {X : XKD} : fEq (.str x) (.scr es) S Q X = (EqOk (.str x) (.scr es) ∧ Q (.bl ((D.eqb (.str x) (.scr es)))) S) := id rfl
theorem ax_xeq_tup_non {ds : List D} {S : Sto} {Q : VKD} {X : XKD} : fEq (.tup ds) (.non) S Q X = (EqOk (.tup ds) (.non) ∧ Q (.bl ((D.eqb (.tup ds) (.non)))) S) := id rfl
theorem ax_xeq_tup_bl {ds : List D} {b2 : Bool} {S : Sto} {Q : VKD} {X : XKD} : fEq (.tup ds) (.bl b2) S Q X = (EqOk (.tup ds) (.bl b2) ∧ Q (.bl ((D.eqb (.tup ds) (.bl b2)))) S) := id rfl
theorem ax_xeq_tup_int {ds : List D} {j : Int} {S : Sto} {Q : VKD} {X : XKD} : fEq (.tup ds) (.int j) S Q X = (EqOk (.tup ds) (.int j) ∧ Q (.bl ((D.eqb (.tup ds) (.int j)))) S) := id rfl
theorem ax_xeq_tup_str {ds : List D} {y : Str} {S : Sto} {Q : VKD} {X : XKD} : fEq (.tup ds) (.str y) S Q X = (EqOk (.tup ds) (.str y) ∧ Q (.bl ((D.eqb (.tup ds) (.str y)))) S) := id rfl
theorem ax_xeq_tup_tup {ds : List D} {es : List D} {S : Sto} {Q : VKD} {X : XKD} : fEq (.tup ds) (.tup es) S Q X = (EqOk (.tup ds) (.tup es) ∧ Q (.bl ((D.eqb (.tup ds) (.tup es)))) S) := id rfl
theorem ax_xeq_tup_fl {ds : List D} {es : List D} {S : Sto} {Q : VKD} {X : XKD} : fEq (.tup ds) (.fl es) S Q X = (EqOk (.tup ds) (.fl es) ∧ Q (.bl ((D.eqb (.tup ds) (.fl es)))) S) := id rfl
theorem ax_xeq_tup_scr {ds : List D} {es : List D} {S : Sto} {Q : VKD} {X : XKD} : fEq (.tup ds) (.scr es) S Q X = (EqOk (.tup ds) (.scr es) ∧ Q (.bl ((D.eqb (.tup ds) (.scr es)))) S) := id rfl
theorem ax_xeq_fl_non {ds : List D} {S : Sto} {Q : VKD} {X : XKD} : fEq (.fl ds) (.non) S Q X = (EqOk (.fl ds) (.non) ∧ Q (.bl ((D.eqb (.fl ds) (.non)))) S) := id rfl
theorem ax_xeq_fl_bl {ds : List D} {b2 : Bool} {S : Sto} {Q : VKD} {X : XKD} : fEq (.fl ds) (.bl b2) S Q X = (EqOk (.fl ds) (.bl b2) ∧ Q (.bl ((D.eqb (.fl ds) (.bl b2)))) S) := id rfl
theorem ax_xeq_fl_int {ds : List D} {j : Int} {S : Sto} {Q : VKD} {X : XKD} : fEq (.fl ds) (.int j) S Q X = (EqOk (.fl ds) (.int j) ∧ Q (.bl ((D.eqb (.fl ds) (.int j)))) S) := id rfl
theorem ax_xeq_fl_str {ds : List D} {y : Str} {S : Sto} {Q : VKD} {X : XKD} : fEq (.fl ds) (.str y) S Q X = (EqOk (.fl ds) (.str y) ∧ Q (.bl ((D.eqb (.fl ds) (.str y)))) S) := id rfl
theorem ax_xeq_fl_tup {ds : List D} {es : List D} {S : Sto} {Q : VKD} {X : XKD} : fEq (.fl ds) (.tup es) S Q X = (EqOk (.fl ds) (.tup es) ∧ Q (.bl ((D.eqb (.fl ds) (.tup es)))) S) := id rfl
theorem ax_xeq_fl_fl {ds : List D} {es : List D} {S : Sto} {Q : VKD} {X : XKD} : fEq (.fl ds) (.fl es) S Q X = (EqOk (.fl ds) (.fl es) ∧ Q (.bl ((D.eqb (.fl ds) (.fl es)))) S) := id rfl
theorem ax_xeq_fl_scr {ds : List D} {es : List D} {S : Sto} {Q : VKD} {X : XKD} : fEq (.fl ds) (.scr es) S Q X = (EqOk (.fl ds) (.scr es) ∧ Q (.bl ((D.eqb (.fl ds) (.scr es)))) S) := id rfl
theorem ax_xeq_scr_non {ds : List D} {S : Sto} {Q : VKD} {X : XKD} : fEq (.scr ds) (.non) S Q X = (EqOk (.scr ds) (.non) ∧ Q (.bl ((D.eqb (.scr ds) (.non)))) S) := id rfl
theorem ax_xeq_scr_bl {ds : List D} {b2 : Bool} {S : Sto} {Q : VKD} {X : XKD} : fEq (.scr ds) (.bl b2) S Q X = (EqOk (.scr ds) (.bl b2) ∧ Q (.bl ((D.eqb (.scr ds) (.bl b2)))) S) := id rfl
theorem ax_xeq_scr_int {ds : List D} {j : Int} {S : Sto} {Q : VKD} {X : XKD} : fEq (.scr ds) (.int j) S Q X = (EqOk (.scr ds) (.int j) ∧ Q (.bl ((D.eqb (.scr ds) (.int j)))) S) := id rfl
theorem ax_xeq_scr_str {ds : List D} {y : Str} {S : Sto} {Q : VKD} {X : XKD} : fEq (.scr ds) (.str y) S Q X = (EqOk (.scr ds) (.str y) ∧ Q (.bl ((D.eqb (.scr ds) (.str y)))) S) := id rfl
theorem ax_xeq_scr_tup {ds : List D} {es : List D} {S : Sto} {Q : VKD} {X : XKD} : fEq (.scr ds) (.tup es) S Q X = (EqOk (.scr ds) (.tup es) ∧ Q (.bl ((D.eqb (.scr ds) (.tup es)))) S) := id rfl
theorem ax_xeq_scr_fl {ds : List D} {es : List D} {S : Sto} {Q : VKD} {X : XKD} : fEq (.scr ds) (.fl es) S Q X = (EqOk (.scr ds) (.fl es) ∧ Q (.bl ((D.eqb (.scr ds) (.fl es)))) S) := id rfl
theorem ax_xeq_scr_scr {ds : List D} {es : List D} {S : Sto} {Q : VKD} {X : XKD} : fEq (.scr ds) (.scr es) S Q X = (EqOk (.scr ds) (.scr es) ∧ Q (.bl ((D.eqb (.scr ds) (.scr es)))) S) := id rfl
theorem ax_xne_ii {i j : Int} {S : Sto} {Q : VKD} {X : XKD} : fNe (.int i) (.int j) S Q X = (Q (.bl (!(decide (i = j)))) S) := id rfl
theorem ax_xne_ss {i j : Str} {S : Sto} {Q : VKD} {X : XKD} : fNe (.str i) (.str j) S Q X = (Q (.bl (!(decide (i = j)))) S) := id rfl
theorem ax_xne_non_non {S : Sto} {Q : VKD} {X : XKD} : fNe (.non) (.non) S Q X = (EqOk (.non) (.non) ∧ Q (.bl (!(D.eqb (.non) (.non)))) S) := id rfl
theorem ax_xne_non_bl {b2 : Bool} {S : Sto} {Q : VKD} {X : XKD} : fNe (.non) (.bl b2) S Q X = (EqOk (.non) (.bl b2) ∧ Q (.bl (!(D.eqb (.non) (.bl b2)))) S) := id rfl
theorem ax_xne_non_int {j : Int} {S : Sto} {Q : VKD} {X : XKD} : fNe (.non) (.int j) S Q X = (EqOk (.non) (.int j) ∧ Q (.bl (!(D.eqb (.non) (.int j)))) S) := id rfl
theorem ax_xne_non_str {y : Str} {S : Sto} {Q : VKD} {X : XKD} : fNe (.non) (.str y) S Q X = (EqOk (.non) (.str y) ∧ Q (.bl (!(D.eqb (.non) (.str y)))) S) := id rfl
theorem ax_xne_non_tup {es : List D} {S : Sto} {Q : VKD} {X : XKD} : fNe (.non) (.tup es) S Q X = (EqOk (.non) (.tup es) ∧ Q (.bl (!(D.eqb (.non) (.tup es)))) S) := id rfl
theorem ax_xne_non_fl {es : List D} {S : Sto} {Q : VKD} {X : XKD} : fNe (.non) (.fl es) S Q X = (EqOk (.non) (.fl es) ∧ Q (.bl (!(D.eqb (.non) (.fl es)))) S) := id rfl
theorem ax_xne_non_scr {es : List D} {S : Sto} {Q : VKD} {X : XKD} : fNe (.non) (.scr es) S Q X = (EqOk (.non) (.scr es) ∧ Q (.bl (!(D.eqb (.non) (.scr es)))) S) := id rfl
theorem ax_xne_bl_non {b : Bool} {S : Sto} {Q : VKD} {X : XKD} : fNe (.bl b) (.non) S Q X = (EqOk (.bl b) (.non) ∧ Q (.bl (!(D.eqb (.bl b) (.non)))) S) := id rfl
theorem ax_xne_bl_bl {b : Bool} {b2 : Bool} {S : Sto} {Q : VKD} {X : XKD} : fNe (.bl b) (.bl b2) S Q X = (EqOk (.bl b) (.bl b2) ∧ Q (.bl (!(D.eqb (.bl b) (.bl b2)))) S) := id rfl
theorem ax_xne_bl_int {b : Bool} {j : Int} {S : Sto} {Q : VKD} {X : XKD} : fNe (.bl b) (.int j) S Q X = (EqOk (.bl b) (.int j) ∧ Q (.bl (!(D.eqb (.bl b) (.int j)))) S) := id rfl
theorem ax_xne_bl_str {b : Bool} {y : Str} {S : Sto} {Q : VKD} {X : XKD} : fNe (.bl b) (.str y) S Q X = (EqOk (.bl b) (.str y) ∧ Q (.bl (!(D.eqb (.bl b) (.str y)))) S) := id rfl
theorem ax_xne_bl_tup {b : Bool} {es : List D} {S : Sto} {Q : VKD} {X : XKD} : fNe (.bl b) (.tup es) S Q X = (EqOk (.bl b) (.tup es) ∧ Q (.bl (!(D.eqb (.bl b) (.tup es)))) S) := id rfl
theorem ax_xne_bl_fl {b : Bool} {es : List D} {S : Sto} {Q : VKD} {X : XKD} : fNe (.bl b) (.fl es) S Q X = (EqOk (.bl b) (.fl es) ∧ Q (.bl (!(D.eqb (.bl b) (.fl es)))) S) := id rfl
theorem ax_xne_bl_scr {b : Bool} {es : List D} {S : Sto} {Q : VKD} {X : XKD} : fNe (.bl b) (.scr es) S Q X = (EqOk (.bl b) (.scr es) ∧ Q (.bl (!(D.eqb (.bl b) (.scr es)))) S) := id rfl
theorem ax_xne_int_non {i : Int} {S : Sto} {Q : VKD} {X : XKD} : fNe (.int i) (.non) S Q X = (EqOk (.int i) (.non) ∧ Q (.bl (!(D.eqb (.int i) (.non)))) S) := id rfl
theorem ax_xne_int_bl {i : Int} {b2 : Bool} {S : Sto} {Q : VKD} {X : XKD} : fNe (.int i) (.bl b2) S Q X = (EqOk (.int i) (.bl b2) ∧ Q (.bl (!(D.eqb (.int i) (.bl b2)))) S) := id rfl
theorem ax_xne_int_str {i : Int} {y : Str} {S : Sto} {Q : VKD} {X : XKD} : fNe (.int i) (.str y) S Q X = (EqOk (.int i) (.str y) ∧ Q (.bl (!(D.eqb (.int i) (.str y)))) S) := id rfl
theorem ax_xne_int_tup {i : Int} {es : List D} {S : Sto} {Q : VKD} {X : XKD} : fNe (.int i) (.tup es) S Q X = (EqOk (.int i) (.tup es) ∧ Q (.bl (!(D.eqb (.int i) (.tup es)))) S) := id rfl
theorem ax_xne_int_fl {i : Int} {es : List D} {S : Sto} {Q : VKD} {X : XKD} : fNe (.int i) (.fl es) S Q X = (EqOk (.int i) (.fl es) ∧ Q (.bl (!(D.eqb (.int i) (.fl es)))) S) := id rfl
theorem ax_xne_int_scr {i : Int} {es : List D} {S : Sto} {Q : VKD} {X : XKD} : fNe (.int i) (.scr es) S Q X = (EqOk (.int i) (.scr es) ∧ Q (.bl (!(D.eqb (.int i) (.scr es)))) S) := id rfl
theorem ax_xne_str_non {x : Str} {S : Sto} {Q : VKD} {X : XKD} : fNe (.str x) (.non) S Q X = (EqOk (.str x) (.non) ∧ Q (.bl (!(D.eqb (.str x) (.non)))) S) := id rfl
theorem ax_xne_str_bl {x : Str} {b2 : Bool} {S : Sto} {Q : VKD} {X : XKD} : fNe (.str x) (.bl b2) S Q X = (EqOk (.str x) (.bl b2) ∧ Q (.bl (!(D.eqb (.str x) (.bl b2)))) S) := id rfl
theorem ax_xne_str_int {x : Str} {j : Int} {S : Sto} {Q : VKD} {X : XKD} : fNe (.str x) (.int j) S Q X = (EqOk (.str x) (.int j) ∧ Q (.bl (!(D.eqb (.str x) (.int j)))) S) := id rfl
theorem ax_xne_str_tup {x : Str} {es : List D} {S : Sto} {Q : VKD} {X : XKD} : fNe (.str x) (.tup es) S Q X = (EqOk (.str x) (.tup es) ∧ Q (.bl (!(D.eqb (.str x) (.tup es)))) S) := id rfl
theorem ax_xne_str_fl {x : Str} {es : List D} {S : Sto} {Q : VKD} {X : XKD} : fNe (.str x) (.fl es) S Q X = (EqOk (.str x) (.fl es) ∧ Q (.bl (!(D.eqb (.str x) (.fl es)))) S) := id rfl
theorem ax_xne_str_scr {x : Str} {es : List D} {S : Sto} {Q : VKD} {X : XKD} : fNe (.str x) (.scr es) S Q X = (EqOk (.str x) (.scr es) ∧ Q (.bl (!(D.eqb (.str x) (.scr es)))) S) := id rfl
theorem ax_xne_tup_non {ds : List D} {S : Sto} {Q : VKD} {X : XKD} : fNe (.tup ds) (.non) S Q X = (EqOk (.tup ds) (.non) ∧ Q (.bl (!(D.eqb (.tup ds) (.non)))) S) := id rfl
theorem ax_xne_tup_bl {ds : List D} {b2 : Bool} {S : Sto} {Q : VKD} {X : XKD} : fNe (.tup ds) (.bl b2) S Q X = (EqOk (.tup ds) (.bl b2) ∧ Q (.bl (!(D.eqb (.tup ds) (.bl b2)))) S) := id rfl
theorem ax_xne_tup_int {ds : List D} {j : Int} {S : Sto} {Q : VKD} {X : XKD} : fNe (.tup ds) (.int j) S Q X = (EqOk (.tup ds) (.int j) ∧ Q (.bl (!(D.eqb (.tup ds) (.int j)))) S) := id rfl
theorem ax_xne_tup_str {ds : List D} {y : Str} {S : Sto} {Q : VKD} {X : XKD} : fNe (.tup ds) (.str y) S Q X = (EqOk (.tup ds) (.str y) ∧ Q (.bl (!(D.eqb (.tup ds) (.str y)))) S) := id rfl
theorem ax_xne_tup_tup {ds : List D} {es : List D} {S : Sto} {Q : VKD} {X : XKD} : fNe (.tup ds) (.tup es) S Q X = (EqOk (.tup ds) (.tup es) ∧ Q (.bl (!(D.eqb (.tup ds) (.tup es)))) S) := id rfl
theorem ax_xne_tup_fl {ds : List D} {es : List D} {S : Sto} {Q : VKD} {X : XKD} : fNe (.tup ds) (.fl es) S Q X = (EqOk (.tup ds) (.fl es) ∧ Q (.bl (!(D.eqb (.tup ds) (.fl es)))) S) := id rfl
theorem ax_xne_tup_scr {ds : List D} {es : List D} {S : Sto} {Q : VKD} {X : XKD} : fNe (.tup ds) (.scr es) S Q X = (EqOk (.tup ds) (.scr es) ∧ Q (.bl (!(D.eqb (.tup ds) (.scr es)))) S) := id rfl
theorem ax_xne_fl_non {ds : List D} {S : Sto} {Q : VKD} {X : XKD} : fNe (.fl ds) (.non) S Q X = (EqOk (.fl ds) (.non) ∧ Q (.bl (!(D.eqb (.fl ds) (.non)))) S) := id rfl
theorem ax_xne_fl_bl {ds : List D} {b2 : Bool} {S : Sto} {Q : VKD} {X : XKD} : fNe (.fl ds) (.bl b2) S Q X = (EqOk (.fl ds) (.bl b2) ∧ Q (.bl (!(D.eqb (.fl ds) (.bl b2)))) S) := id rfl
theorem ax_xne_fl_int {ds : List D} {j : Int} {S : Sto} {Q : VKD} {X : XKD} : fNe (.fl ds) (.int j) S Q X = (EqOk (.fl ds) (.int j) ∧ Q (.bl (!(D.eqb (.fl ds) (.int j)))) S) := id rfl
theorem ax_xne_fl_str {ds : List D} {y : Str} {S : Sto} {Q : VKD} {X : XKD} : fNe (.fl ds) (.str y) S Q X = (EqOk (.fl ds) (.str y) ∧ Q (.bl (!(D.eqb (.fl ds) (.str y)))) S) := id rfl
theorem ax_xne_fl_tup {ds : List D} {es : List D} {S : Sto} {Q : VKD} {X : XKD} : fNe (.fl ds) (.tup es) S Q X = (EqOk (.fl ds) (.tup es) ∧ Q (.bl (!(D.eqb (.fl ds) (.tup es)))) S) := id rfl
theorem ax_xne_fl_fl {ds : List D} {es : List D} {S : Sto} {Q : VKD} {X : XKD} : fNe (.fl ds) (.fl es) S Q X = (EqOk (.fl ds) (.fl es) ∧ Q (.bl (!(D.eqb (.fl ds) (.fl es)))) S) := id rfl
theorem ax_xne_fl_scr {ds : List D} {es : List D} {S : Sto} {Q : VKD} {X : XKD} : fNe (.fl ds) (.scr es) S Q X = (EqOk (.fl ds) (.scr es) ∧ Q (.bl (!(D.eqb (.fl ds) (.scr es)))) S) := id rfl
theorem ax_xne_scr_non {ds : List D} {S : Sto} {Q : VKD} {X : XKD} : fNe (.scr ds) (.non) S Q X = (EqOk (.scr ds) (.non) ∧ Q (.bl (!(D.eqb (.scr ds) (.non)))) S) := id rfl
theorem ax_xne_scr_bl {ds : List D} {b2 : Bool} {S : Sto} {Q : VKD} {X : XKD} : fNe (.scr ds) (.bl b2) S Q X = (EqOk (.scr ds) (.bl b2) ∧ Q (.bl (!(D.eqb (.scr ds) (.bl b2)))) S) := id rfl
theorem ax_xne_scr_int {ds : List D} {j : Int} {S : Sto} {Q : VKD} {X : XKD} : fNe (.scr ds) (.int j) S Q X = (EqOk (.scr ds) (.int j) ∧ Q (.bl (!(D.eqb (.scr ds) (.int j)))) S) := id rfl
theorem ax_xne_scr_str {ds : List D} {y : Str} {S : Sto} {Q : VKD} {X : XKD} : fNe (.scr ds) (.str y) S Q X = (EqOk (.scr ds) (.str y) ∧ Q (.bl (!(D.eqb (.scr ds) (.str y)))) S) := id rfl
theorem ax_xne_scr_tup {ds : List D} {es : List D} {S : Sto} {Q : VKD} {X : XKD} : fNe (.scr ds) (.tup es) S Q X = (EqOk (.scr ds) (.tup es) ∧ Q (.bl (!(D.eqb (.scr ds) (.tup es)))) S) := id rfl
theorem ax_xne_scr_fl {ds : List D} {es : List D} {S : Sto} {Q : VKD} {X : XKD} : fNe (.scr ds) (.fl es) S Q X = (EqOk (.scr ds) (.fl es) ∧ Q (.bl (!(D.eqb (.scr ds) (.fl es)))) S) := id rfl
theorem ax_xne_scr_scr {ds : List D} {es : List D} {S : Sto} {Q : VKD} {X : XKD} : fNe (.scr ds) (.scr es) S Q X = (EqOk (.scr ds) (.scr es) ∧ Q (.bl (!(D.eqb (.scr ds) (.scr es)))) S) := id rfl
def atQ (ds : List D) (k : Int) (Q : D → Prop) : Prop := match L2.atI ds k with
  | some d => Q d
  | none => False
theorem atQ_of {ds : List D} {k : Int} {d : D} {Q : D → Prop} (h : L2.atI ds k = some d) : atQ ds k Q = Q d := by unfold atQ; rw [h]
theorem ax_xix_tup {ds : List D} {k : Int} {S : Sto} {Q : VKD} {X : XKD} : fIx (.tup ds) (.int k) S Q X = (atQ ds k (Lz (fun d => Q d S) .mk)) := id rfl
theorem ax_xix_fl {ds : List D} {k : Int} {S : Sto} {Q : VKD} {X : XKD} : fIx (.fl ds) (.int k) S Q X = (atQ ds k (Lz (fun d => Q d S) .mk)) := id rfl
theorem ax_xix_scr {ds : List D} {k : Int} {S : Sto} {Q : VKD} {X : XKD} : fIx (.scr ds) (.int k) S Q X = (atQ ds k (Lz (fun d => Q d S) .mk)) := id rfl
theorem ax_xat0 {a0 : D} {r : List D} {Q : D → Prop} : atQ (a0 :: r) 0 Q = (Q a0) := atQ_of (L2.atI_nat (j := 0) rfl)
theorem ax_xat1 {a0 a1 : D} {r : List D} {Q : D → Prop} : atQ (a0 :: a1 :: r) 1 Q = (Q a1) := atQ_of (L2.atI_nat (j := 1) rfl)
theorem ax_xat2 {a0 a1 a2 : D} {r : List D} {Q : D → Prop} : atQ (a0 :: a1 :: a2 :: r) 2 Q = (Q a2) := atQ_of (L2.atI_nat (j := 2) rfl)
theorem ax_xat3 {a0 a1 a2 a3 : D} {r : List D} {Q : D → Prop} : atQ (a0 :: a1 :: a2 :: a3 :: r) 3 Q = (Q a3) := atQ_of (L2.atI_nat (j := 3) rfl)
theorem ax_xat4 {a0 a1 a2 a3 a4 : D} {r : List D} {Q : D → Prop} : atQ (a0 :: a1 :: a2 :: a3 :: a4 :: r) 4 Q = (Q a4) := atQ_of (L2.atI_nat (j := 4) rfl)
theorem ax_xat5 {a0 a1 a2 a3 a4 a5 : D} {r : List D} {Q : D → Prop} : atQ (a0 :: a1 :: a2 :: a3 :: a4 :: a5 :: r) 5 Q = (Q a5) := atQ_of (L2.atI_nat (j := 5) rfl)
theorem ax_xat6 {a0 a1 a2 a3 a4 a5 a6 : D} {r : List D} {Q : D → Prop} : atQ (a0 :: a1 :: a2 :: a3 :: a4 :: a5 :: a6 :: r) 6 Q = (Q a6) := atQ_of (L2.atI_nat (j := 6) rfl)
theorem ax_xat7 {a0 a1 a2 a3 a4 a5 a6 a7 : D} {r : List D} {Q : D → Prop} : atQ (a0 :: a1 :: a2 :: a3 :: a4 :: a5 :: a6 :: a7 :: r) 7 Q = (Q a7) := atQ_of (L2.atI_nat (j := 7) rfl)
theorem ax_xat8 {a0 a1 a2 a3 a4 a5 a6 a7 a8 : D} {r : List D} {Q : D → Prop} : atQ (a0 :: a1 :: a2 :: a3 :: a4 :: a5 :: a6 :: a7 :: a8 :: r) 8 Q = (Q a8) := atQ_of (L2.atI_nat (j := 8) rfl)
theorem ax_xat9 {a0 a1 a2 a3 a4 a5 a6 a7 a8 a9 : D} {r : List D} {Q : D → Prop} : atQ (a0 :: a1 :: a2 :: a3 :: a4 :: a5 :: a6 :: a7 :: a8 :: a9 :: r) 9 Q = (Q a9) := atQ_of (L2.atI_nat (j := 9) rfl)
theorem ax_xat10 {a0 a1 a2 a3 a4 a5 a6 a7 a8 a9 a10 : D} {r : List D} {Q : D → Prop} : atQ (a0 :: a1 :: a2 :: a3 :: a4 :: a5 :: a6 :: a7 :: a8 :: a9 :: a10 :: r) 10 Q = (Q a10) := atQ_of (L2.atI_nat (j := 10) rfl)
theorem ax_xat11 {a0 a1 a2 a3 a4 a5 a6 a7 a8 a9 a10 a11 : D} {r : List D} {Q : D → Prop} : atQ (a0 :: a1 :: a2 :: a3 :: a4 :: a5 :: a6 :: a7 :: a8 :: a9 :: a10 :: a11 :: r) 11 Q = (Q a11) := atQ_of (L2.atI_nat (j := 11) rfl)
theorem ax_xlast1 {a0 : D} {Q : D → Prop} : atQ [a0] (-1) Q = (Q a0) := atQ_of (by rw [atI_last1]; rfl)
theorem ax_xlast2 {a0 a1 : D} {Q : D → Prop} : atQ [a0, a1] (-1) Q = (Q a1) := atQ_of (by rw [atI_last1]; rfl)
theorem ax_xlast3 {a0 a1 a2 : D} {Q : D → Prop} : atQ [a0, a1, a2] (-1) Q = (Q a2) := atQ_of (by rw [atI_last1]; rfl)
theorem ax_xlast4 {a0 a1 a2 a3 : D} {Q : D → Prop} : atQ [a0, a1, a2, a3] (-1) Q = (Q a3) := atQ_of (by rw [atI_last1]; rfl)
theorem ax_xlast5 {a0 a1 a2 a3 a4 : D} {Q : D → Prop} : atQ [a0, a1, a2, a3, a4] (-1) Q = (Q a4) := atQ_of (by rw [atI_last1]; rfl)
theorem ax_gabs {i : Int} {S : Sto} {Q : VKD} {X : XKD} : gAbs [.int i] S Q X = (Q (.int (i.natAbs : Int)) S) := id rfl
theorem ax_gint_i {i : Int} {S : Sto} {Q : VKD} {X : XKD} : gInt [.int i] S Q X = (Q (.int i) S) := id rfl
theorem ax_gint_b {b : Bool} {S : Sto} {Q : VKD} {X : XKD} : gInt [.bl b] S Q X = (Q (.int (if b then 1 else 0)) S) := id rfl
theorem ax_glen_s {z : Str} {S : Sto} {Q : VKD} {X : XKD} : gLen [.str z] S Q X = (z.length ≤ sizeLine ∧ Q (.int (z.length : Int)) S) := id rfl
theorem ax_glen_tup {ds : List D} {S : Sto} {Q : VKD} {X : XKD} : gLen [.tup ds] S Q X = (Q (.int (ds.length : Int)) S) := id rfl
theorem ax_gtuple_tup {ds : List D} {S : Sto} {Q : VKD} {X : XKD} : gTuple [.tup ds] S Q X = (Q (.tup ds) S) := id rfl
theorem ax_glst_tup {ds : List D} {S : Sto} {Q : VKD} {X : XKD} : gList [.tup ds] S Q X = (Q (.fl ds) S) := id rfl
theorem ax_glstr_tup {ds : List D} {S : Sto} {Q : VKD} {X : XKD} : gListR [.tup ds] S Q X = (Q (.ref S.length) (S ++ [.lst ds])) := id rfl
theorem ax_glen_fl {ds : List D} {S : Sto} {Q : VKD} {X : XKD} : gLen [.fl ds] S Q X = (Q (.int (ds.length : Int)) S) := id rfl
theorem ax_gtuple_fl {ds : List D} {S : Sto} {Q : VKD} {X : XKD} : gTuple [.fl ds] S Q X = (Q (.tup ds) S) := id rfl
theorem ax_glst_fl {ds : List D} {S : Sto} {Q : VKD} {X : XKD} : gList [.fl ds] S Q X = (Q (.fl ds) S) := id rfl
theorem ax_glstr_fl {ds : List D} {S : Sto} {Q : VKD} {X : XKD} : gListR [.fl ds] S Q X = (Q (.ref S.length) (S ++ [.lst ds])) := id rfl
theorem ax_glen_scr {ds : List D} {S : Sto} {Q : VKD} {X : XKD} : gLen [.scr ds] S Q X = (Q (.int (ds.length : Int)) S) := id rfl
theorem ax_gtuple_scr {ds : List D} {S : Sto} {Q : VKD} {X : XKD} : gTuple [.scr ds] S Q X = (Q (.tup ds) S) := id rfl
theorem ax_glst_scr {ds : List D} {S : Sto} {Q : VKD} {X : XKD} : gList [.scr ds] S Q X = (Q (.fl ds) S) := id rfl
theorem ax_glstr_scr {ds : List D} {S : Sto} {Q : VKD} {X : XKD} : gListR [.scr ds] S Q X = (Q (.ref S.length) (S ++ [.lst ds])) := id rfl
def blQ (r : Option (List Bool)) (g : List Bool → Bool) (Q : Bool → Prop) : Prop := match r with
  | some bs => Q (g bs)
  | none => False
theorem blQ_map (bs : List Bool) {g : List Bool → Bool} {Q : Bool → Prop} : blQ (blsOf (bs.map D.bl)) g Q = Q (g bs) := by rw [blsOf_map]; rfl
theorem blQ_of {α : Type} {xs : List α} {f : α → Bool} {g : List Bool → Bool} {Q : Bool → Prop} : blQ (blsOf (xs.map fun x => .bl (f x))) g Q = Q (g (xs.map f)) := by
  rw [show (xs.map fun x => D.bl (f x)) = (xs.map f).map D.bl by rw [List.map_map]; rfl, blQ_map]
def inQs (r : Option (List Int)) (Q : Int → Prop) : Prop := match r with
  | some ns => Q ns.sum
  | none => False
theorem inQs_map (ns : List Int) {Q : Int → Prop} : inQs (intsOf (ns.map D.int)) Q = Q ns.sum := by rw [intsOf_map]; rfl
theorem ax_gall {ds : List D} {S : Sto} {Q : VKD} {X : XKD} : gAll [.fl ds] S Q X = (blQ (blsOf ds) (fun bs => bs.all id) (Lz (fun b => Q (.bl b) S) .mk)) := (by unfold gAll blQ; rfl)
theorem ax_gany {ds : List D} {S : Sto} {Q : VKD} {X : XKD} : gAny [.fl ds] S Q X = (blQ (blsOf ds) (fun bs => bs.any id) (Lz (fun b => Q (.bl b) S) .mk)) := (by unfold gAny blQ; rfl)
theorem ax_gsum {ds : List D} {S : Sto} {Q : VKD} {X : XKD} : gSum [.fl ds] S Q X = (inQs (intsOf ds) (Lz (fun n => Q (.int n) S) .mk)) := (by unfold gSum inQs; rfl)
theorem ax_gmax {i j : Int} {S : Sto} {Q : VKD} {X : XKD} : gMax [.int i, .int j] S Q X = (Q (.int (max i j)) S) := id rfl
theorem ax_gmin {i j : Int} {S : Sto} {Q : VKD} {X : XKD} : gMin [.int i, .int j] S Q X = (Q (.int (min i j)) S) := id rfl
def isQ (T : TN) (d : D) (S : Sto) (Q : VKD) : Prop := match isTN T S d with
  | some b => Q (.bl b) S
  | none => False
theorem ax_xisi {T : TN} {e : WE} {σ : ASt} {S : Sto} {Q : VKD} {X : XKD} : wIsi T e σ S Q X = (e σ S (fun d S1 => isQ T d S1 (Lz Q .mk)) X) := id rfl
theorem ax_xis_int_non {S : Sto} {Q : VKD} : isQ .int (.non) S Q = (Q (.bl false) S) := id rfl
theorem ax_xis_int_bl {b : Bool} {S : Sto} {Q : VKD} : isQ .int (.bl b) S Q = (Q (.bl true) S) := id rfl
theorem ax_xis_int_int {i : Int} {S : Sto} {Q : VKD} : isQ .int (.int i) S Q = (Q (.bl true) S) := id rfl
theorem ax_xis_int_str {x : Str} {S : Sto} {Q : VKD} : isQ .int (.str x) S Q = (Q (.bl false) S) := id rfl
theorem ax_xis_int_tup {ds : List D} {S : Sto} {Q : VKD} : isQ .int (.tup ds) S Q = (Q (.bl false) S) := id rfl
theorem ax_xis_int_fl {ds : List D} {S : Sto} {Q : VKD} : isQ .int (.fl ds) S Q = (Q (.bl false) S) := id rfl
theorem ax_xis_int_scr {ds : List D} {S : Sto} {Q : VKD} : isQ .int (.scr ds) S Q = (Q (.bl false) S) := id rfl
theorem ax_xis_bool_non {S : Sto} {Q : VKD} : isQ .bool (.non) S Q = (Q (.bl false) S) := id rfl
theorem ax_xis_bool_bl {b : Bool} {S : Sto} {Q : VKD} : isQ .bool (.bl b) S Q = (Q (.bl true) S) := id rfl
theorem ax_xis_bool_int {i : Int} {S : Sto} {Q : VKD} : isQ .bool (.int i) S Q = (Q (.bl false) S) := id rfl
theorem ax_xis_bool_str {x : Str} {S : Sto} {Q : VKD} : isQ .bool (.str x) S Q = (Q (.bl false) S) := id rfl
theorem ax_xis_bool_tup {ds : List D} {S : Sto} {Q : VKD} : isQ .bool (.tup ds) S Q = (Q (.bl false) S) := id rfl
theorem ax_xis_bool_fl {ds : List D} {S : Sto} {Q : VKD} : isQ .bool (.fl ds) S Q = (Q (.bl false) S) := id rfl
theorem ax_xis_bool_scr {ds : List D} {S : Sto} {Q : VKD} : isQ .bool (.scr ds) S Q = (Q (.bl false) S) := id rfl
theorem ax_xis_str_non {S : Sto} {Q : VKD} : isQ .str (.non) S Q = (Q (.bl false) S) := id rfl
theorem ax_xis_str_bl {b : Bool} {S : Sto} {Q : VKD} : isQ .str (.bl b) S Q = (Q (.bl false) S) := id rfl
theorem ax_xis_str_int {i : Int} {S : Sto} {Q : VKD} : isQ .str (.int i) S Q = (Q (.bl false) S) := id rfl
theorem ax_xis_str_str {x : Str} {S : Sto} {Q : VKD} : isQ .str (.str x) S Q = (Q (.bl true) S) := id rfl
theorem ax_xis_str_tup {ds : List D} {S : Sto} {Q : VKD} : isQ .str (.tup ds) S Q = (Q (.bl false) S) := id rfl
theorem ax_xis_str_fl {ds : List D} {S : Sto} {Q : VKD} : isQ .str (.fl ds) S Q = (Q (.bl false) S) := id rfl
theorem ax_xis_str_scr {ds : List D} {S : Sto} {Q : VKD} : isQ .str (.scr ds) S Q = (Q (.bl false) S) := id rfl
theorem ax_xis_tuple_non {S : Sto} {Q : VKD} : isQ .tuple (.non) S Q = (Q (.bl false) S) := id rfl
theorem ax_xis_tuple_bl {b : Bool} {S : Sto} {Q : VKD} : isQ .tuple (.bl b) S Q = (Q (.bl false) S) := id rfl
theorem ax_xis_tuple_int {i : Int} {S : Sto} {Q : VKD} : isQ .tuple (.int i) S Q = (Q (.bl false) S) := id rfl
theorem ax_xis_tuple_str {x : Str} {S : Sto} {Q : VKD} : isQ .tuple (.str x) S Q = (Q (.bl false) S) := id rfl
theorem ax_xis_tuple_tup {ds : List D} {S : Sto} {Q : VKD} : isQ .tuple (.tup ds) S Q = (Q (.bl true) S) := id rfl
theorem ax_xis_tuple_fl {ds : List D} {S : Sto} {Q : VKD} : isQ .tuple (.fl ds) S Q = (Q (.bl false) S) := id rfl
theorem ax_xis_tuple_scr {ds : List D} {S : Sto} {Q : VKD} : isQ .tuple (.scr ds) S Q = (Q (.bl false) S) := id rfl
theorem ax_xis_list_non {S : Sto} {Q : VKD} : isQ .list (.non) S Q = (Q (.bl false) S) := id rfl
theorem ax_xis_list_bl {b : Bool} {S : Sto} {Q : VKD} : isQ .list (.bl b) S Q = (Q (.bl false) S) := id rfl
theorem ax_xis_list_int {i : Int} {S : Sto} {Q : VKD} : isQ .list (.int i) S Q = (Q (.bl false) S) := id rfl
theorem ax_xis_list_str {x : Str} {S : Sto} {Q : VKD} : isQ .list (.str x) S Q = (Q (.bl false) S) := id rfl
theorem ax_xis_list_tup {ds : List D} {S : Sto} {Q : VKD} : isQ .list (.tup ds) S Q = (Q (.bl false) S) := id rfl
theorem ax_xis_list_fl {ds : List D} {S : Sto} {Q : VKD} : isQ .list (.fl ds) S Q = (Q (.bl true) S) := id rfl
theorem ax_xis_list_scr {ds : List D} {S : Sto} {Q : VKD} : isQ .list (.scr ds) S Q = (Q (.bl true) S) := id rfl
theorem ax_xinb_tup {neg : Bool} {x : D} {ds : List D} {S : Sto} {Q : VKD} {X : XKD} : fInB neg x (.tup ds) S Q X = ((flatD x = true ∧ ds.all flatD = true) ∧ Q (.bl (if neg then !(ds.any fun d => eqF d x) else ds.any fun d => eqF d x)) S) := id rfl
theorem ax_xinb_fl {neg : Bool} {x : D} {ds : List D} {S : Sto} {Q : VKD} {X : XKD} : fInB neg x (.fl ds) S Q X = ((flatD x = true ∧ ds.all flatD = true) ∧ Q (.bl (if neg then !(ds.any fun d => eqF d x) else ds.any fun d => eqF d x)) S) := id rfl
theorem ax_xinb_scr {neg : Bool} {x : D} {ds : List D} {S : Sto} {Q : VKD} {X : XKD} : fInB neg x (.scr ds) S Q X = ((flatD x = true ∧ ds.all flatD = true) ∧ Q (.bl (if neg then !(ds.any fun d => eqF d x) else ds.any fun d => eqF d x)) S) := id rfl
def opQ (d : D) (S : Sto) (Q : Option Int → Sto → Prop) : Prop := match d with
  | .int i => Q (some i) S
  | _ => False
theorem ax_xnop {σ : ASt} {S : Sto} {Q : Option Int → Sto → Prop} {X : XKD} : wNoPart σ S Q X = (Q none S) := id rfl
theorem ax_xpart {w : WE} {σ : ASt} {S : Sto} {Q : Option Int → Sto → Prop} {X : XKD} : wPart w σ S Q X = (w σ S (fun d S1 => opQ d S1 (Lz Q .mk)) X) := id rfl
theorem ax_xopq {i : Int} {S : Sto} {Q : Option Int → Sto → Prop} : opQ (.int i) S Q = (Q (some i) S) := id rfl
theorem ax_xsl {e : WE} {l h : WO} {σ : ASt} {S : Sto} {Q : VKD} {X : XKD} : wSl e l h σ S Q X = (e σ S (fun x S1 => l σ S1 (fun lo S2 => h σ S2 (fun hi S3 => fSl x lo hi S3 (Lz Q .mk)) X) X) X) := id rfl
theorem ax_xsl_t {ds : List D} {lo hi : Option Int} {S : Sto} {Q : VKD} : fSl (.tup ds) lo hi S Q = (Q (.tup (cutL ds lo hi)) S) := id rfl
theorem ax_xsl_f {ds : List D} {lo hi : Option Int} {S : Sto} {Q : VKD} : fSl (.fl ds) lo hi S Q = (Q (.fl (cutL ds lo hi)) S) := id rfl
theorem ax_xsl_s {ds : List D} {lo hi : Option Int} {S : Sto} {Q : VKD} : fSl (.scr ds) lo hi S Q = (Q (.fl (cutL ds lo hi)) S) := id rfl
def chQ (z : D) (S : Sto) (A B : Sto → Prop) : Prop := match z with
  | .bl k => if k = true then A S else B S
  | _ => False
theorem ax_xchain {f g : F2} {a b c : WE} {σ : ASt} {S : Sto} {Q : VKD} {X : XKD} : wChain f g a b c σ S Q X = (a σ S (fun x S1 => b σ S1 (fun y S2 => f x y S2 (Lz (fun z S3 => chQ z S3 (Lz (fun S3 => c σ S3 (fun u S4 => g y u S4 (Lz Q .mk) X) X) .mk) (Lz (fun S3 => Q (.bl false) S3) .mk)) .mk) X) X) X) := id rfl
theorem ax_xch {k : Bool} {S : Sto} {A B : Sto → Prop} : chQ (.bl k) S A B = (if k = true then Lz (A S) .mk else Lz (B S) .mk) := id rfl
def biQ (d : D) (S : Sto) (Q : VKD) : Prop := match d with
  | .int i => Q (.int ((Builtin.Int.intBits i : Nat) : Int)) S
  | _ => False
theorem ax_xbits {e : WE} {σ : ASt} {S : Sto} {Q : VKD} {X : XKD} : wBits e σ S Q X = (e σ S (fun d S1 => biQ d S1 (Lz Q .mk)) X) := id rfl
theorem ax_xbi {i : Int} {S : Sto} {Q : VKD} : biQ (.int i) S Q = (Q (.int ((Builtin.Int.intBits i : Nat) : Int)) S) := id rfl
def apP (o : D) (S : Sto) : Prop := match o with
  | .ref n => match S[n]? with
    | some (.lst _) => True
    | _ => False
  | _ => False
theorem ax_xapp {e : WE} {w : WA} {σ : ASt} {S : Sto} {Q : VKD} {X : XKD} : wApp e w σ S Q X = (e σ S (fun o S1 => apP o S1 ∧ w σ S1 (fun ds S2 => fApp o ds S2 (Lz Q .mk)) X) X) := id rfl
theorem ax_xnext {D0 : AE} {σ : ASt} {S : Sto} {X : XKD} : wNext D0 σ S X = (D0.nx σ S) := id rfl
theorem ax_xseq {w u : WS} {D0 : AE} {σ : ASt} {S : Sto} {X : XKD} : wSeq w u D0 σ S X = (w { nx := Lz (fun σ' S' => u D0 σ' S' X) .mk, rt := D0.rt, bk := D0.bk, ct := D0.ct } σ S X) := id rfl
theorem ax_xbreak {D0 : AE} {σ : ASt} {S : Sto} {X : XKD} : wBreak D0 σ S X = (D0.bk σ S) := id rfl
theorem ax_xcont {D0 : AE} {σ : ASt} {S : Sto} {X : XKD} : wCont D0 σ S X = (D0.ct σ S) := id rfl
theorem ax_xdrop {e : WE} {D0 : AE} {σ : ASt} {S : Sto} {X : XKD} : wDrop e D0 σ S X = (e σ S (Lz (fun _ S1 => D0.nx σ S1) .mk) X) := id rfl
theorem ax_xret {e : WE} {D0 : AE} {σ : ASt} {S : Sto} {X : XKD} : wRet e D0 σ S X = (e σ S D0.rt X) := id rfl
theorem ax_xretn {D0 : AE} {σ : ASt} {S : Sto} {X : XKD} : wRetN D0 σ S X = (D0.rt .non S) := id rfl
theorem ax_xifs {c : WT} {w u : WS} {D0 : AE} {σ : ASt} {S : Sto} {X : XKD} : wIfS c w u D0 σ S X = (c σ S (fun b S1 => if b = true then Lz (w D0 σ S1 X) .mk else Lz (u D0 σ S1 X) .mk) X) := id rfl
theorem ax_xset {i : Nat} {e : WE} {D0 : AE} {σ : ASt} {S : Sto} {X : XKD} : wSet i e D0 σ S X = (e σ S (fun d S1 => D0.nx (σ.set i (some d)) S1) X) := id rfl
def paQ (i j : Nat) (D0 : AE) (σ : ASt) (ds : List D) (S : Sto) : Prop := match ds with
  | [d, e] => D0.nx ((σ.set i (some d)).set j (some e)) S
  | _ => False
theorem ax_xpar {i j : Nat} {w : WA} {D0 : AE} {σ : ASt} {S : Sto} {X : XKD} : wPar i j w D0 σ S X = (w σ S (fun ds S1 => paQ i j D0 σ ds S1) X) := id rfl
theorem ax_xpa {i j : Nat} {D0 : AE} {σ : ASt} {d e : D} {S : Sto} : paQ i j D0 σ [d, e] S = (D0.nx ((σ.set i (some d)).set j (some e)) S) := id rfl
theorem ax_xaug {i : Nat} {f : F2} {e : WE} {D0 : AE} {σ : ASt} {S : Sto} {X : XKD} : wAug i f e D0 σ S X = (wVar i σ S (fun d _ => e σ S (fun y S1 => f d y S1 (Lz (fun z S2 => D0.nx (σ.set i (some z)) S2) .mk) X) X) X) := (by unfold wAug wVar; rfl)
theorem ax_xasg {e : WE} {wg : WG} {D0 : AE} {σ : ASt} {S : Sto} {X : XKD} : wAsg e wg D0 σ S X = (e σ S (fun d S1 => wg d σ S1 D0.nx X) X) := id rfl
theorem ax_xgname {i : Nat} {d : D} {σ : ASt} {S : Sto} {Q : ASt → Sto → Prop} {X : XKD} : wgName i d σ S Q X = (Q (σ.set i (some d)) S) := id rfl
theorem ax_xgnil {σ : ASt} {S : Sto} {Q : ASt → Sto → Prop} {X : XKD} : wgNil [] σ S Q X = (Q σ S) := id rfl
theorem ax_xgcons {wg : WG} {wgs : WGs} {d : D} {r : List D} {σ : ASt} {S : Sto} {Q : ASt → Sto → Prop} {X : XKD} : wgCons wg wgs (d :: r) σ S Q X = (wg d σ S (Lz (fun σ' S' => wgs r σ' S' Q X) .mk) X) := id rfl
theorem ax_xgtup {n : Nat} {wgs : WGs} {ds : List D} {σ : ASt} {S : Sto} {Q : ASt → Sto → Prop} {X : XKD} : wgTup n wgs (.tup ds) σ S Q X = (ds.length = n ∧ wgs ds σ S Q X) := id rfl
theorem ax_xgsub {wo wi : WE} {d : D} {σ : ASt} {S : Sto} {Q : ASt → Sto → Prop} {X : XKD} : wgSub wo wi d σ S Q X = (wo σ S (fun o S1 => wi σ S1 (fun i S2 => fPut o i d S2 (Lz (Q σ) .mk)) X) X) := id rfl
theorem ax_xnx {n : ASt → Sto → Prop} {r : VKD} {b c : ASt → Sto → Prop} : (AE.mk n r b c).nx = (n) := id rfl
theorem ax_xrt {n : ASt → Sto → Prop} {r : VKD} {b c : ASt → Sto → Prop} : (AE.mk n r b c).rt = (r) := id rfl
theorem ax_xbk {n : ASt → Sto → Prop} {r : VKD} {b c : ASt → Sto → Prop} : (AE.mk n r b c).bk = (b) := id rfl
theorem ax_xct {n : ASt → Sto → Prop} {r : VKD} {b c : ASt → Sto → Prop} : (AE.mk n r b c).ct = (c) := id rfl
theorem ax_xend_rt {Q : VKD} {m : Nat} : (endOf Q m).rt = (Gives Q m) := id rfl
theorem ax_xend_nx {Q : VKD} {m : Nat} {σ : ASt} {S : Sto} : (endOf Q m).nx σ S = (Gives Q m .non S) := id rfl
def itQ (d : D) (S : Sto) (Q : Src → Sto → Prop) : Prop := match d with
  | .tup ds => Q (.seq ds) S
  | .fl ds => Q (.seq ds) S
  | .ref n => match S[n]? with
    | some (.lst _) => Q (.cel n) S
    | _ => False
  | _ => False
theorem ax_xit {e : WE} {σ : ASt} {S : Sto} {Q : Src → Sto → Prop} {X : XKD} : wiItems e σ S Q X = (e σ S (fun d S1 => itQ d S1 (Lz Q .mk)) X) := id rfl
theorem ax_xit_t {ds : List D} {S : Sto} {Q : Src → Sto → Prop} : itQ (.tup ds) S Q = (Q (.seq ds) S) := id rfl
theorem ax_xit_f {ds : List D} {S : Sto} {Q : Src → Sto → Prop} : itQ (.fl ds) S Q = (Q (.seq ds) S) := id rfl
def r1Q (ds : List D) (S : Sto) (Q : Src → Sto → Prop) : Prop := match ds with
  | [.int j] => (-(2 ^ 62) ≤ j ∧ j < 2 ^ 62) ∧ Q (.seq (rangeD 0 j.toNat)) S
  | _ => False
def r2Q (ds : List D) (S : Sto) (Q : Src → Sto → Prop) : Prop := match ds with
  | [.int i, .int j] => (-(2 ^ 62) ≤ i ∧ i < 2 ^ 62 ∧ -(2 ^ 62) ≤ j ∧ j < 2 ^ 62) ∧ Q (.seq (rangeD i (j - i).toNat)) S
  | _ => False
theorem ax_xr1 {w : WA} {σ : ASt} {S : Sto} {Q : Src → Sto → Prop} {X : XKD} : wiRange1 w σ S Q X = (w σ S (fun ds S1 => r1Q ds S1 (Lz Q .mk)) X) := id rfl
theorem ax_xr2 {w : WA} {σ : ASt} {S : Sto} {Q : Src → Sto → Prop} {X : XKD} : wiRange2 w σ S Q X = (w σ S (fun ds S1 => r2Q ds S1 (Lz Q .mk)) X) := id rfl
theorem ax_xr1q {j : Int} {S : Sto} {Q : Src → Sto → Prop} : r1Q [.int j] S Q = ((-(2 ^ 62) ≤ j ∧ j < 2 ^ 62) ∧ Q (.seq (rangeD 0 j.toNat)) S) := id rfl
theorem ax_xr2q {i j : Int} {S : Sto} {Q : Src → Sto → Prop} : r2Q [.int i, .int j] S Q = ((-(2 ^ 62) ≤ i ∧ i < 2 ^ 62 ∧ -(2 ^ 62) ≤ j ∧ j < 2 ^ 62) ∧ Q (.seq (rangeD i (j - i).toNat)) S) := id rfl
def foQ (src : Src) (wg : WG) (b : WS) (D0 : AE) (σ : ASt) (S : Sto) (X : XKD) : Prop := match src with
  | .seq ds => forL wg b D0 X ds σ S
  | .cel n => forC wg b D0 X (.cel n) (cellLen S n) 0 σ S
  | .enc n => forC wg b D0 X (.enc n) (cellLen S n) 0 σ S
theorem ax_xfor {wi : WI} {wg : WG} {b : WS} {D0 : AE} {σ : ASt} {S : Sto} {X : XKD} : wFor wi wg b D0 σ S X = (wi σ S (fun src S1 => foQ src wg b D0 σ S1 X) X) := id rfl
theorem ax_xfo_seq {ds : List D} {wg : WG} {b : WS} {D0 : AE} {σ : ASt} {S : Sto} {X : XKD} : foQ (.seq ds) wg b D0 σ S X = (forL wg b D0 X ds σ S) := id rfl
theorem ax_xfo_cel {n : Nat} {wg : WG} {b : WS} {D0 : AE} {σ : ASt} {S : Sto} {X : XKD} : foQ (.cel n) wg b D0 σ S X = (forC wg b D0 X (.cel n) (cellLen S n) 0 σ S) := id rfl
theorem ax_xfo_enc {n : Nat} {wg : WG} {b : WS} {D0 : AE} {σ : ASt} {S : Sto} {X : XKD} : foQ (.enc n) wg b D0 σ S X = (forC wg b D0 X (.enc n) (cellLen S n) 0 σ S) := id rfl
def lcQ (src : Src) (wg : WG) (wt : WT) (we : WE) (σ : ASt) (Q : List D → Sto → Prop) (S : Sto) : Prop := match src with
  | .seq ds => ds.length ≤ sizeLine ∧ lcL wg wt we σ Q ds [] S
  | .cel n => cellLen S n ≤ sizeLine ∧ lcC wg wt we σ Q (.cel n) (cellLen S n) 0 [] S
  | .enc n => cellLen S n ≤ sizeLine ∧ lcC wg wt we σ Q (.enc n) (cellLen S n) 0 [] S
theorem ax_xlc {wi : WI} {wg : WG} {wt : WT} {we : WE} {vs : List Nat} {fin : List D → Sto → VKD → Prop} {σ : ASt} {S : Sto} {Q : VKD} {X : XKD} : wLcA wi wg wt we vs fin σ S Q X = (wi σ S (fun src S1 => lcQ src wg wt we (wipeD σ vs) (Lz (fun acc S2 => fin acc S2 Q) .mk) S1) X) := id rfl
theorem ax_xlc_seq {ds : List D} {wg : WG} {wt : WT} {we : WE} {σ : ASt} {Q : List D → Sto → Prop} {S : Sto} : lcQ (.seq ds) wg wt we σ Q S = (ds.length ≤ sizeLine ∧ lcL wg wt we σ Q ds [] S) := id rfl
theorem ax_xlc_cel {n : Nat} {wg : WG} {wt : WT} {we : WE} {σ : ASt} {Q : List D → Sto → Prop} {S : Sto} : lcQ (.cel n) wg wt we σ Q S = (cellLen S n ≤ sizeLine ∧ lcC wg wt we σ Q (.cel n) (cellLen S n) 0 [] S) := id rfl
theorem ax_xlc_enc {n : Nat} {wg : WG} {wt : WT} {we : WE} {σ : ASt} {Q : List D → Sto → Prop} {S : Sto} : lcQ (.enc n) wg wt we σ Q S = (cellLen S n ≤ sizeLine ∧ lcC wg wt we σ Q (.enc n) (cellLen S n) 0 [] S) := id rfl
theorem ax_xlcl_nil {acc : List D} {wg : WG} {wt : WT} {we : WE} {σ : ASt} {Q : List D → Sto → Prop} {S : Sto} : lcL wg wt we σ Q [] acc S = (Q acc S) := (by rw [lcL])
theorem ax_xlcl_cons {a : Option D} {d : D} {ds acc : List D} {wg : WG} {wt : WT} {we : WE} {σ : ASt} {Q : List D → Sto → Prop} {S : Sto} : lcL wg wt we (a :: σ) Q (d :: ds) acc S = (wg d (a :: σ) S (Lz (fun σ2 S2 => wt σ2 S2 (fun b S3 => if b = true then Lz (we σ2 S3 (fun y S4 => lcL wg wt we (a :: σ) Q ds (acc ++ [y]) S4) X0) .mk else Lz (lcL wg wt we (a :: σ) Q ds acc S3) .mk) X0) .mk) X0) := (by rw [lcL]; rfl)
theorem ax_xyes {σ : ASt} {S : Sto} {Q : Bool → Sto → Prop} {X : XKD} : wYes σ S Q X = (Q true S) := id rfl
theorem ax_xturn {a : Option D} {d : D} {acc : List D} {wg : WG} {wt : WT} {we : WE} {σ : ASt} {S : Sto} {R : List D → Sto → Prop} : lcTurn wg wt we (a :: σ) d acc S R = (wg d (a :: σ) S (Lz (fun σ2 S2 => wt σ2 S2 (fun b S3 => if b = true then Lz (we σ2 S3 (fun y S4 => R (acc ++ [y]) S4) X0) .mk else Lz (R acc S3) .mk) X0) .mk) X0) := id rfl
theorem ax_xfinf {acc : List D} {S : Sto} {Q : VKD} : finF acc S Q = (Q (.fl acc) S) := id rfl
theorem ax_xfinr {acc : List D} {S : Sto} {Q : VKD} : finR acc S Q = (Q (.ref S.length) (S ++ [.lst acc])) := id rfl
theorem ax_xwipe0 {σ : ASt} : wipeD σ [] = (σ) := id rfl
theorem ax_xwipe1 {σ : ASt} {v : Nat} {vs : List Nat} : wipeD σ (v :: vs) = ((wipeD σ vs).set v none) := id rfl
theorem ax_lz1 {α : Type} {f : α → Prop} {t : Tg f} {a : α} : Lz f t a = (f a) := id rfl
theorem ax_lzD {f : D → Sto → Prop} {t : Tg f} {a : D} {S : Sto} : Lz f t a S = (f a S) := id rfl
theorem ax_lzB {f : Bool → Sto → Prop} {t : Tg f} {a : Bool} {S : Sto} : Lz f t a S = (f a S) := id rfl
theorem ax_lzL {f : List D → Sto → Prop} {t : Tg f} {a : List D} {S : Sto} : Lz f t a S = (f a S) := id rfl
theorem ax_lzS {f : Src → Sto → Prop} {t : Tg f} {a : Src} {S : Sto} : Lz f t a S = (f a S) := id rfl
theorem ax_lzO {f : Option Int → Sto → Prop} {t : Tg f} {a : Option Int} {S : Sto} : Lz f t a S = (f a S) := id rfl
theorem ax_lzc {f : ASt → Sto → Prop} {t : Tg f} {a : Option D} {σ : ASt} {S : Sto} : Lz f t (a :: σ) S = (f (a :: σ) S) := id rfl
theorem ax_lzn {f : ASt → Sto → Prop} {t : Tg f} {S : Sto} : Lz f t [] S = (f [] S) := id rfl
theorem ax_xitt {A B : Prop} {t : Tg A} : (if true = true then Lz A t else B) = (A) := if_pos rfl
theorem ax_xitf {A B : Prop} {t : Tg B} : (if false = true then A else Lz B t) = (B) := if_neg Bool.false_ne_true
theorem ax_xiT {A B : Prop} {t : Tg A} {h : Decidable True} : @ite Prop True h (Lz A t) B = (A) := if_pos True.intro
theorem ax_xiF {A B : Prop} {t : Tg B} {h : Decidable False} : @ite Prop False h A (Lz B t) = (B) := if_neg id
theorem ax_xidec {p : Prop} [h : Decidable p] {A B : Prop} : (if decide p = true then A else B) = (if p then A else B) := z_if_dec p A B
theorem ax_xindec {p : Prop} [h : Decidable p] {A B : Prop} : (if (!decide p) = true then A else B) = (if p then B else A) := z_if_ndec p A B
theorem xinot_aux {b : Bool} {A B : Prop} : (if (!b) = true then A else B) = (if b = true then B else A) := by cases b <;> rfl
theorem ax_xinot {b : Bool} {A B : Prop} : (if (!b) = true then A else B) = (if b = true then B else A) := xinot_aux
theorem ax_xnep {i j : Int} {A B : Prop} : (if (i != j) = true then A else B) = (if i = j then B else A) := (by by_cases h : i = j <;> simp [h])
theorem ax_xemp_n {α : Type} : ([] : List α).isEmpty = (true) := id rfl
theorem ax_xemp_c {α : Type} {a : α} {r : List α} : (a :: r).isEmpty = (false) := id rfl
/-! loops with what lies ahead held -/
theorem whl_cut {c : WT} {b : WS} {D0 : AE} {σ : ASt} {S : Sto} {X : XKD} (P : Nat → ASt → Sto → Prop) (m0 : Nat) (h0 : P m0 σ S)
    (hs : ∀ m σ S (R : ASt → Sto → Prop), P m σ S → (∀ m' σ' S', m' < m → P m' σ' S' → R σ' S') → c σ S (fun k S1 => if k = true then Lz (b { nx := R, rt := D0.rt, bk := D0.nx, ct := R } σ S1 X) .mk else Lz (D0.nx σ S1) .mk) X) : wWhile c b D0 σ S X := while_cut P m0 h0 hs
theorem forl_cut {wg : WG} {b : WS} {D0 : AE} {σ : ASt} {S : Sto} {X : XKD} (ds : List D) (P : Nat → ASt → Sto → Prop) (h0 : P 0 σ S)
    (hs : ∀ (i : Nat) d σ S (R : ASt → Sto → Prop), ds[i]? = some d → P i σ S → (∀ σ' S', P (i + 1) σ' S' → R σ' S') → wg d σ S (Lz (fun σ1 S1 => b { nx := R, rt := D0.rt, bk := D0.nx, ct := R } σ1 S1 X) .mk) X)
    (hd : ∀ σ S, P ds.length σ S → D0.nx σ S) : forL wg b D0 X ds σ S := for_cut ds P h0 hs hd
theorem rng_cut {wg : WG} {b : WS} {D0 : AE} {σ : ASt} {S : Sto} {X : XKD} (lo : Int) (n : Nat) (P : Nat → ASt → Sto → Prop) (h0 : P 0 σ S)
    (hs : ∀ i σ S (R : ASt → Sto → Prop), i < n → P i σ S → (∀ σ' S', P (i + 1) σ' S' → R σ' S') → wg (.int (lo + (i : Nat))) σ S (Lz (fun σ1 S1 => b { nx := R, rt := D0.rt, bk := D0.nx, ct := R } σ1 S1 X) .mk) X)
    (hd : ∀ σ S, P n σ S → D0.nx σ S) : forL wg b D0 X (rangeD lo n) σ S := range_cut lo n P h0 hs hd
theorem cell_cut {wg : WG} {b : WS} {D0 : AE} {σ : ASt} {S : Sto} {X : XKD} (n : Nat) (ds : List D) (P : Nat → ASt → Sto → Prop) (h0 : P 0 σ S) (hc : ∀ i σ S, P i σ S → S[n]? = some (.lst ds))
    (hs : ∀ (i : Nat) d σ S (R : ASt → Sto → Prop), ds[i]? = some d → P i σ S → (∀ σ' S', P (i + 1) σ' S' → R σ' S') → wg d σ S (Lz (fun σ1 S1 => b { nx := R, rt := D0.rt, bk := D0.nx, ct := R } σ1 S1 X) .mk) X)
    (hd : ∀ σ S, P ds.length σ S → D0.nx σ S) : forC wg b D0 X (.cel n) (cellLen S n) 0 σ S := cel_cut n ds P h0 hc hs hd
/-! what a cell is read as -/
section
variable {S : Sto} {n : Nat} {ds : List D}
theorem ref_ix (h : S[n]? = some (.lst ds)) {k : Int} {Q : VKD} {X : XKD} : fIx (.ref n) (.int k) S Q X = atQ ds k (Lz (fun d => Q d S) .mk) := by simp only [fIx, atQ, items, itemsL, h] <;> try rfl
theorem ref_len (h : S[n]? = some (.lst ds)) {Q : VKD} {X : XKD} : gLen [.ref n] S Q X = Q (.int (ds.length : Int)) S := by simp only [gLen, items, itemsL, h] <;> try rfl
theorem ref_tuple (h : S[n]? = some (.lst ds)) {Q : VKD} {X : XKD} : gTuple [.ref n] S Q X = Q (.tup ds) S := by simp only [gTuple, itemsL, h] <;> try rfl
theorem ref_list (h : S[n]? = some (.lst ds)) {Q : VKD} {X : XKD} : gList [.ref n] S Q X = Q (.fl ds) S := by simp only [gList, items, itemsL, h] <;> try rfl
theorem ref_listr (h : S[n]? = some (.lst ds)) {Q : VKD} {X : XKD} : gListR [.ref n] S Q X = Q (.ref S.length) (S ++ [.lst ds]) := by simp only [gListR, items, itemsL, h] <;> try rfl
theorem ref_tru (h : S[n]? = some (.lst ds)) {Q : Bool → Prop} : fTru (.ref n) S Q = Q (!ds.isEmpty) := by simp only [fTru, items, itemsL, h] <;> try rfl
theorem ref_it (h : S[n]? = some (.lst ds)) {Q : Src → Sto → Prop} : itQ (.ref n) S Q = Q (.cel n) S := by simp only [itQ, h] <;> try rfl
theorem ref_is (h : S[n]? = some (.lst ds)) {T : TN} {Q : VKD} : isQ T (.ref n) S Q = Q (.bl (match T with | .list => true | _ => false)) S := by simp only [isQ, isTN, h] <;> cases T <;> rfl
theorem ref_sl (h : S[n]? = some (.lst ds)) {lo hi : Option Int} {Q : VKD} : fSl (.ref n) lo hi S Q = Q (.fl (cutL ds lo hi)) S := by simp only [fSl, itemsL, h] <;> try rfl
theorem ref_app (h : S[n]? = some (.lst ds)) {d : D} {Q : VKD} : fApp (.ref n) [d] S Q = (ds.length < sizeLine ∧ Q .non (S.set n (.lst (ds ++ [d])))) := by simp only [fApp, h] <;> try rfl
theorem ref_ap (h : S[n]? = some (.lst ds)) : apP (.ref n) S = True := by simp only [apP, h] <;> try rfl
theorem ref_put (h : S[n]? = some (.lst ds)) {k : Int} {j : Nat} (hk : L2.ixN ds.length k = some j) {d : D} {Q : Sto → Prop} : fPut (.ref n) (.int k) d S Q = Q (S.set n (.lst (ds.set j d))) := by simp only [fPut, h, hk] <;> try rfl
theorem ref_in (h : S[n]? = some (.lst ds)) {neg : Bool} {x : D} {Q : VKD} {X : XKD} : fInB neg x (.ref n) S Q X = ((flatD x = true ∧ ds.all flatD = true) ∧ Q (.bl (if neg then !(ds.any fun d => eqF d x) else ds.any fun d => eqF d x)) S) := by simp only [fInB, items, itemsL, h] <;> try rfl
end
end AW

/-! AW14: enumerate over what is a list, a cell or a tuple. -/
namespace AW
open PySem PySem.Spec PyProof.Rows L2
section
open Sem (wp)
/-- enumerate(v) begins, whatever v's iterator is -/
theorem enum_meets {v : Value} {ob : Obj} {St0 : Heap → Prop} (Bg : Begins v ob St0) :
    Meets (Builtin.«enumerate.__new__» ⟨[.type "enumerate", v], []⟩) (fun _ R s => St0 s.heap ∧
      R (.ok (.ret (.ref (s.heap.push ob).objs.size)))
        { s with heap := (s.heap.push ob).push { cls := .type "enumerate", data := .fields #[.none, .bool false, .ref s.heap.objs.size, rawInt 0, .none, .none] } }) :=
  .of_wp fun prog w A R s hst => by
    obtain ⟨h0, g0, d0, tk0, os0⟩ := s
    obtain ⟨hb, hr⟩ := hst
    have subE := sub_enumerate
    have its : ∀ {A1 : Around} {E1 : Value → Shared → Prop} {Q1 : Value → Shared → Prop}, Q1 (.ref h0.objs.size) ⟨h0.push ob, g0, d0, tk0, os0⟩ → wpAny (model prog w) A1 (pyIter v) Q1 E1 ⟨h0, g0, d0, tk0, os0⟩ :=
      fun q => Bg.iter prog w _ _ ⟨h0, g0, d0, tk0, os0⟩ _ hb q
    wp_walk using its
    refine wpAny_stack_any fun sta => wpAny_pure ?_
    split
    · rename_i cl _ _ _ _ _
      cases (cl == Value.type "enumerate") <;> (wp_walk using its; exact ⟨_, rfl, hr⟩)
    · wp_walk using its
      exact ⟨_, rfl, hr⟩
variable {prog : Program} {w : World} {A : Around} {E : Value → Shared → Prop} {s : Shared}
theorem enum_called {v : Value} {ob : Obj} {St0 : Heap → Prop} (Bg : Begins v ob St0) {Q : Value → Shared → Prop} (hst : St0 s.heap)
    (h : ∀ h', IsEnum h' (s.heap.objs.size + 1) s.heap.objs.size 0 .none → h'.get? s.heap.objs.size = some ob → (∀ b o, s.heap.get? b = some o → h'.get? b = some o) → Q (.ref (s.heap.objs.size + 1)) { s with heap := h' }) :
    wpAny (model prog w) A (call (.type "enumerate") [v]) Q E s := by
  refine callType_new F.called_enumerate (by decide) (F.typeCall_enumerate_1 _) (F.newCall_enumerate_1 _) (fun o1 => F.args_object_init_2 o1 _) F.entry_enumerate_new (enum_meets Bg) ⟨hst, ?_⟩
  have hsize : (s.heap.push ob).objs.size = s.heap.objs.size + 1 := Heap.size_push ..
  show _ ∧ _
  rw [hsize]
  have hnew := Heap.get?_push_size (s.heap.push ob) (o := { cls := .type "enumerate", data := .fields #[.none, .bool false, .ref s.heap.objs.size, rawInt 0, .none, .none] }) rfl
  rw [hsize] at hnew
  exact ⟨⟨_, hnew, rfl⟩, h _ hnew (Heap.get?_push_of_some _ (Heap.get?_push_size _ Bg.free)) fun b o x => Heap.get?_push_of_some _ (Heap.get?_push_of_some _ x)⟩
end
/-- the tuple at a, each item in a new pair -/
def Itp (K : PySem.W.Frag) (a : Addr) : It :=
  ⟨fun i H => ∃ (xs : List V) (x : V), SqT K H a xs ∧ xs[i]? = some x, fun i H v H' => ∃ T x, v = .ref T ∧ H T = none ∧ H' = upd H T (.tup [.int (i : Nat), x]) ∧ ∀ xs, SqT K H a xs → xs[i]? = some x, fun i H => ∃ xs : List V, SqT K H a xs ∧ xs.length ≤ i⟩
theorem enum_apart {h : Heap} {e it a : Addr} {c : Int} {old : Value} {its : Array Value} (he : IsEnum h e it c old) (ht : h.IsTuple a its) : e ≠ a := by
  rintro rfl
  obtain ⟨o, ho, hc, _⟩ := ht
  rw [he] at ho
  have hc2 : Value.type "enumerate" = .type "tuple" := by rw [← hc, ← Option.some.inj ho]
  exact absurd hc2 (by decide)
open Sem (wp) in
/-- an iterator over a tuple that is at its end, or past it -/
theorem draws_over {prog : Program} {w : World} {A : Around} (hh : A.handled = none) (it t : Addr) (items : Array Value) (i : Nat) (hi : items.size ≤ i) :
    Draws prog w A it [it, t] i (fun _ _ => False) (fun j h => j = i ∧ h.IsTupleIter it t i ∧ h.IsTuple t items) where
  live := fun _ _ st => by
    obtain ⟨_, ⟨o, ho, _⟩, _⟩ := st
    exact ⟨o, ho⟩
  frame := fun _ _ _ st hk => by
    obtain ⟨e, a, b⟩ := st
    exact ⟨e, a.at fun o e => hk it (by simp) o e, b.at fun o e => hk t (by simp) o e⟩
  item := fun j s Q E hj st hQ => by
    have := st.1
    omega
  done := fun s Q E st hE => wpAny_nextOf_tuple_end hh st.2.1 st.2.2 (by simp; omega) hE
theorem turn_pairs {P : Program} {w : World} {K : PySem.W.Frag} {elts : List Expr} {kk : Nat} {tpos : Pos} (a e it : Addr) :
    Turn P w K (.Tuple elts kk tpos) (Itp K a) [e, it] e (fun i h => (∃ old, IsEnum h e it ((i : Nat) : Int) old) ∧ h.IsTupleIter it a i ∧ e ≠ it ∧ a ≠ it) where
  mem := List.mem_cons_self ..
  obj := fun i h st b hb => by
    obtain ⟨⟨old, he⟩, ⟨o, ho, hc, hd⟩, _⟩ := st
    rcases List.mem_cons.mp hb with z | z
    · rw [z]
      exact ⟨_, he, fun v q => nomatch q⟩
    · rw [List.mem_singleton.mp z]; exact ⟨o, ho, fun v q => by rw [hd] at q; cases q⟩
  keep := by
    intro i h h' st k
    obtain ⟨⟨old, he⟩, hi, hne⟩ := st
    exact ⟨⟨old, k e (by simp) _ he⟩, hi.at fun o q => k it (by simp) o q, hne⟩
  item := by
    rintro X rfl rfl rfl hc i pins s σ H E I hf ⟨⟨old, he⟩, hit, hne, hne2⟩ ⟨xs, x, hq, hx⟩
    obtain ⟨its, rv, p, hz⟩ := I.tuple hq
    have hT0 : s.heap.IsTuple a its.toArray := p
    have hlt : i < its.toArray.size := by
      have := rv.length
      have := (List.getElem?_eq_some_iff.mp hx).1
      simp; omega
    have lt1 : e < s.heap.objs.size := Heap.lt_size he
    have lt2 : it < s.heap.objs.size := by obtain ⟨_, q, _⟩ := hit; exact Heap.lt_size q
    refine wpAny_pyNext_enum_itemD (Draws.tuple (A := X.A.in1) (I.ok.hd hc) it a hne2 its.toArray) he ⟨hit, hT0⟩ hlt hne (by simp only [List.mem_cons, List.not_mem_nil, or_false, not_or]; exact ⟨hne, enum_apart he hT0⟩) fun u h' tk hu ho hst' hT hsz hk => ?_
    obtain ⟨u', hu', ru⟩ := rv.get hx
    have eu : u' = u := by
      have : its.toArray[i]? = some u' := by simpa using hu'
      rw [hu] at this
      exact (Option.some.inj this).symm
    subst eu
    refine ⟨_, rfl, wpAny_letOwnedTupleGo_enum (s := { s with heap := h', toks := tk + 1 }) ho fun h'' he' sb => ?_⟩
    have at_T : h''.get? s.heap.objs.size = some { cls := .type "tuple", data := .seq #[.int i tk, u'] } := (sb.2 _ (Nat.ne_of_gt lt1)).trans hT
    have okT : ObjOk X.prog X.w (upd H s.heap.objs.size (.tup [.int (i : Nat), x])) h'' s.heap.objs.size (.tup [.int (i : Nat), x]) :=
      ⟨by show 2 ≤ sizeLine; decide, [.int i tk, u'], .cons ⟨_, rfl⟩ (.cons ru .nil), ⟨_, at_T, rfl, _, rfl⟩⟩
    have I1 : Inv X pins σ (upd H s.heap.objs.size (.tup [.int (i : Nat), x])) { s with heap := h'', toks := tk + 1 } :=
      I.turnedNew (ch := [e, it]) (fun b ob hb q => (sb.2 b (fun z => hb (by simp [z]))).trans (hk b ob (fun z => hb (by simp [z])) (fun z => hb (by simp [z])) q)) hf (Nat.le_refl _) okT
    refine ⟨.ref s.heap.objs.size, _, I1, rfl, ⟨_, x, rfl, I.hok.fresh (Nat.le_refl _), rfl, fun ys hy => by rw [I.tuple_inj hy hq]; exact hx⟩, ⟨⟨u', ?_⟩, hst'.1.at fun o q => (sb.2 it (Ne.symm hne)).trans q, hne, hne2⟩, fun b hb => ?_⟩
    · rw [show ((i + 1 : Nat) : Int) = (i : Int) + 1 by omega]; exact he'
    · have lb : b < s.heap.objs.size := by
        rcases List.mem_cons.mp hb with z | z
        · rw [z]; exact lt1
        · rw [List.mem_singleton.mp z]; exact lt2
      rw [upd_ne (Nat.ne_of_lt lb)]
      exact (hf b hb).1
  done := by
    rintro X rfl rfl rfl hc i pins s σ H E I hf ⟨⟨old, he⟩, hit, hne, hne2⟩ ⟨xs, hq, hx⟩
    obtain ⟨its, rv, p, hz⟩ := I.tuple hq
    obtain ⟨f0, f1, f2, f3, f4, f5⟩ := hf it (by simp)
    have hl := rv.length
    have hT0 : s.heap.IsTuple a its.toArray := p
    exact wpAny_pyNext_enum_endD (draws_over (A := X.A.in1) (I.ok.hd hc) it a its.toArray i (by simp; omega)) he ⟨rfl, hit, hT0⟩ fun h' eb => ⟨rfl, I.turned (t' := s.toks) (fun b o hb q => eb b o hb q) f0 f1 f3 f4 f5⟩
  self := fun A i s Q E st h => by
    obtain ⟨⟨_, he⟩, _⟩ := st
    exact wpAny_pyIter_enum he h
def iPairs (K : PySem.W.Frag) (ta : TA) : TI := fun σ H R => ta σ H fun vs H1 => ∃ a, vs = [.ref a] ∧ (((∃ xs, SqL K H1 a xs) ∧ R (Ite K a) H1) ∨ ((∃ xs, SqT K H1 a xs) ∧ R (Itp K a) H1))
theorem pi_pairs {X : Cx} {e : Expr} {ta : TA} {p pos tpos : Pos} {elts : List Expr} {kk : Nat} (hg : Gl X "enumerate") (hm : X.mg "enumerate" = none) (ha : PA X [e] ta) (hs : starEach [e] X.env = [(false, eval e X.env)] := by rfl) :
    PI X (.Tuple elts kk tpos) (.Call (.Name "enumerate" p) [e] [] pos) (iPairs X.K ta) := by
  constructor
  intro pins s σ H R I h
  refine Call_ (ld_blt I hg hm boot_enumerate (PyProof.Rows.callWith_type1 (thn (ha.run pos pins s σ H _ I h) ?_) hs rfl))
  rintro us s1 ⟨vs, H1, I1, r1, a, rfl, q1⟩
  cases r1 with
  | cons r rr =>
    cases rr
    cases r
    have apart : ∀ b ∈ [s1.heap.objs.size + 1, s1.heap.objs.size], FpOk X pins H1 b := by
      intro b hb
      have hle : s1.heap.objs.size ≤ b := by
        rcases List.mem_cons.mp hb with z | z
        · rw [z]; exact Nat.le_add_right _ _
        · rw [List.mem_singleton.mp z]; exact Nat.le_refl _
      exact I1.fpOk hle (I1.hok.fresh hle)
    rcases q1 with ⟨⟨xs, hq⟩, q⟩ | ⟨⟨xs, hq⟩, q⟩
    · obtain ⟨its, rv, p', hz⟩ := I1.list hq
      refine call_enumerate_list p'.isList fun h' he hit hsz hk => wpAny_pyIter_enum he ?_
      exact ⟨_, _, _, _, H1, rfl, I1.kept (t' := s1.toks) hk, turn_enum a (s1.heap.objs.size + 1) s1.heap.objs.size, ⟨⟨.none, he⟩, hit, Nat.succ_ne_self _⟩, apart, q⟩
    · obtain ⟨its, rv, p', hz⟩ := I1.tuple hq
      have hT0 : s1.heap.IsTuple a its.toArray := p'
      have la : a < s1.heap.objs.size := by obtain ⟨_, z, _⟩ := hT0; exact Heap.lt_size z
      refine enum_called (begins_tuple a its.toArray) hT0 fun h' he hit hk => wpAny_pyIter_enum he ?_
      exact ⟨_, _, _, _, H1, rfl, I1.kept (t' := s1.toks) hk, turn_pairs a (s1.heap.objs.size + 1) s1.heap.objs.size, ⟨⟨.none, he⟩, ⟨_, hit, rfl, rfl⟩, Nat.succ_ne_self _, Nat.ne_of_lt la⟩, apart, q⟩
/-! ### what is read -/
def enumD (ds : List D) : List D := ds.mapIdx fun i d => .tup [.int (i : Nat), d]
theorem enumD_len (ds : List D) : (enumD ds).length = ds.length := List.length_mapIdx
theorem enumD_get (ds : List D) (i : Nat) : (enumD ds)[i]? = ds[i]?.map fun d => .tup [.int (i : Nat), d] := List.getElem?_mapIdx
theorem pair_rep {K ι S H} {T : Addr} {i : Nat} {x : V} {d : D} (r : RelS K ι S H) (hT : H T = none) (px : Rep K ι H d x) :
    Ext K ι H ι (upd H T (.tup [.int (i : Nat), x])) ∧ RelS K ι S (upd H T (.tup [.int (i : Nat), x])) ∧ Rep K ι (upd H T (.tup [.int (i : Nat), x])) (.tup [.int (i : Nat), d]) (.ref T) := by
  have e := Ext.new (o := .tup [.int (i : Nat), x]) r hT
  refine ⟨e, r.new hT, rep_tup.mpr ⟨T, _, rfl, SqT.of upd_same, ?_⟩⟩
  unfold RepL
  refine ⟨_, _, rfl, rep_int.mpr rfl, ?_⟩
  unfold RepL
  exact ⟨_, _, rfl, Rep.mono e d x px, RepL.nil⟩
theorem simPL {K ι H} {a : Addr} {xs : List V} {ds : List D} (hs : ∀ ι' H', Ext K ι H ι' H' → SqL K H' a xs) (hl : RepL K ι H ds xs) : SimIt K ι H (Ite K a) (.seq (enumD ds)) := by
  intro i ι' S' H' e r
  have hl' := RepL.mono e _ _ hl
  refine ⟨fun d hd => ?_, fun hd => ?_⟩
  · have hd : (enumD ds)[i]? = some d := Option.some.inj hd
    rw [enumD_get, Option.map_eq_some_iff] at hd
    obtain ⟨d0, hd0, rfl⟩ := hd
    obtain ⟨x, hx, px⟩ := RepL.get hl' hd0
    refine ⟨⟨xs, x, hs ι' H' e, hx⟩, ?_⟩
    rintro y H'' ⟨T, x', rfl, hT, rfl, hx'⟩
    have := hx' xs (hs ι' _ e)
    rw [hx] at this
    cases this
    exact pair_rep r hT px
  · have hd : (enumD ds)[i]? = none := Option.some.inj hd
    refine ⟨xs, hs ι' H' e, ?_⟩
    rw [← RepL.length hl, ← enumD_len]
    exact List.getElem?_eq_none_iff.mp hd
theorem simPT {K ι H} {a : Addr} {xs : List V} {ds : List D} (hs : SqT K H a xs) (hl : RepL K ι H ds xs) : SimIt K ι H (Itp K a) (.seq (enumD ds)) := by
  intro i ι' S' H' e r
  have hl' := RepL.mono e _ _ hl
  refine ⟨fun d hd => ?_, fun hd => ?_⟩
  · have hd : (enumD ds)[i]? = some d := Option.some.inj hd
    rw [enumD_get, Option.map_eq_some_iff] at hd
    obtain ⟨d0, hd0, rfl⟩ := hd
    obtain ⟨x, hx, px⟩ := RepL.get hl' hd0
    refine ⟨⟨xs, x, e.tup a xs hs, hx⟩, ?_⟩
    rintro y H'' ⟨T, x', rfl, hT, rfl, hx'⟩
    have := hx' xs (e.tup a xs hs)
    rw [hx] at this
    cases this
    exact pair_rep r hT px
  · have hd : (enumD ds)[i]? = none := Option.some.inj hd
    refine ⟨xs, e.tup a xs hs, ?_⟩
    rw [← RepL.length hl, ← enumD_len]
    exact List.getElem?_eq_none_iff.mp hd
theorem simPC {K ι H} {a : Addr} {n : Nat} (h : ι.cells[n]? = some a) : SimIt K ι H (Ite K a) (.enc n) := by
  intro i ι' S' H' e r
  refine ⟨fun d hd => ?_, fun hd => ?_⟩
  · have hd : (match S'[n]? with
      | some (.lst ds) => some (ds[i]?.map fun d => D.tup [.int (i : Nat), d])
      | _ => none) = some (some d) := hd
    split at hd
    · rename_i ds hc
      have hd := Option.some.inj hd
      rw [Option.map_eq_some_iff] at hd
      obtain ⟨d0, hd0, rfl⟩ := hd
      obtain ⟨xs, q1, q2⟩ := r.cel n _ a hc (e.get h)
      obtain ⟨x, hx, px⟩ := RepL.get q2 hd0
      refine ⟨⟨xs, x, SqL.of q1, hx⟩, ?_⟩
      rintro y H'' ⟨T, x', rfl, hT, rfl, hx'⟩
      have := hx' xs (SqL.of q1)
      rw [hx] at this
      cases this
      exact pair_rep r hT px
    · cases hd
  · have hd : (match S'[n]? with
      | some (.lst ds) => some (ds[i]?.map fun d => D.tup [.int (i : Nat), d])
      | _ => none) = some none := hd
    split at hd
    · rename_i ds hc
      have hd := Option.some.inj hd
      rw [Option.map_eq_none_iff] at hd
      obtain ⟨xs, q1, q2⟩ := r.cel n _ a hc (e.get h)
      refine ⟨xs, SqL.of q1, ?_⟩
      rw [← RepL.length q2]
      exact List.getElem?_eq_none_iff.mp hd
    · cases hd
def enQ (ds : List D) (S : Sto) (Q : Src → Sto → Prop) : Prop := match ds with
  | [.tup ds] => Q (.seq (enumD ds)) S
  | [.fl ds] => Q (.seq (enumD ds)) S
  | [.ref n] => match S[n]? with
    | some (.lst _) => Q (.enc n) S
    | _ => False
  | _ => False
def wiEnum (w : WA) : WI := fun σ S Q X => w σ S (fun ds S1 => enQ ds S1 Q) X
theorem ji_enum {X : Cx} {E : XK} {p pos tpos : Pos} {elts : List Expr} {kk : Nat} {K : PySem.W.Frag} {a : Expr} {ta : TA} {wa : WA} (hm : X.mg "enumerate" = none) (ha : JA X E [a] ta wa) (hg : Gl X "enumerate" := by rfl) (hs : starEach [a] X.env = [(false, eval a X.env)] := by rfl) (hK : X.K = K := by rfl) :
    JI X E (.Tuple elts kk tpos) (.Call (.Name "enumerate" p) [a] [] pos) (iPairs K ta) (wiEnum wa) := by
  subst hK
  refine ⟨pi_pairs hg hm ha.pe hs, ?_⟩
  intro ι σ H σD S Q XX R r s h l lx
  refine ha.ab ι σ H σD S _ XX _ r s h ?_ lx
  intro ι1 ds S1 vs H1 e1 r1 p1 h1
  unfold enQ at h1
  split at h1
  · obtain ⟨v, rfl, q⟩ := repL1 p1
    obtain ⟨a, xs, rfl, q1, q2⟩ := rep_tup.mp q
    exact ⟨a, rfl, .inr ⟨⟨xs, q1⟩, l ι1 _ S1 _ H1 e1 r1 (simPT q1 q2) h1⟩⟩
  · obtain ⟨v, rfl, q⟩ := repL1 p1
    obtain ⟨a, xs, rfl, na, q1, q2⟩ := rep_fl.mp q
    exact ⟨a, rfl, .inl ⟨⟨xs, SqL.of q1⟩, l ι1 _ S1 _ H1 e1 r1 (simPL (fun ι' H' e => SqL.of (e.frz a xs na q1).2) q2) h1⟩⟩
  · obtain ⟨v, rfl, q⟩ := repL1 p1
    obtain ⟨a, rfl, ha⟩ := rep_ref.mp q
    split at h1
    · rename_i ds hc
      obtain ⟨xs, q1, q2⟩ := r1.cel _ _ a hc ha
      exact ⟨a, rfl, .inl ⟨⟨xs, SqL.of q1⟩, l ι1 _ S1 _ H1 e1 r1 (simPC ha) h1⟩⟩
    · exact h1.elim
  · exact h1.elim
theorem ax_enum {w : WA} {σ : ASt} {S : Sto} {Q : Src → Sto → Prop} {X : XKD} : wiEnum w σ S Q X = w σ S (fun ds S1 => enQ ds S1 (Lz Q .mk)) X := id rfl
theorem ax_en_t {ds : List D} {S : Sto} {Q : Src → Sto → Prop} : enQ [.tup ds] S Q = Q (.seq (enumD ds)) S := id rfl
theorem ax_en_f {ds : List D} {S : Sto} {Q : Src → Sto → Prop} : enQ [.fl ds] S Q = Q (.seq (enumD ds)) S := id rfl
theorem ref_en {S : Sto} {n : Nat} {ds : List D} (h : S[n]? = some (.lst ds)) {Q : Src → Sto → Prop} : enQ [.ref n] S Q = Q (.enc n) S := by simp only [enQ, h]
/-- a for over enumerate(cell), the cell as it is -/
theorem enc_cut {wg : WG} {b : WS} {D0 : AE} {σ : ASt} {S : Sto} {X : XKD} (n : Nat) (ds : List D) (P : Nat → ASt → Sto → Prop) (h0 : P 0 σ S) (hc : ∀ i σ S, P i σ S → ∃ ds', S[n]? = some (.lst ds') ∧ ds'.length = ds.length ∧ ds'[i]? = ds[i]?)
    (hs : ∀ (i : Nat) d σ S (R : ASt → Sto → Prop), ds[i]? = some d → P i σ S → (∀ σ' S', P (i + 1) σ' S' → R σ' S') → wg (.tup [.int (i : Nat), d]) σ S (Lz (fun σ1 S1 => b { nx := R, rt := D0.rt, bk := D0.nx, ct := R } σ1 S1 X) .mk) X)
    (hd : ∀ σ S, P ds.length σ S → D0.nx σ S) : forC wg b D0 X (.enc n) (cellLen S n) 0 σ S := by
  have gen : ∀ (k i : Nat) (σ : ASt) (S : Sto), k + i = ds.length → P i σ S → forC wg b D0 X (.enc n) k i σ S := by
    intro k
    induction k with
    | zero =>
      intro i σ S e hp
      have e' : i = ds.length := by omega
      subst e'
      obtain ⟨ds', h1, h2, h3⟩ := hc _ _ _ hp
      unfold forC
      simp only [Src.at, h1, h3]
      exact ⟨by rw [List.getElem?_eq_none (Nat.le_refl _)]; rfl, hd σ S hp⟩
    | succ k ih =>
      intro i σ S e hp
      have hlt : i < ds.length := by omega
      have g : ds[i]? = some ds[i] := List.getElem?_eq_getElem hlt
      obtain ⟨ds', h1, h2, h3⟩ := hc _ _ _ hp
      unfold forC
      simp only [Src.at, h1, h3, g, Option.map_some]
      exact hs i ds[i] σ S _ g hp fun σ' S' h => ih (i + 1) σ' S' (by omega) h
  obtain ⟨ds', h1, h2, h3⟩ := hc _ _ _ h0
  rw [cellLen_of h1, h2]
  exact gen ds.length 0 σ S (by omega) h0
/-- a for over enumerate(sequence) -/
theorem enum_cut {wg : WG} {b : WS} {D0 : AE} {σ : ASt} {S : Sto} {X : XKD} (ds : List D) (P : Nat → ASt → Sto → Prop) (h0 : P 0 σ S)
    (hs : ∀ (i : Nat) d σ S (R : ASt → Sto → Prop), ds[i]? = some d → P i σ S → (∀ σ' S', P (i + 1) σ' S' → R σ' S') → wg (.tup [.int (i : Nat), d]) σ S (Lz (fun σ1 S1 => b { nx := R, rt := D0.rt, bk := D0.nx, ct := R } σ1 S1 X) .mk) X)
    (hd : ∀ σ S, P ds.length σ S → D0.nx σ S) : forL wg b D0 X (enumD ds) σ S := by
  refine forl_cut (enumD ds) P h0 (fun i d σ S R hd hp hR => ?_) (fun σ S hp => hd σ S (by rwa [enumD_len] at hp))
  rw [enumD_get, Option.map_eq_some_iff] at hd
  obtain ⟨d0, hd0, rfl⟩ := hd
  exact hs i d0 σ S R hd0 hp hR
end AW
/-! AW15: a list repeated, as a cell. -/
namespace AW
open PySem PySem.Spec PyProof.Rows L2
section
variable {X : Cx} {E : XK} {a b : Expr} {ta tb : TE} {wa wb : WE} {pos : Pos}
def fMulR : F2 := fun x y S Q _ => match x, y with
  | .fl xs, .int k => (k < 2 ^ 62 ∧ -(2 ^ 62) ≤ k ∧ xs.length * k.toNat ≤ sizeLine) ∧ Q (.ref S.length) (S ++ [.lst (List.replicate k.toNat xs).flatten])
  | _, _ => False
theorem abs_mulR {K : PySem.W.Frag} : AbsR2 K E rMulAll fMulR := by
  intro ι H S x y v u Q XX Qh r hx hy h l lx
  cases x <;> cases y <;> try exact h.elim
  rename_i xs k
  obtain ⟨p, as, rfl, np, hp, ra⟩ := rep_fl.mp hx
  rw [rep_int] at hy
  have la := RepL.length ra
  obtain ⟨⟨h1, h2, h3⟩, hq⟩ := h
  exact .inr ⟨p, k, as, rfl, hy, hp, by omega, by omega, by rw [← la]; exact h3, fun t ht => l.cell r (repL_rep ra _) hq ht⟩
theorem je_mulR (ha : JE X E a ta wa) (hb : JE X E b tb wb) : JE X E (.BinOp a .Mult b pos) (tOp rMulAll ta tb) (wOp fMulR wa wb) := je_op op_mulAll abs_mulR ha hb
theorem ax_mulr {xs : List D} {k : Int} {S : Sto} {Q : VKD} {XX : XKD} : fMulR (.fl xs) (.int k) S Q XX = ((k < 2 ^ 62 ∧ -(2 ^ 62) ≤ k ∧ xs.length * k.toNat ≤ sizeLine) ∧ Q (.ref S.length) (S ++ [.lst (List.replicate k.toNat xs).flatten])) := id rfl
end
/-! what is read as a sequence -/
section
variable {S : Sto} {x : D} {ds : List D}
theorem items_cases (h : items S x = some ds) : x = .tup ds ∨ x = .fl ds ∨ x = .scr ds ∨ ∃ n, x = .ref n ∧ S[n]? = some (.lst ds) := by
  cases x with
  | tup es => exact .inl (by rw [show es = ds from Option.some.inj h])
  | fl es => exact .inr (.inl (by rw [show es = ds from Option.some.inj h]))
  | scr es => exact .inr (.inr (.inl (by rw [show es = ds from Option.some.inj h])))
  | ref n =>
    refine .inr (.inr (.inr ⟨n, rfl, ?_⟩))
    have h : (match S[n]? with
      | some (.lst ds) => some ds
      | _ => none) = some ds := h
    split at h
    · rename_i es he
      rw [he, Option.some.inj h]
    · cases h
  | _ => cases h
theorem itm_len (h : items S x = some ds) {Q : VKD} {X : XKD} : gLen [x] S Q X = Q (.int (ds.length : Int)) S := by
  rcases items_cases h with rfl | rfl | rfl | ⟨n, rfl, hn⟩
  · rfl
  · rfl
  · rfl
  · exact ref_len hn
theorem itm_ix (h : items S x = some ds) {k : Int} {Q : VKD} {X : XKD} : fIx x (.int k) S Q X = atQ ds k (Lz (fun d => Q d S) .mk) := by
  rcases items_cases h with rfl | rfl | rfl | ⟨n, rfl, hn⟩
  · rfl
  · rfl
  · rfl
  · exact ref_ix hn
/-- tuple(x[..]) -/
theorem itm_cut (h : items S x = some ds) {lo hi : Option Int} {Q : VKD} {X : XKD} : fSl x lo hi S (fun d S1 => gTuple [d] S1 Q X) = Q (.tup (cutL ds lo hi)) S := by
  rcases items_cases h with rfl | rfl | rfl | ⟨n, rfl, hn⟩
  · rfl
  · rfl
  · rfl
  · rw [ref_sl hn]; rfl
theorem itm_tuple (h : items S x = some ds) {Q : VKD} {X : XKD} : gTuple [x] S Q X = Q (.tup ds) S := by
  rcases items_cases h with rfl | rfl | rfl | ⟨n, rfl, hn⟩
  · rfl
  · rfl
  · rfl
  · exact ref_tuple hn
theorem itm_list (h : items S x = some ds) {Q : VKD} {X : XKD} : gList [x] S Q X = Q (.fl ds) S := by
  rcases items_cases h with rfl | rfl | rfl | ⟨n, rfl, hn⟩
  · rfl
  · rfl
  · rfl
  · exact ref_list hn
theorem itm_listr (h : items S x = some ds) {Q : VKD} {X : XKD} : gListR [x] S Q X = Q (.ref S.length) (S ++ [.lst ds]) := by
  rcases items_cases h with rfl | rfl | rfl | ⟨n, rfl, hn⟩
  · rfl
  · rfl
  · rfl
  · exact ref_listr hn
theorem itm_tru (h : items S x = some ds) {Q : Bool → Prop} : fTru x S Q = Q (!ds.isEmpty) := by
  rcases items_cases h with rfl | rfl | rfl | ⟨n, rfl, hn⟩
  · rfl
  · rfl
  · rfl
  · exact ref_tru hn
end
theorem cutL_to {α : Type} (xs : List α) {k : Int} (h0 : 0 ≤ k) (h : k ≤ xs.length) : cutL xs none (some k) = xs.take k.toNat := by
  unfold cutL
  simp only [HT.sIx, List.drop_zero, Nat.sub_zero]
  rw [if_neg (by omega), Nat.min_eq_left (by omega)]
theorem cutL_from {α : Type} (xs : List α) {k : Int} (h0 : 0 ≤ k) : cutL xs (some k) none = xs.drop k.toNat := by
  unfold cutL
  simp only [HT.sIx]
  rw [if_neg (by omega), List.take_of_length_le (by rw [List.length_drop]; exact Nat.le_refl _)]
  rcases Nat.lt_or_ge k.toNat xs.length with z | z
  · rw [Nat.min_eq_left (by omega)]
  · rw [Nat.min_eq_right z, List.drop_eq_nil_of_le z, List.drop_eq_nil_of_le (Nat.le_refl _)]
/-! strings -/
theorem str_eq {a b : String} : (Str.ofString a = Str.ofString b) = (a = b) := by
  apply propext
  constructor
  · intro h
    rw [Str.ofString_eq_toList, Str.ofString_eq_toList] at h
    have h2 := congrArg (fun x : Str => x.cps.toList) h
    simp only [Str.mk.injEq] at h2
    have h3 : a.toList.map Char.toNat = b.toList.map Char.toNat := by simpa using h2
    have h4 : a.toList = b.toList := (List.map_inj_right fun x y e => Char.ext (UInt32.toNat_inj.mp e)).mp h3
    exact String.toList_inj.mp h4
  · rintro rfl
    rfl
/-! == of trees without bools -/
theorem D.see_cl {S : Sto} (k : Nat) {n : Nat} {d : D} (h : d.cl n = true) : D.see S k d = d := D.see_dt k n d (D.cl_dt n d h)
theorem fEq_cl {x y : D} {n m : Nat} (hx : x.cl n = true) (hy : y.cl m = true) {p : Prop} [Decidable p] (hp : x = y ↔ p) {S : Sto} {Q : VKD} {X : XKD} (q : Q (.bl (decide p)) S) (hn : n ≤ 64 := by decide) (hm : m ≤ 64 := by decide) : fEq x y S Q X := by
  have gen : EqOk (x.see S 4) (y.see S 4) ∧ Q (.bl (PyData.eqv (x.see S 4).py (y.see S 4).py)) S := by
    rw [D.see_cl 4 hx, D.see_cl 4 hy, eqv_dec hx hy hp]
    exact ⟨eqOk_dt (D.cl_dt n x hx) (D.cl_dt m y hy) hn hm, q⟩
  cases x <;> cases y <;> first
    | exact gen
    | skip
  · rename_i i j
    show Q (.bl (decide (i = j))) S
    have e : decide (i = j) = decide p := decide_eq_decide.mpr (Iff.trans ⟨fun h => by rw [h], fun h => D.int.inj h⟩ hp)
    rw [e]; exact q
  · rename_i i j
    show Q (.bl (decide (i = j))) S
    have e : decide (i = j) = decide p := decide_eq_decide.mpr (Iff.trans ⟨fun h => by rw [h], fun h => D.str.inj h⟩ hp)
    rw [e]; exact q
theorem fNe_cl {x y : D} {n m : Nat} (hx : x.cl n = true) (hy : y.cl m = true) {p : Prop} [Decidable p] (hp : x = y ↔ p) {S : Sto} {Q : VKD} {X : XKD} (q : Q (.bl (!decide p)) S) (hn : n ≤ 64 := by decide) (hm : m ≤ 64 := by decide) : fNe x y S Q X := by
  have gen : EqOk (x.see S 4) (y.see S 4) ∧ Q (.bl (!PyData.eqv (x.see S 4).py (y.see S 4).py)) S := by
    rw [D.see_cl 4 hx, D.see_cl 4 hy, eqv_dec hx hy hp]
    exact ⟨eqOk_dt (D.cl_dt n x hx) (D.cl_dt m y hy) hn hm, q⟩
  cases x <;> cases y <;> first
    | exact gen
    | skip
  · rename_i i j
    show Q (.bl (!decide (i = j))) S
    have e : decide (i = j) = decide p := decide_eq_decide.mpr (Iff.trans ⟨fun h => by rw [h], fun h => D.int.inj h⟩ hp)
    rw [e]; exact q
  · rename_i i j
    show Q (.bl (!decide (i = j))) S
    have e : decide (i = j) = decide p := decide_eq_decide.mpr (Iff.trans ⟨fun h => by rw [h], fun h => D.str.inj h⟩ hp)
    rw [e]; exact q
/-- a statement that comes to one state -/
theorem seq_to (σ' : ASt) (S' : Sto) {w u : WS} {D0 : AE} {σ : ASt} {S : Sto} {X : XKD} (h2 : u D0 σ' S' X) (h1 : ∀ R : ASt → Sto → Prop, R σ' S' → w { nx := R, rt := D0.rt, bk := D0.bk, ct := D0.ct } σ S X) : wSeq w u D0 σ S X := h1 _ h2
theorem seq_same {w u : WS} {D0 : AE} {σ : ASt} {S : Sto} {X : XKD} (h2 : u D0 σ S X) (h1 : ∀ R : ASt → Sto → Prop, R σ S → w { nx := R, rt := D0.rt, bk := D0.bk, ct := D0.ct } σ S X) : wSeq w u D0 σ S X := h1 _ h2
/-! a tree leaves the cells behind -/
theorem belowL_all (k : Nat) : ∀ ds : List D, (∀ d ∈ ds, d.under k = true) → belowL k ds = true
  | [], _ => by unfold belowL; rfl
  | d :: ds, h => by
    unfold belowL
    rw [h d (.head _), belowL_all k ds fun x hx => h x (.tail _ hx)]; rfl
theorem D.under_dt (k : Nat) : ∀ (n : Nat) (d : D), d.dt n = true → d.under k = true := by
  intro n
  induction n with
  | zero => intro d h; cases d <;> first | (cases h; done) | (unfold D.under; rfl)
  | succ n ih =>
    intro d h
    cases d with
    | tup ds =>
      rw [D.dt, List.all_eq_true] at h
      unfold D.under
      exact belowL_all k ds fun x hx => ih x (h x hx)
    | fl ds =>
      rw [D.dt, List.all_eq_true] at h
      unfold D.under
      exact belowL_all k ds fun x hx => ih x (h x hx)
    | scr ds => cases h
    | ref m => cases h
    | _ => unfold D.under; rfl
theorem gives_dt {Q : VKD} {S g : Sto} {d : D} {n : Nat} (hc : Closed S) (hd : d.dt n = true) (h : Q d S) : Gives Q S.length d (S ++ g) := gives_drop (Nat.le_refl _) hc (D.under_dt _ n d hd) h
theorem gives_cl {Q : VKD} {S g : Sto} {d : D} {n : Nat} (hc : Closed S) (hd : d.cl n = true) (h : Q d S) : Gives Q S.length d (S ++ g) := gives_dt hc (D.cl_dt n d hd) h
/-! comprehensions over what is mapped -/
theorem lcL_each {α : Type} {wg : WG} {wt : WT} {we : WE} {σ : ASt} {Q : List D → Sto → Prop} {S : Sto} (xs : List α) (e f : α → D) (hs : ∀ (i : Nat) a acc (R : List D → Sto → Prop), xs[i]? = some a → R (acc ++ [f a]) S → lcTurn wg wt we σ (e a) acc S R) (hq : Q (xs.map f) S) : lcL wg wt we σ Q (xs.map e) [] S := by
  refine lc_cut (xs.map e) (fun i acc S' => S' = S ∧ acc = (xs.take i).map f) ⟨rfl, rfl⟩ ?_ ?_
  · rintro i d acc S' R hd ⟨rfl, rfl⟩ hR
    rw [List.getElem?_map] at hd
    cases g : xs[i]? with
    | none => rw [g] at hd; cases hd
    | some a =>
      rw [g] at hd
      cases hd
      exact hs i a _ R g (hR _ _ ⟨rfl, by rw [take_succ_of g, List.map_append]; rfl⟩)
  · rintro acc S' ⟨rfl, rfl⟩
    rw [List.length_map, List.take_length]
    exact hq
theorem lcL_range {wg : WG} {wt : WT} {we : WE} {σ : ASt} {Q : List D → Sto → Prop} {S : Sto} (lo : Int) (n : Nat) (f : Nat → D) (hs : ∀ (i : Nat) acc (R : List D → Sto → Prop), i < n → R (acc ++ [f i]) S → lcTurn wg wt we σ (.int (lo + (i : Nat))) acc S R) (hq : Q ((List.range n).map f) S) : lcL wg wt we σ Q (rangeD lo n) [] S :=
  lcL_each (List.range n) (fun i => .int (lo + (i : Nat))) f (fun i a acc R h hR => by
    have := List.mem_range.mp (List.mem_of_getElem? h)
    exact hs a acc R this hR) hq
end AW
/-! AW16: raise, try with several clauses. -/
namespace AW
open PySem PySem.Spec PyProof.Rows L2

/-- the program's exceptions by name -/
inductive XN where
  | face | dom | shape | sing | text
deriving DecidableEq
def XN.name : XN → Str
  | .face => "FacetloreError"
  | .dom => "DomainError"
  | .shape => "ShapeError"
  | .sing => "SingularError"
  | .text => "TextError"
def XN.sub (n m : XN) : Bool := decide (m = n) || decide (m = .face)
/-- what is to be known of a class that is raised -/
def XcC (K : PySem.W.Frag) (mg : Str → Option Value) (x : Str) (v : Value) : Prop := ∃ C : Addr, v = .ref C ∧ mg x = some (.ref C) ∧ PySem.W.excIn K C [.type "ValueError", .type "Exception", .type "BaseException", .type "object"] "ValueError.__new__" = true ∧
  PySem.W.keepIn K (.ref C) = true ∧ PySem.W.subIn K (.ref C) (.type "BaseException") = some true ∧ PySem.W.typeIn K (.ref C) = some (.type "type") ∧ L2.ExcC K C
structure XOk (K : PySem.W.Frag) (mg : Str → Option Value) (ns : List XN) (e : XN → Value) : Prop where
  cls : ∀ n ∈ ns, XcC K mg n.name (e n)
  mat : ∀ n ∈ ns, ∀ m ∈ ns, PySem.W.exmOne K (e n) (e m) = some (n.sub m)
  isi : ∀ n ∈ ns, ∀ m ∈ ns, PySem.W.kitOne K (e n) (e m) = some (n.sub m)
  isv : ∀ n ∈ ns, PySem.W.kitOne K (e n) (.type "ValueError") = some true
theorem XOk.inj {K : PySem.W.Frag} {mg : Str → Option Value} {ns : List XN} {e : XN → Value} (o : XOk K mg ns e) {n m : XN} (hn : n ∈ ns) (hm : m ∈ ns) (h : e n = e m) : n = m := by
  have a := o.mat n hn m hm
  have b := o.mat m hm n hn
  rw [h] at a
  rw [h] at b
  have c := o.mat m hm m hm
  rw [c] at a b
  revert a b
  cases n <;> cases m <;> decide
theorem XOk.glob {K : PySem.W.Frag} {mg : Str → Option Value} {ns : List XN} {e : XN → Value} (o : XOk K mg ns e) (n : XN) (hn : n ∈ ns) : mg n.name = some (e n) := by
  obtain ⟨C, eC, gC, _⟩ := o.cls n hn
  rw [eC]
  exact gC
/-- the classes' values, told by a list -/
def xvl (l : List (XN × Value)) (n : XN) : Value := ((l.find? fun p => decide (p.1 = n)).map (·.2)).getD .none
theorem xc_of {K : PySem.W.Frag} {h : Heap} {mg : Str → Option Value} (X : K.In h) (G : h.Ns mainGlobals mg) {x : Str} {C : Addr} (g : PySem.W.nsIn K mainGlobals x = some (some (.ref C))) (q : PySem.W.excIn K C [.type "ValueError", .type "Exception", .type "BaseException", .type "object"] "ValueError.__new__" = true)
    (k : PySem.W.keepIn K (.ref C) = true) (b : PySem.W.subIn K (.ref C) (.type "BaseException") = some true) (t : PySem.W.typeIn K (.ref C) = some (.type "type")) (f1 : PySem.W.findIn K (.ref C) "__getattribute__" = some (some (.builtin "BaseException.__getattribute__"))) (f2 : PySem.W.findIn K (.ref C) "__getattr__" = some none)
    (f3 : PySem.W.hasDictIn K C = true) (f4 : PySem.W.findIn K (.ref C) "__class__" = some (some (.builtin "object.__class__"))) (f5 : PySem.W.mroIn K C (.type "object") = some true)
    (c1 : PySem.W.specialIn K (.builtin "object.__class__") "__get__" = some (some (.builtin "getset_descriptor.__get__"))) (c2 : PySem.W.takesIn K (.builtin "object.__class__") = some true) : XcC K mg x (.ref C) :=
  ⟨C, rfl, PySem.W.mg_of X G g, q, k, b, t, ⟨f1, f2, b, f3, f4, c1, c2, f5⟩⟩
theorem kit_own {K : PySem.W.Frag} {C D : Addr} {b : Bool} (self : PySem.W.subIn K (.ref C) (.ref C) = some true) (h : PySem.W.subIn K (.ref D) (.ref C) = some b) (hd : PySem.W.hasDictIn K C = true) (ht : PySem.W.typeIn K (.ref C) = some (.type "type")) : PySem.W.kitOne K (.ref D) (.ref C) = some b := by
  obtain ⟨cd, hc, _⟩ := PySem.W.any_some hd
  have e2 : ((PySem.W.clsIn K C).isSome && PySem.W.typeIn K (.ref C) == some (.type "type")) = true := by rw [hc, ht] <;> rfl
  unfold PySem.W.kitOne
  by_cases q : ((Value.ref D == Value.ref C) = true)
  · rw [if_pos q]
    have e := Value.ref.inj (beq_iff_eq.mp q)
    subst e
    exact self.symm.trans h
  · rw [if_neg q]
    show (if ((PySem.W.clsIn K C).isSome && PySem.W.typeIn K (.ref C) == some (.type "type")) = true then PySem.W.subIn K (.ref D) (.ref C) else none) = some b
    rw [if_pos e2]
    exact h
theorem kit_ve {K : PySem.W.Frag} {D : Addr} (h : PySem.W.subIn K (.ref D) (.type "ValueError") = some true) : PySem.W.kitOne K (.ref D) (.type "ValueError") = some true := by
  unfold PySem.W.kitOne
  rw [if_neg (by simp)]
  show (if PySem.W.kitMeta "ValueError" = true then PySem.W.subIn K (.ref D) (.type "ValueError") else none) = some true
  rw [if_pos (by decide +kernel)]
  exact h
def wRaise (c : Value) : WS := fun _ _ S XX => XX c none S
section
variable {X : Cx} {E : XK} {p p2 pos pos' : Pos}
theorem js_raise {x m : Str} {j : Nat} {v : Value} (xc : XcC X.K X.mg x v) (tk : Takes X (fun c d _ H => E c d H)) (hc : X.calm = true := by rfl) (hg : Gl X x := by rfl) (hdb : (x == ("__debug__" : Str)) = false := by decide) :
    JS X E (.Raise (some (.Call (.Name x p) [.Constant (.str m) j p2] [] pos)) none pos') (fun _ _ H => E v none H) (wRaise v) := by
  obtain ⟨C, rfl, gC, q, kC, sC, tC, _⟩ := xc
  exact ⟨ps_raise hc tk (pmk_own PySem.F.excBase_ValueError q gC kC (raises_own sC tC) hg hdb), fun ι σ H σD S DA XX De r s h l lx => lx ι (.ref C) none none S H Ext.refl r True.intro h⟩
end
/-! ### try -/
abbrev HdT := Value × Option Nat × (Addr → Value → Option Addr → TS)
/-- the ends of a suite; the name of the exception goes -/
def hEnds (D : Ends) : Option Nat → Ends
  | none => D
  | some i => { nx := fun σ H => D.nx (σ.set i none) H, rt := D.rt, bk := fun σ H => D.bk (σ.set i none) H, ct := fun σ H => D.ct (σ.set i none) H }
def hSt (σ : L2.St) (a : Addr) : Option Nat → L2.St
  | none => σ
  | some i => σ.set i (some (.ref a))
def wHdl (K : PySem.W.Frag) (Wout : WX) (D : Ends) : List HdT → WX
  | [] => Wout
  | h :: r => fun cls d σ H => ∃ b, PySem.W.exmOne K cls h.1 = some b ∧ (b = true → ∀ a, H a = none → h.2.2 a cls d (hEnds D h.2.1) (hSt σ a h.2.1) H) ∧ (b = false → wHdl K Wout D r cls d σ H)
/-- the suite of a clause -/
def HdSuite (X : Cx) (ss : List Stmt) (ts : Addr → Value → Option Addr → TS) : Prop :=
  ∀ (a : Addr) (oe : Obj) (cls : Value) (d : Option Addr) (pn : List (Addr × Obj)), Zc cls d oe → (∃ vs, oe.data = .fields vs) → PSs (X.suite a ((a, oe) :: pn)) ss (ts a cls d)
inductive Hdl (X : Cx) : List ExceptHandler → List HdT → Prop where
  | nil : Hdl X [] []
  | bare {x : Str} {c : Value} {ts : Addr → Value → Option Addr → TS} {b₀ : Stmt} {ss : List Stmt} {np ps : Pos} {hs : List ExceptHandler} {l : List HdT} (hc : Names X x c) (su : HdSuite X (b₀ :: ss) ts) (r : Hdl X hs l) :
      Hdl X (.ExceptHandler (some (.Name x np)) none (b₀ :: ss) ps :: hs) ((c, none, ts) :: l)
  | named {x n : Str} {c : Value} {i : Nat} {ts : Addr → Value → Option Addr → TS} {b₀ : Stmt} {ss : List Stmt} {np ps : Pos} {hs : List ExceptHandler} {l : List HdT} (hc : Names X x c) (hi : X.N[i]? = some n) (hl : X.env.kindOf n = some .local)
      (su : HdSuite X (b₀ :: ss) ts) (r : Hdl X hs l) : Hdl X (.ExceptHandler (some (.Name x np)) (some n) (b₀ :: ss) ps :: hs) ((c, some i, ts) :: l)
section
variable {X : Cx} {body : List Stmt} {h₀ : ExceptHandler} {hs : List ExceptHandler} {l : List HdT} {pos : Pos} {tb : WX → TS} {Wout : WX}
theorem ps_tryA (st : X.stack = X.env :: X.outer) (fr : X.env.frame = some X.env.locals) (nd : X.N.Nodup) (tk : Takes X Wout)
    (hb : ∀ (W : WX) (pn : List (Addr × Obj)) (xe : Value → Shared → Prop), Takes (X.tr pn xe) W → PassesOwn (model X.prog X.w) X.A X.env xe → PSs (X.tr pn xe) body (tb W)) (hh : Hdl X (h₀ :: hs) l) :
    PS X (.Try body (h₀ :: hs) [] [] pos) (fun D σ H => tb (wHdl X.K Wout D l) D σ H) := by
  refine ⟨fun pins s σ H D I h => wpAny_Try_except ?_⟩
  have ok := I.ok
  have af : X.A.frames = some (X.env :: X.outer) := ok.frames.trans (congrArg some st)
  let catch_ : Value → Shared → Prop := fun u t => wpAny (model X.prog X.w) X.A (noteFrame u X.env)
    (fun _ t2 => wpAny (model X.prog X.w) X.A (setFlight u none) (fun _ t3 => wpAny (model X.prog X.w) X.A (handleBy u X.env (h₀ :: hs)) (SP X pins D) X.xe t3) X.xe t2) X.xe t
  have caught : ∀ u t, XE (X.tr (X.pn ++ pins) catch_) (wHdl X.K Wout D l) u t → catch_ u t := by
    rintro u t ⟨a, B, sI, pins', σ1, H1, cls, d, rfl, J0, keep, upto, air, fresh, os, gens, want⟩
    have J : Inv X pins σ1 H1 sI := J0.ofTry ok
    have air : Sky B (X.env :: X.outer) a (Zc cls d) X.env.locals t.heap := st ▸ air
    refine Sky.land Zc.steady af fr air fun g fly up1 => ?_
    obtain ⟨oe, vs, there, hz, hd⟩ := fly.there
    have Jg : Inv X pins σ1 H1 { t with heap := g } := J.landed keep fly.1 (upto.trans up1) os gens
    have off : a ∉ frs (X.env :: X.outer) := fun hm => by
      obtain ⟨_, o2, e2, no⟩ := fly.2.2.1.mem hm
      rw [there] at e2
      cases e2
      exact no _ hd
    have offL : a ≠ X.env.locals := fun z => off (List.mem_filterMap.mpr ⟨X.env, .head _, by rw [fr, z]⟩)
    have offF : a ∉ X.fs := fun hm => by
      obtain ⟨v, hv, q⟩ := List.mem_filterMap.mp hm
      exact off (List.mem_filterMap.mpr ⟨v, .tail _ hv, q⟩)
    have Sg := Jg.suite there hd fresh offL offF
    have cls_ : PySem.W.Looks (model X.prog X.w) g (typeOf (.ref a)) cls := fun A Q E s k q => wpAny_typeOf_ref (k _ _ there) (hz.1 ▸ q)
    have name_ : ∀ {x : Str} {c : Value} {np : Pos} {Q E : Value → Shared → Prop}, Names X x c → Q c { t with heap := g } → wpAny (model X.prog X.w) (X.A.mark (some (.ref a))) (eval (.Name x np) X.env) Q E { t with heap := g } := fun {x c np Q E} hc q => by
      obtain ⟨g1, g2, g3 | ⟨g3, g4, g5⟩⟩ := hc
      · exact ld_glob (X := X.suite a ((a, oe) :: (X.pn ++ pins))) Sg g1 g3 q g2
      · exact ld_blt (X := X.suite a ((a, oe) :: (X.pn ++ pins))) Sg g1 g3 g4 q g5 g2
    have walk : ∀ {k : List ExceptHandler} {m : List HdT}, Hdl X k m → wHdl X.K Wout D m cls d σ1 H1 → wpAny (model X.prog X.w) X.A (handleBy (.ref a) X.env k) (SP X pins D) X.xe { t with heap := g } := by
      intro k m hk
      induction hk with
      | nil =>
        intro w
        refine wpAny_handleBy_nil ?_
        obtain ⟨_, _, _, o3, v3, T3, _, _, e3, _, d3, l3, _⟩ := id fly
        unfold PySem.passOn
        refine wpAny_bind (wpAny_field e3 d3 l3 ?_)
        rw [if_neg (show ¬((Value.ref T3 == Value.none) = true) from by simp)]
        have on : wpAny (model X.prog X.w) X.A (setFlight (.ref a) X.env.frame) (fun _ t4 => wpAny (model X.prog X.w) X.A (throw (.ref a) : Sem Flow) (SP X pins D) X.xe t4) X.xe { t with heap := g } := by
          rw [fr]
          exact HandSPX.setFlight_upZ fly fun g4 held up4 => wpAny_throw (tk _ _ ⟨a, B, sI, pins, σ1, H1, cls, d, rfl, J, keep, (upto.trans up1).trans up4, .inr (.inr (st.symm ▸ held)), fresh, os, gens, w⟩)
        first
          | exact wpAny_bind (wpAny_pure (wpAny_bind on))
          | exact wpAny_bind on
      | @bare x c ts b₀ ss np ps hs2 l2 hc su _ ih =>
        intro w
        obtain ⟨b, eb, yes, no⟩ := w
        refine wpAny_handleBy_cons (codeAny_handlers_test ?_) (by intro z; cases z)
        refine name_ hc ((PySem.W.exm_one (M := model X.prog X.w) Jg.kIn cls_ eb).here ?_)
        cases b with
        | false => exact ih (no rfl)
        | true =>
          refine codeAny_handlers_suite (HandSPX.lands_againZ fly fun g4 fly4 up4 => ?_)
          obtain ⟨o4, v4, t4, z4, d4⟩ := fly4.there
          have J4 : Inv X pins σ1 H1 { t with heap := g4 } := J.landed keep fly4.1 ((upto.trans up1).trans up4) os gens
          refine wpAny_mono ((su a o4 cls d (X.pn ++ pins) z4 ⟨_, d4⟩).run [] _ _ H1 _ (J4.suite t4 d4 fresh offL offF) (yes rfl a fresh)) (fun f s6 r6 => ?_) (fun _ _ z => False.elim z)
          cases f with
          | ret u => obtain ⟨_, _, _, S6, r, q⟩ := r6; exact ⟨_, _, _, S6.unsuite ok, r, q⟩
          | next => obtain ⟨_, _, S6, q⟩ := r6; exact ⟨_, _, S6.unsuite ok, q⟩
          | brk => obtain ⟨_, _, S6, q⟩ := r6; exact ⟨_, _, S6.unsuite ok, q⟩
          | cont => obtain ⟨_, _, S6, q⟩ := r6; exact ⟨_, _, S6.unsuite ok, q⟩
      | @named x n c i ts b₀ ss np ps hs2 l2 hc hi hl su _ ih =>
        intro w
        obtain ⟨b, eb, yes, no⟩ := w
        refine wpAny_handleBy_cons (codeAny_handlers_test ?_) (by intro z; cases z)
        refine name_ hc ((PySem.W.exm_one (M := model X.prog X.w) Jg.kIn cls_ eb).here ?_)
        cases b with
        | false => exact ih (no rfl)
        | true =>
          refine codeAny_handlers_suite_as (HandSPX.lands_againZ fly fun g4 fly4 up4 => ?_)
          obtain ⟨o4, v4, t4, z4, d4⟩ := fly4.there
          have J4 : Inv X pins σ1 H1 { t with heap := g4 } := J.landed keep fly4.1 ((upto.trans up1).trans up4) os gens
          have S4 := J4.suite t4 d4 fresh offL offF
          refine store_ok (X := X.suite a ((a, o4) :: (X.pn ++ pins))) (v := .ref a) S4 nd hi (.inl hl) rfl (fun s5 S5 => ?_) (.inr hl)
          have done : ∀ {σ6 : L2.St} {H6 : Hp} {s6 : Shared} {Q : Shared → Prop}, Inv (X.suite a ((a, o4) :: (X.pn ++ pins))) [] σ6 H6 s6 → (∀ s7, Inv X pins (σ6.set i none) H6 s7 → Q s7) →
              wpAny (model X.prog X.w) X.A (do bindName X.env n .none; unbindBehindTheSuite X.env n ps) (fun _ s7 => Q s7) X.xe s6 := fun S6 hq => gone_ok (S6.unsuite ok) nd hi hl hq
          refine wpAny_mono ((su a o4 cls d (X.pn ++ pins) z4 ⟨_, d4⟩).run [] s5 _ H1 _ S5 (yes rfl a fresh)) (fun f s6 r6 => ?_) (fun _ _ z => False.elim z)
          cases f with
          | ret u => obtain ⟨_, _, _, S6, r, q⟩ := r6; exact done S6 fun s7 J7 => ⟨_, _, _, J7, r, q⟩
          | next => obtain ⟨_, _, S6, q⟩ := r6; exact done S6 fun s7 J7 => ⟨_, _, J7, q⟩
          | brk => obtain ⟨_, _, S6, q⟩ := r6; exact done S6 fun s7 J7 => ⟨_, _, J7, q⟩
          | cont => obtain ⟨_, _, S6, q⟩ := r6; exact done S6 fun s7 J7 => ⟨_, _, J7, q⟩
    exact walk hh want
  refine wpAny_mono ((hb (wHdl X.K Wout D l) (X.pn ++ pins) catch_ caught PassesOwn.looking).run [] s σ H D (I.toTry _) h) (fun f s1 r1 => ?_) (fun e s1 he => he)
  cases f with
  | ret u => obtain ⟨_, _, _, J, r, q⟩ := r1; exact ⟨_, _, _, J.ofTry ok, r, q⟩
  | next => obtain ⟨_, _, J, q⟩ := r1; exact wpAny_execs_nil ⟨_, _, J.ofTry ok, q⟩
  | brk => obtain ⟨_, _, J, q⟩ := r1; exact ⟨_, _, J.ofTry ok, q⟩
  | cont => obtain ⟨_, _, J, q⟩ := r1; exact ⟨_, _, J.ofTry ok, q⟩
end
/-! ### try, read plainly -/
abbrev HdD := XN × Option Nat × (Addr → XN → WS)
def hSlots (N : Nat) (a : Addr) : Option Nat → ASt
  | none => List.replicate N none
  | some i => (List.replicate N none).set i (some (.exc a))
/-- the clauses, tried one after the other; a suite returns -/
def tryD (e : XN → Value) (DA : AE) (N : Nat) (XX : XKD) (S : Sto) (n : XN) : List HdD → Prop
  | [] => XX (e n) none S
  | h :: r => if n.sub h.1 = true then ∀ a, h.2.2 a n { nx := fun _ _ => False, rt := DA.rt, bk := fun _ _ => False, ct := fun _ _ => False } (hSlots N a h.2.1) S X0 else tryD e DA N XX S n r
def tryX (ns : List XN) (e : XN → Value) (N : Nat) (hs : List HdD) (DA : AE) (XX : XKD) : XKD := fun c fo S => fo = none ∧ ∃ n, n ∈ ns ∧ c = e n ∧ tryD e DA N XX S n hs
def wTry (ns : List XN) (e : XN → Value) (N : Nat) (wb : WS) (hs : List HdD) : WS := fun DA σ S XX => wb DA σ S (tryX ns e N hs DA XX)
/-- a clause's suite, for each exception that may come -/
def JSuite (X : Cx) (ns : List XN) (e : XN → Value) (ss : List Stmt) (ts : Addr → XN → TS) (ws : Addr → XN → WS) : Prop :=
  ∀ (a : Addr) (oe : Obj) (n : XN) (pn : List (Addr × Obj)), n ∈ ns → Zc (e n) none oe → (∃ vs, oe.data = .fields vs) → JSs (X.suite a ((a, oe) :: pn)) (fun _ _ _ => False) ss (ts a n) (ws a n)
open Classical in
noncomputable def suiteT (ns : List XN) (e : XN → Value) (ts : Addr → XN → TS) : Addr → Value → Option Addr → TS := fun a cls d => if h : d = none ∧ ∃ n, n ∈ ns ∧ cls = e n then ts a (choose h.2) else fun _ _ _ => False
theorem suiteT_at {K : PySem.W.Frag} {mg : Str → Option Value} {ns : List XN} {e : XN → Value} (o : XOk K mg ns e) {ts : Addr → XN → TS} {a : Addr} {n : XN} (hn : n ∈ ns) : suiteT ns e ts a (e n) none = ts a n := by
  have h : (none : Option Addr) = none ∧ ∃ m, m ∈ ns ∧ e n = e m := ⟨rfl, n, hn, rfl⟩
  unfold suiteT
  rw [dif_pos h]
  have q := Classical.choose_spec h.2
  rw [← o.inj hn q.1 q.2]
theorem JSuite.suite {X : Cx} {ns : List XN} {e : XN → Value} {ss : List Stmt} {ts : Addr → XN → TS} {ws : Addr → XN → WS} (j : JSuite X ns e ss ts ws) : HdSuite X ss (suiteT ns e ts) := by
  intro a oe cls d pn hz hf
  by_cases h : d = none ∧ ∃ n, n ∈ ns ∧ cls = e n
  · unfold suiteT
    rw [dif_pos h]
    have q := Classical.choose_spec h.2
    obtain ⟨rfl, _⟩ := h
    exact (j a oe _ pn q.1 (by rw [← q.2]; exact hz) hf).pe
  · unfold suiteT
    rw [dif_neg h]
    exact ⟨fun _ _ _ _ _ _ z => z.elim⟩
/-- the clauses: their terms and readings -/
inductive JHdl (X : Cx) (ns : List XN) (e : XN → Value) : List ExceptHandler → List HdT → List HdD → Prop where
  | nil : JHdl X ns e [] [] []
  | bare {x : Str} {m : XN} {ts : Addr → XN → TS} {ws : Addr → XN → WS} {b₀ : Stmt} {ss : List Stmt} {np ps : Pos} {hs : List ExceptHandler} {l : List HdT} {lw : List HdD} (hm : m ∈ ns) (hc : Names X x (e m)) (su : JSuite X ns e (b₀ :: ss) ts ws) (r : JHdl X ns e hs l lw) :
      JHdl X ns e (.ExceptHandler (some (.Name x np)) none (b₀ :: ss) ps :: hs) ((e m, none, suiteT ns e ts) :: l) ((m, none, ws) :: lw)
  | named {x n : Str} {m : XN} {i : Nat} {ts : Addr → XN → TS} {ws : Addr → XN → WS} {b₀ : Stmt} {ss : List Stmt} {np ps : Pos} {hs : List ExceptHandler} {l : List HdT} {lw : List HdD} (hm : m ∈ ns) (hc : Names X x (e m)) (hi : X.N[i]? = some n) (hl : X.env.kindOf n = some .local)
      (su : JSuite X ns e (b₀ :: ss) ts ws) (r : JHdl X ns e hs l lw) : JHdl X ns e (.ExceptHandler (some (.Name x np)) (some n) (b₀ :: ss) ps :: hs) ((e m, some i, suiteT ns e ts) :: l) ((m, some i, ws) :: lw)
theorem JHdl.hdl {X : Cx} {ns : List XN} {e : XN → Value} {hs : List ExceptHandler} {l : List HdT} {lw : List HdD} (j : JHdl X ns e hs l lw) : Hdl X hs l := by
  induction j with
  | nil => exact .nil
  | bare hm hc su r ih => exact .bare hc su.suite ih
  | named hm hc hi hl su r ih => exact .named hc hi hl su.suite ih
theorem JHdl.abs {X : Cx} {ns : List XN} {e : XN → Value} {hs : List ExceptHandler} {l : List HdT} {lw : List HdD} (j : JHdl X ns e hs l lw) (o : XOk X.K X.mg ns e) {E : XK} {ι : Ad} {H : Hp} {S : Sto} {DA : AE} {XX : XKD} {De : Ends} (r : RelS X.K ι S H) (ls : LkE X.K ι H DA.rt De.rt) (lx : LkX X.K ι H XX E)
    {n : XN} (hn : n ∈ ns) (h : tryD e DA X.N.length XX S n lw) {σ : L2.St} (hσ : σ.length = X.N.length) : wHdl X.K (fun c d _ H => E c d H) De l (e n) none σ H := by
  have no : ∀ {Q : L2.St → Hp → Prop}, LkN X.K ι H (fun _ _ => False) Q := fun {Q} _ _ _ _ _ _ _ _ z => z.elim
  induction j with
  | nil => exact lx ι (e n) none none S H Ext.refl r True.intro h
  | @bare x m ts ws b₀ ss np ps hs l lw hm hc su rr ih =>
    refine ⟨n.sub m, o.mat n hn m hm, fun b a na => ?_, fun b => ?_⟩
    · have h : (if n.sub m = true then _ else _) := h
      rw [if_pos b] at h
      rw [show (e m, (none : Option Nat), suiteT ns e ts).2.2 a (e n) none = ts a n from suiteT_at o hn]
      -- an exception of this class, to read the suite with
      refine (su a ⟨e n, none, .fields #[], #[]⟩ n [] hn ⟨rfl, rfl⟩ ⟨_, rfl⟩).ab ι _ H _ S _ X0 _ r ?_ (h a) ⟨no, ls, no, no⟩ LkX.none
      refine ⟨by show (List.replicate X.N.length none).length = σ.length; rw [List.length_replicate, hσ], fun i d hd => ?_⟩
      have hd : (List.replicate X.N.length (none : Option D))[i]? = some (some d) := hd
      rw [List.getElem?_replicate] at hd
      split at hd <;> cases hd
    · have h : (if n.sub m = true then _ else _) := h
      rw [if_neg (by rw [b]; exact Bool.false_ne_true)] at h
      exact ih h
  | @named x nm m i ts ws b₀ ss np ps hs l lw hm hc hi hl su rr ih =>
    refine ⟨n.sub m, o.mat n hn m hm, fun b a na => ?_, fun b => ?_⟩
    · have h : (if n.sub m = true then _ else _) := h
      rw [if_pos b] at h
      rw [show (e m, some i, suiteT ns e ts).2.2 a (e n) none = ts a n from suiteT_at o hn]
      refine (su a ⟨e n, none, .fields #[], #[]⟩ n [] hn ⟨rfl, rfl⟩ ⟨_, rfl⟩).ab ι _ H _ S _ X0 _ r ?_ (h a) ⟨no, ls, no, no⟩ LkX.none
      refine ⟨by show ((List.replicate X.N.length none).set i _).length = (σ.set i _).length; rw [List.length_set, List.length_set, List.length_replicate, hσ], fun k d hd => ?_⟩
      have hd : ((List.replicate X.N.length (none : Option D)).set i (some (.exc a)))[k]? = some (some d) := hd
      show ∃ v, (σ.set i (some (V.ref a)))[k]? = some (some v) ∧ _
      by_cases q : i = k
      · subst q
        have lt : i < σ.length := by
          have := (List.getElem?_eq_some_iff.mp hd).1
          rw [List.length_set, List.length_replicate] at this
          omega
        rw [List.getElem?_set_self (by rw [List.length_replicate, ← hσ]; exact lt)] at hd
        cases hd
        exact ⟨.ref a, List.getElem?_set_self lt, by unfold Rep; rfl⟩
      · rw [List.getElem?_set_ne q, List.getElem?_replicate] at hd
        split at hd <;> cases hd
    · have h : (if n.sub m = true then _ else _) := h
      rw [if_neg (by rw [b]; exact Bool.false_ne_true)] at h
      exact ih h
section
variable {X : Cx} {E : XK} {body : List Stmt} {h₀ : ExceptHandler} {hs : List ExceptHandler} {pos : Pos}
theorem js_try {ns : List XN} {e : XN → Value} {N : Nat} {l : List HdT} {lw : List HdD} {tb : XK → TS} {wb : WS} (o : XOk X.K X.mg ns e) (nd : X.N.Nodup) (tk : Takes X (fun c d _ H => E c d H))
    (hb : ∀ (E' : XK) (pn : List (Addr × Obj)) (xe : Value → Shared → Prop), Passes (L2.CX X.prog X.w) (X.tr pn xe) E' → JSs (X.tr pn xe) E' body (tb E') wb) (hh : JHdl X ns e (h₀ :: hs) l lw)
    (st : X.stack = X.env :: X.outer := by rfl) (fr : X.env.frame = some X.env.locals := by rfl) (hN : X.N.length = N := by rfl) :
    JS X E (.Try body (h₀ :: hs) [] [] pos) (fun D σ H => tb (fun c d H' => ∀ σ', σ'.length = X.N.length → wHdl X.K (fun c d _ H => E c d H) D l c d σ' H') D σ H) (wTry ns e N wb lw) := by
  subst hN
  refine ⟨ps_tryA (tb := fun W => tb (fun c d H' => ∀ σ', σ'.length = X.N.length → W c d σ' H')) st fr nd tk (fun W pn xe tk' _ => ?_) hh.hdl, ?_⟩
  · refine (hb _ pn xe fun pins σ H s u s' I c => tk' u s' (XE.of_call I (fun cls d H' h => h σ I.len) c)).pe
  · intro ι σ H σD S DA XX De r s h ls lx
    refine (hb _ [] (fun _ _ => True) (fun _ _ _ _ _ _ _ _ => True.intro)).ab ι σ H σD S DA _ De r s h ls ?_
    intro ι' c fo od S' H' ex r' xr hx σ' hσ'
    obtain ⟨rfl, n, hn, rfl, ht⟩ := hx
    cases od with
    | some _ => exact xr.elim
    | none => exact hh.abs o r' (ls.rt.ext ex) (lx.ext ex) hn ht hσ'
end
end AW
/-! AW17: isinstance of an exception that a suite holds. -/
namespace AW
open PySem PySem.Spec PyProof.Rows L2

/-- a class's address -/
def adr : Value → Addr
  | .ref a => a
  | _ => 0
/-- isinstance of slot i, the exception at a -/
def wExIs (i : Nat) (a : Addr) (b : Bool) : WE := fun σ S Q _ => σ[i]? = some (some (.exc a)) ∧ Q (.bl b) S
theorem bt_VE : bootBuiltins "ValueError" = some (.type "ValueError") := by decide +kernel
def rIsE2 (K : PySem.W.Frag) (D a : Addr) : List V → Hp → VK → Prop := fun xs H Q => ∃ (tp : Addr) (cs : List V) (us : List Value) (b : Bool), xs = [.ref a, .ref tp] ∧ H tp = some (.tup cs) ∧ Paired ClsV cs us ∧ PySem.W.kitAny K (.ref D) us = some b ∧ Q (.bl b) H
section
variable {X : Cx} {a : Addr} {oe : Obj} {pn : List (Addr × Obj)}
theorem inst_of {s : Shared} {pins : List (Addr × Obj)} {σ : L2.St} {H : Hp} {D : Addr} (hz : Zc (.ref D) none oe) (hf : ∃ vs, oe.data = .fields vs) (I : Inv (X.suite a ((a, oe) :: pn)) pins σ H s) : PySem.W.InstAt s.heap a oe D none := by
  obtain ⟨at_, _⟩ := I.pin (a, oe) (List.mem_append.mpr (.inl (.head _)))
  obtain ⟨vs, hv⟩ := hf
  obtain ⟨c, d, dt, sl⟩ := oe
  obtain ⟨e1, e2⟩ := hz
  dsimp only at e1 e2 hv
  subst e1 e2 hv
  exact ⟨at_, rfl, rfl, trivial⟩
theorem call_isE2 {D : Addr} (C : L2.ExcC X.K D) (hz : Zc (.ref D) none oe) (hf : ∃ vs, oe.data = .fields vs) : CallR (X.suite a ((a, oe) :: pn)) (.builtin "isinstance") (rIsE2 X.K D a) := by
  intro pins s σ H xs us Q I r h
  obtain ⟨tp, cs, ws, b, rfl, hT, k, e, q⟩ := h
  obtain ⟨u1, u2, rfl, r1, r2⟩ := vals2 r
  cases (show u1 = Value.ref a from r1)
  cases (show u2 = Value.ref tp from r2)
  obtain ⟨_, its, rv, o, g1, g2, n, g3⟩ := (show ObjOk _ _ H s.heap tp (.tup cs) from I.hok tp _ hT)
  have e3 := ClsV.all k rv
  subst e3
  obtain ⟨oc, od, dt, sl⟩ := o
  dsimp only at g2 g3
  subst g2 g3
  exact PySem.W.kia_tup (PySem.W.handS_kitx_exc C.hg C.hk C.hs C.hd C.ha C.hn C.ht C.hm) I.kIn (inst_of hz hf I) g1 e (fun z => nomatch z) fun tk => ⟨.bl b, H, I.kept (t' := tk) fun _ _ z => z, rfl, q⟩
variable {E : XK} {ns : List XN} {e : XN → Value} {n m m2 : XN} {x : Str} {p p1 p2 p3 p4 pos : Pos} {j : Nat}
theorem je_exIs (o : XOk X.K X.mg ns e) (hn : n ∈ ns) (hz : Zc (e n) none oe) (hf : ∃ vs, oe.data = .fields vs) (i : Nat) (m : XN) (hm : m ∈ ns) (mi : X.mg "isinstance" = none) (hN : X.N[i]? = some x := by rfl) (hg : Gl X "isinstance" := by rfl) (hgm : Gl X m.name := by rfl)
    (hv : Vis X.env.scope x := by first | exact Or.inl rfl | exact Or.inr (Or.inl rfl) | exact Or.inr (Or.inr rfl)) (hd : (x == ("__debug__" : Str)) = false := by decide) (hcd : (x == ("__classdict__" : Str)) = false := by decide)
    (h1 : starEach [.Name x p1, .Name m.name p2] X.env = (false, eval (.Name x p1) X.env) :: starEach [.Name m.name p2] X.env := by rfl) (h2 : starEach [.Name m.name p2] X.env = (false, eval (.Name m.name p2) X.env) :: starEach [] X.env := by rfl)
    (hpl : (backTo pos (starEach [.Name m.name p2] X.env)).any (·.1) = false := by rfl) :
    JE (X.suite a ((a, oe) :: pn)) E (.Call (.Name "isinstance" p) [.Name x p1, .Name m.name p2] [] pos) (tCB (rIsE X.K (adr (e n)) a) (tCons (tVar i) (tCons (tC (.ref (adr (e m)))) tNil))) (wExIs i a (n.sub m)) := by
  obtain ⟨D, eD, _, _, _, _, _, C⟩ := o.cls n hn
  obtain ⟨M, eM, gM, _⟩ := o.cls m hm
  rw [eD] at hz
  rw [show adr (e m) = M by rw [eM]; rfl]
  rw [show adr (e n) = D by rw [eD]; rfl]
  refine ⟨pe_callB (X := X.suite a ((a, oe) :: pn)) (call_isE C hz hf) hg mi bt_isinstance (pa_cons (X := X.suite a ((a, oe) :: pn)) (pe_var (i := i) hN hv hd hcd) (pa_cons (X := X.suite a ((a, oe) :: pn)) (pe_glob (v := .ref M) hgm gM rfl (by cases m <;> decide)) pa_nil h2) h1) (he := h1) (hpl := hpl), ?_⟩
  intro ι σ H σD S Q XX Qh r s h l lx
  obtain ⟨ha, hq⟩ := h
  obtain ⟨v, hv, rv⟩ := s.2 i _ ha
  unfold Rep at rv
  subst rv
  exact ⟨.ref a, hv, .ref M, .ref M, n.sub m, rfl, fun u hu => hu, by rw [← eD, ← eM]; exact o.isi n hn m hm, l ι _ S _ H Ext.refl r (rep_bl.mpr rfl) hq⟩
theorem je_exVE (o : XOk X.K X.mg ns e) (hn : n ∈ ns) (hz : Zc (e n) none oe) (hf : ∃ vs, oe.data = .fields vs) (i : Nat) (mi : X.mg "isinstance" = none) (mv : X.mg "ValueError" = none) (hN : X.N[i]? = some x := by rfl) (hg : Gl X "isinstance" := by rfl) (hgm : Gl X "ValueError" := by rfl)
    (hv : Vis X.env.scope x := by first | exact Or.inl rfl | exact Or.inr (Or.inl rfl) | exact Or.inr (Or.inr rfl)) (hd : (x == ("__debug__" : Str)) = false := by decide) (hcd : (x == ("__classdict__" : Str)) = false := by decide)
    (h1 : starEach [.Name x p1, .Name "ValueError" p2] X.env = (false, eval (.Name x p1) X.env) :: starEach [.Name "ValueError" p2] X.env := by rfl) (h2 : starEach [.Name "ValueError" p2] X.env = (false, eval (.Name "ValueError" p2) X.env) :: starEach [] X.env := by rfl)
    (hpl : (backTo pos (starEach [.Name "ValueError" p2] X.env)).any (·.1) = false := by rfl) :
    JE (X.suite a ((a, oe) :: pn)) E (.Call (.Name "isinstance" p) [.Name x p1, .Name "ValueError" p2] [] pos) (tCB (rIsE X.K (adr (e n)) a) (tCons (tVar i) (tCons (tC (.ty "ValueError")) tNil))) (wExIs i a true) := by
  obtain ⟨D, eD, _, _, _, _, _, C⟩ := o.cls n hn
  rw [eD] at hz
  rw [show adr (e n) = D by rw [eD]; rfl]
  refine ⟨pe_callB (X := X.suite a ((a, oe) :: pn)) (call_isE C hz hf) hg mi bt_isinstance (pa_cons (X := X.suite a ((a, oe) :: pn)) (pe_var (i := i) hN hv hd hcd) (pa_cons (X := X.suite a ((a, oe) :: pn)) (pe_bltn (v := .ty "ValueError") hgm mv bt_VE rfl) pa_nil h2) h1) (he := h1) (hpl := hpl), ?_⟩
  intro ι σ H σD S Q XX Qh r s h l lx
  obtain ⟨ha, hq⟩ := h
  obtain ⟨v, hv, rv⟩ := s.2 i _ ha
  unfold Rep at rv
  subst rv
  exact ⟨.ref a, hv, .ty "ValueError", .type "ValueError", true, rfl, fun u hu => hu, by rw [← eD]; exact o.isv n hn, l ι _ S _ H Ext.refl r (rep_bl.mpr rfl) hq⟩
theorem je_exIs2 (o : XOk X.K X.mg ns e) (hn : n ∈ ns) (hz : Zc (e n) none oe) (hf : ∃ vs, oe.data = .fields vs) (i : Nat) (m m2 : XN) (hm : m ∈ ns) (hm2 : m2 ∈ ns) (mi : X.mg "isinstance" = none) (hN : X.N[i]? = some x := by rfl) (hg : Gl X "isinstance" := by rfl) (hgm : Gl X m.name := by rfl) (hgm2 : Gl X m2.name := by rfl)
    (hv : Vis X.env.scope x := by first | exact Or.inl rfl | exact Or.inr (Or.inl rfl) | exact Or.inr (Or.inr rfl)) (hd : (x == ("__debug__" : Str)) = false := by decide) (hcd : (x == ("__classdict__" : Str)) = false := by decide)
    (h1 : starEach [.Name x p1, .Tuple [.Name m.name p2, .Name m2.name p3] j p4] X.env = (false, eval (.Name x p1) X.env) :: starEach [.Tuple [.Name m.name p2, .Name m2.name p3] j p4] X.env := by rfl)
    (h2 : starEach [.Tuple [.Name m.name p2, .Name m2.name p3] j p4] X.env = (false, eval (.Tuple [.Name m.name p2, .Name m2.name p3] j p4) X.env) :: starEach [] X.env := by rfl)
    (hpl : (backTo pos (starEach [.Tuple [.Name m.name p2, .Name m2.name p3] j p4] X.env)).any (·.1) = false := by rfl)
    (k1 : starEach [.Name m.name p2, .Name m2.name p3] X.env = (false, eval (.Name m.name p2) X.env) :: starEach [.Name m2.name p3] X.env := by rfl) (k2 : starEach [.Name m2.name p3] X.env = (false, eval (.Name m2.name p3) X.env) :: starEach [] X.env := by rfl) :
    JE (X.suite a ((a, oe) :: pn)) E (.Call (.Name "isinstance" p) [.Name x p1, .Tuple [.Name m.name p2, .Name m2.name p3] j p4] [] pos) (tCB (rIsE2 X.K (adr (e n)) a) (tCons (tVar i) (tCons (tTup (tCons (tC (.ref (adr (e m)))) (tCons (tC (.ref (adr (e m2)))) tNil))) tNil))) (wExIs i a (n.sub m || n.sub m2)) := by
  obtain ⟨D, eD, _, _, _, _, _, C⟩ := o.cls n hn
  obtain ⟨M, eM, gM, _⟩ := o.cls m hm
  obtain ⟨M2, eM2, gM2, _⟩ := o.cls m2 hm2
  rw [eD] at hz
  rw [show adr (e m) = M by rw [eM]; rfl, show adr (e m2) = M2 by rw [eM2]; rfl]
  rw [show adr (e n) = D by rw [eD]; rfl]
  have tup : PE (X.suite a ((a, oe) :: pn)) (.Tuple [.Name m.name p2, .Name m2.name p3] j p4) _ := pe_tup (pa_cons (X := X.suite a ((a, oe) :: pn)) (pe_glob (v := .ref M) hgm gM rfl (by cases m <;> decide)) (pa_cons (X := X.suite a ((a, oe) :: pn)) (pe_glob (v := .ref M2) hgm2 gM2 rfl (by cases m2 <;> decide)) pa_nil k2) k1)
  refine ⟨pe_callB (X := X.suite a ((a, oe) :: pn)) (call_isE2 C hz hf) hg mi bt_isinstance (pa_cons (X := X.suite a ((a, oe) :: pn)) (pe_var (i := i) hN hv hd hcd) (pa_cons (X := X.suite a ((a, oe) :: pn)) tup pa_nil h2) h1) (he := h1) (hpl := hpl), ?_⟩
  intro ι σ H σD S Q XX Qh r s h l lx
  obtain ⟨ha, hq⟩ := h
  obtain ⟨v, hv, rv⟩ := s.2 i _ ha
  unfold Rep at rv
  subst rv
  have rp : RepL X.K ι H [.exc M, .exc M2] [.ref M, .ref M2] := RepL.cons (by unfold Rep; rfl) (RepL.cons (by unfold Rep; rfl) RepL.nil)
  have l2 : LkE X.K ι H (fun _ S' => Q (.bl (n.sub m || n.sub m2)) S') (fun _ H' => Qh (.bl (n.sub m || n.sub m2)) H') := fun ι' d S' v H' e' r' _ q => l ι' _ S' _ H' e' r' (rep_bl.mpr rfl) q
  have any_ : PySem.W.kitAny X.K (.ref D) [.ref M, .ref M2] = some (n.sub m || n.sub m2) := by
    have a1 := o.isi n hn m hm
    have a2 := o.isi n hn m2 hm2
    rw [eD, eM] at a1
    rw [eD, eM2] at a2
    unfold PySem.W.kitAny
    rw [a1]
    cases n.sub m with
    | true => rfl
    | false =>
      unfold PySem.W.kitAny
      rw [a2]
      cases n.sub m2 <;> rfl
  refine ⟨.ref a, hv, by show 2 ≤ sizeLine; rw [sizeLine_eq]; decide, fun t ht => ?_⟩
  refine ⟨t, [.ref M, .ref M2], [.ref M, .ref M2], n.sub m || n.sub m2, rfl, upd_same .., .cons (.own M) (.cons (.own M2) .nil), any_, ?_⟩
  exact l2.tup (ds := [.exc M, .exc M2]) r rp hq ht
end
end AW
/-! AW18: x is True, range downwards, list(range(n)). -/
namespace AW
open PySem PySem.Spec PyProof.Rows L2

/-! ### is True, is False -/
def tIsB (f : Bool → Bool) (ta : TE) : TE := fun σ H Q => ta σ H fun x H1 => ∃ c, x = .bl c ∧ Q (.bl (f c)) H1
def wIsB (f : Bool → Bool) (wa : WE) : WE := fun σ S Q X => wa σ S (fun x S1 => match x with
  | .bl c => Q (.bl (f c)) S1
  | _ => False) X
section
variable {X : Cx} {E : XK} {pos pos' : Pos} {a : Expr} {ta : TA} {te : TE} {we : WE} {b : Bool} {j : Nat}
theorem pc_isB (ha : PE X a te) : PC X .Is a (.Constant (.bool b) j pos') (tIsB (fun c => c == b) te) := by
  refine ⟨fun pins s σ H Q I h => ?_⟩
  refine thn (ha.run pins s σ H _ I h) fun v s1 ⟨x, H1, I1, r1, q1⟩ => ?_
  obtain ⟨c, rfl, q⟩ := q1
  cases r1
  exact Constant_bool (is_bool ⟨.bl _, H1, I1, rfl, q⟩)
theorem pc_notB (ha : PE X a te) : PC X .IsNot a (.Constant (.bool b) j pos') (tIsB (fun c => c != b) te) := by
  refine ⟨fun pins s σ H Q I h => ?_⟩
  refine thn (ha.run pins s σ H _ I h) fun v s1 ⟨x, H1, I1, r1, q1⟩ => ?_
  obtain ⟨c, rfl, q⟩ := q1
  cases r1
  exact Constant_bool (isnot_bool ⟨.bl _, H1, I1, rfl, q⟩)
theorem abs_isB {K : PySem.W.Frag} {f : Bool → Bool} (ha : AbsE K E te we) : AbsE K E (tIsB f te) (wIsB f we) := by
  intro ι σ H σD S Q XX Qh r s h l lx
  refine ha ι σ H σD S _ XX _ r s h ?_ lx
  intro ι1 d1 S1 v1 H1 e1 r1 p1 h1
  cases d1 <;> try exact h1.elim
  rename_i c
  exact ⟨c, rep_bl.mp p1, l ι1 _ S1 _ H1 e1 r1 (rep_bl.mpr rfl) h1⟩
theorem je_isB (ha : JE X E a te we) : JE X E (.Compare a [.Is] [.Constant (.bool b) j pos'] pos) (tIsB (fun c => c == b) te) (wIsB (fun c => c == b) we) := ⟨pe_cmp (pc_isB ha.pe) rfl, abs_isB ha.ab⟩
theorem je_notB (ha : JE X E a te we) : JE X E (.Compare a [.IsNot] [.Constant (.bool b) j pos'] pos) (tIsB (fun c => c != b) te) (wIsB (fun c => c != b) we) := ⟨pe_cmp (pc_notB ha.pe) rfl, abs_isB ha.ab⟩
theorem jt_isB (ha : JE X E a te we) : JT X E (.Compare a [.Is] [.Constant (.bool b) j pos'] pos) (L2.tB (tIsB (fun c => c == b) te)) (wTest (wIsB (fun c => c == b) we)) := ⟨pt_cmp (pc_isB ha.pe) rfl, abs_b (je_isB (pos := pos) (j := j) (pos' := pos') ha).ab⟩
theorem jt_notB (ha : JE X E a te we) : JT X E (.Compare a [.IsNot] [.Constant (.bool b) j pos'] pos) (L2.tB (tIsB (fun c => c != b) te)) (wTest (wIsB (fun c => c != b) we)) := ⟨pt_cmp (pc_notB ha.pe) rfl, abs_b (je_notB (pos := pos) (j := j) (pos' := pos') ha).ab⟩
end
def isbQ (f : Bool → Bool) (x : D) (S : Sto) (Q : VKD) : Prop := match x with
  | .bl c => Q (.bl (f c)) S
  | _ => False
theorem ax_xisb {f : Bool → Bool} {a : WE} {σ : ASt} {S : Sto} {Q : VKD} {X : XKD} : wIsB f a σ S Q X = (a σ S (fun x S1 => isbQ f x S1 (Lz Q .mk)) X) := id rfl
theorem ax_isb {f : Bool → Bool} {c : Bool} {S : Sto} {Q : VKD} : isbQ f (.bl c) S Q = Q (.bl (f c)) S := id rfl

/-! ### range downwards -/
def downD (hi : Int) (n : Nat) : List D := (List.range n).map fun k => .int (hi - (k : Nat))
theorem downD_len (hi : Int) (n : Nat) : (downD hi n).length = n := by unfold downD; simp
theorem downD_get {hi : Int} {n i : Nat} {d : D} (h : (downD hi n)[i]? = some d) : i < n ∧ d = .int (hi - (i : Nat)) := by
  have hi' : i < n := by rw [← downD_len hi n]; exact (List.getElem?_eq_some_iff.mp h).1
  unfold downD at h
  rw [List.getElem?_map, List.getElem?_range hi'] at h
  exact ⟨hi', (Option.some.inj h).symm⟩
theorem simDown {K ι H} {hi : Int} {n : Nat} : SimIt K ι H (Itc hi (-1) n) (.seq (downD hi n)) := by
  intro i ι' S' H' e r
  refine ⟨fun d hd => ?_, fun hd => ?_⟩
  · obtain ⟨hlt, ed⟩ := downD_get (Option.some.inj hd)
    subst ed
    refine ⟨hlt, fun y H'' hy => ?_⟩
    obtain ⟨e1, e2⟩ := hy
    subst e1
    exact ⟨Ext.refl, r, rep_int.mpr (by rw [e2, show hi + (i : Nat) * -1 = hi - (i : Nat) by omega])⟩
  · have := List.getElem?_eq_none_iff.mp (Option.some.inj hd : (downD hi n)[i]? = none)
    rw [downD_len] at this
    exact this
def r3Q (ds : List D) (S : Sto) (Q : Src → Sto → Prop) : Prop := match ds with
  | [.int i, .int j, .int c] => (c = -1 ∧ -(2 ^ 62) ≤ i ∧ i < 2 ^ 62 ∧ -(2 ^ 62) ≤ j ∧ j < 2 ^ 62) ∧ Q (.seq (downD i (i - j).toNat)) S
  | _ => False
def wiRange3 (w : WA) : WI := fun σ S Q X => w σ S (fun ds S1 => r3Q ds S1 Q) X
section
variable {X : Cx} {E : XK} {tg : Expr} {pos p : Pos}
theorem ji_range3 {a b c : Expr} {ta : TA} {wa : WA} (hm : X.mg "range" = none) (ha : JA X E [a, b, c] ta wa) (hg : Gl X "range" := by rfl) (hs : starEach [a, b, c] X.env = (false, eval a X.env) :: starEach [b, c] X.env := by rfl)
    (hpl : (backTo pos (starEach [b, c] X.env)).any (·.1) = false := by rfl) : JI X E tg (.Call (.Name "range" p) [a, b, c] [] pos) (iRng3 ta) (wiRange3 wa) := by
  refine ⟨pi_range3 hg hm ha.pe hs hpl, ?_⟩
  intro ι σ H σD S Q XX R r s h l lx
  refine ha.ab ι σ H σD S _ XX _ r s h ?_ lx
  intro ι1 ds S1 vs H1 e1 r1 p1 h1
  have h1 : r3Q ds S1 Q := h1
  unfold r3Q at h1
  split at h1
  · rename_i i j c
    obtain ⟨v, u, w, ev, q1, q2, q3⟩ := repL3 p1
    subst ev
    rw [rep_int] at q1 q2 q3
    subst q1 q2 q3
    obtain ⟨⟨rfl, a1, a2, a3, a4⟩, hq⟩ := h1
    exact ⟨_, _, -1, _, rfl, RgC.neg a1 a2 a3 a4, l ι1 _ S1 _ H1 e1 r1 simDown hq⟩
  · exact h1.elim
end
theorem ax_xr3 {w : WA} {σ : ASt} {S : Sto} {Q : Src → Sto → Prop} {X : XKD} : wiRange3 w σ S Q X = (w σ S (fun ds S1 => r3Q ds S1 (Lz Q .mk)) X) := id rfl
theorem ax_xr3q {i j c : Int} {S : Sto} {Q : Src → Sto → Prop} : r3Q [.int i, .int j, .int c] S Q = ((c = -1 ∧ -(2 ^ 62) ≤ i ∧ i < 2 ^ 62 ∧ -(2 ^ 62) ≤ j ∧ j < 2 ^ 62) ∧ Q (.seq (downD i (i - j).toNat)) S) := id rfl
theorem down_cut {wg : WG} {b : WS} {D0 : AE} {σ : ASt} {S : Sto} {X : XKD} (hi : Int) (n : Nat) (P : Nat → ASt → Sto → Prop) (h0 : P 0 σ S)
    (hs : ∀ i σ S (R : ASt → Sto → Prop), i < n → P i σ S → (∀ σ' S', P (i + 1) σ' S' → R σ' S') → wg (.int (hi - (i : Nat))) σ S (Lz (fun σ1 S1 => b { nx := R, rt := D0.rt, bk := D0.nx, ct := R } σ1 S1 X) .mk) X)
    (hd : ∀ σ S, P n σ S → D0.nx σ S) : forL wg b D0 X (downD hi n) σ S :=
  forl_cut (downD hi n) P h0 (fun i d σ S R h hp hR => by
    obtain ⟨hlt, rfl⟩ := downD_get h
    exact hs i σ S R hlt hp hR) (fun σ S h => hd σ S (by rw [downD_len] at h; exact h))
end AW
/-! AW19: x[::-1] of lists and tuples. -/
namespace AW
open PySem PySem.Spec PyProof.Rows L2

section
variable {prog : Program} {w : World} {A : Around} {E : Value → Shared → Prop} {s : Shared}
theorem places_rev (n : Nat) : Builtin.Slice.slicePlaces ((n : Int) - 1) (-1) (-1) = n := by
  unfold Builtin.Slice.slicePlaces
  rw [if_neg (show ¬((-1 : Int) > 0) by decide)]
  split
  · rw [show -(-1 : Int) = 1 by decide, Int.ediv_one]; omega
  · omega
theorem sliceApplied_rev {sl : Addr} {u : Tok} {n : Nat} {Q : Int × Int × Nat → Shared → Prop} (hs : s.heap.IsSliceOf sl .none .none (.int (-1) u)) (h : Q ((n : Int) - 1, -1, n) s) :
    wpAny (model prog w) A (Builtin.Slice.sliceApplied (.ref sl) (pure (n : Int))) Q E s := by
  obtain ⟨os, hos, hcs, hds⟩ := id hs
  unfold Builtin.Slice.sliceApplied Builtin.Slice.sliceFields
  refine wpAny_bind (wpAny_bind (wpAny_field hos hds (x := .none) rfl (wpAny_bind (wpAny_field hos hds (x := .none) rfl (wpAny_bind (wpAny_field hos hds (x := .int (-1) u) rfl (wpAny_pure ?_)))))))
  refine wpAny_bind (HT.slicePart_ (.int (-1) u) ?_)
  show wpAny _ _ (if ((-1 : Int) == 0) = true then _ else _) _ _ s
  rw [if_neg (by decide)]
  refine wpAny_bind (HT.slicePart_ .none (wpAny_bind (HT.slicePart_ .none (wpAny_bind (wpAny_pure ?_)))))
  show wpAny _ _ (pure ((n : Int) - 1, (-1 : Int), Builtin.Slice.slicePlaces ((n : Int) - 1) (-1) (-1))) _ _ s
  rw [places_rev]
  exact wpAny_pure h
theorem filterMap_all {α β : Type} {f : α → Option β} {g : α → β} : ∀ {l : List α}, (∀ k ∈ l, f k = some (g k)) → l.filterMap f = l.map g
  | [], _ => rfl
  | a :: l, h => by
    rw [List.filterMap_cons_some (h a (.head _)), List.map_cons, filterMap_all fun k hk => h k (.tail _ hk)]
theorem pick_rev (xs : Array Value) : ((List.range xs.size).filterMap fun (k : Nat) => xs[((xs.size : Int) - 1 + (k : Int) * (-1)).toNat]?).toArray = xs.toList.reverse.toArray := by
  congr 1
  rw [filterMap_all (g := fun k => xs.toList.reverse[k]?.getD .none) fun k hk => ?_]
  · apply List.ext_getElem
    · simp
    · intro i h1 h2
      simp at h1 h2 ⊢
      rw [List.getElem?_eq_getElem (by simpa using h2)]
      simp
  · have hk := List.mem_range.mp hk
    have h1 : ((xs.size : Int) - 1 + (k : Int) * (-1)).toNat = xs.size - 1 - k := by omega
    show xs[((xs.size : Int) - 1 + (k : Int) * (-1)).toNat]? = _
    rw [h1, List.getElem?_reverse (by rw [Array.length_toList]; exact hk), Array.length_toList, Array.getElem?_toList, Array.getElem?_eq_getElem (by omega)]
    rfl
theorem getItem_tuple_rev {t sl : Addr} {u : Tok} {items : Array Value} {Q : Value → Shared → Prop} (ht : IsTup s.heap t items) (hs : s.heap.IsSliceOf sl .none .none (.int (-1) u))
    (h : Q (.ref s.heap.objs.size) { s with heap := s.heap.push { cls := .type "tuple", data := .seq items.toList.reverse.toArray } }) (hsz : items.size ≤ sizeLine) : wpAny (model prog w) A (getItem (.ref t) (.ref sl)) Q E s := by
  have fits : sizeOk (.seq items.toList.reverse.toArray) := by
    show items.toList.reverse.toArray.size ≤ sizeLine
    rw [List.size_toArray, List.length_reverse, Array.length_toList]
    exact hsz
  obtain ⟨os, hos, hcs, hds⟩ := id hs
  have hTs : s.TypeIs (.ref sl) "slice" := ⟨os, hos, hcs⟩
  unfold getItem
  try with_reducible refine wpAny_holding ?_
  first | refine wpAny_bind (wpAny_pure ?_) | skip
  refine wpAny_bind (wpAny_sequenceKey ht.typeIs (by decide) ?_)
  refine wpAny_bind (wpAny_callSpecial?_slot (name := Str.ofString "__getitem__") ht.typeIs PyProof.Rows.slot_tuple_getitem (wpAny_call_entry PyProof.Rows.slot_tuple_getitem ht.typeIs entry_tuple_getitem ?_ (args_tuple_getitem _ _)))
  show wpAny _ _ (Builtin.Tuple.tupleItemsOf (.ref t) >>= _) _ _ s
  refine wpAny_bind (tupleItemsOf_ ht (wpAny_bind (wpAny_typeOf hTs ?_)))
  rw [if_pos (by decide)]
  refine wpAny_bind (sliceApplied_rev hs ?_)
  have other : ¬((((items.size : Int) - 1) == 0 && (-1 : Int) == 1 && items.size == items.size) = true) := by simp
  show wpAny _ _ (if ((((items.size : Int) - 1) == 0 && (-1 : Int) == 1 && items.size == items.size) = true) then _ else _) _ _ s
  rw [if_neg other, pick_rev]
  first
    | exact wpAny_bind (m := Builtin.Tuple.tupleExact _) (wpAny_newObj_type (wpAny_pure ⟨_, rfl, wpAny_pure h⟩) fits)
    | exact wpAny_bind (m := Builtin.Tuple.tupleExact _) (wpAny_newObj_type (wpAny_bind (wpAny_pure (wpAny_pure ⟨_, rfl, wpAny_pure h⟩))) fits)
    | exact wpAny_bind (wpAny_bind (m := Builtin.Tuple.tupleExact _) (wpAny_newObj_type (wpAny_pure (wpAny_pure ⟨_, rfl, wpAny_pure h⟩)) fits))
    | exact wpAny_bind (wpAny_bind (m := Builtin.Tuple.tupleExact _) (wpAny_newObj_type (wpAny_pure ⟨_, rfl, wpAny_pure h⟩) fits))
end
/-- x[::-1] -/
def tRevA (K : PySem.W.Frag) (te : TE) : TE := fun σ H Q => te σ H fun x H1 => ∃ a xs, x = .ref a ∧
  ((SqL K H1 a xs ∧ ∀ p, H1 p = none → Q (.ref p) (upd H1 p (.lst xs.reverse))) ∨ (SqT K H1 a xs ∧ ∀ p, H1 p = none → Q (.ref p) (upd H1 p (.tup xs.reverse))))
section
variable {X : Cx} {e : Expr} {te : TE} {we : WE} {E : XK} {k : Nat} {p1 p2 p3 pos : Pos}
theorem pe_revA (he : PE X e te) : PE X (.Subscript e (.Slice none none (some (.UnaryOp .USub (.Constant (.int 1) k p1) p2)) p3) pos) (tRevA X.K te) := by
  refine ⟨fun pins s σ H Q I h => ?_⟩
  refine Subscript_ (thn (he.run pins s σ H _ I h) fun v s1 ⟨x, H1, I1, r1, a, xs, ex, q1⟩ => ?_)
  subst ex
  cases r1
  have minus : PO X (some (.UnaryOp .USub (.Constant (.int 1) k p1) p2)) (tPart (tUn (rU fun i => .int (-i)) (tC (.int 1)))) := po_some (pe_un un_neg pe_int)
  refine wpAny_Slice (thn (po_none.run pins s1 σ H1 (fun o H2 => o = none ∧ H2 = H1) I1 ⟨rfl, rfl⟩) fun vl s2 ⟨l, H2, I2, pl, el, e2⟩ => ?_)
  subst el e2
  refine thn (po_none.run pins s2 σ H2 (fun o H3 => o = none ∧ H3 = H2) I2 ⟨rfl, rfl⟩) fun vu s3 ⟨u, H3, I3, pu, eu, e3⟩ => ?_
  subst eu e3
  refine thn (minus.run pins s3 σ H3 (fun o H4 => o = some (-1) ∧ H4 = H3) I3 ⟨1, rfl, -1, rfl, rfl, rfl⟩) fun vs s4 ⟨o, H4, I4, ps, eo, e4⟩ => ?_
  subst eo e4
  have I5 : Inv X pins σ H4 { s4 with heap := s4.heap.push { cls := .type "slice", data := .fields #[vl, vu, vs] } } := I4.kept (t' := s4.toks) fun b ob q => Heap.get?_push_of_some _ q
  show wpAny (model X.prog X.w) X.A (subscriptTail e (.Slice none none (some (.UnaryOp .USub (.Constant (.int 1) k p1) p2)) p3) (.ref a) (.ref s4.heap.objs.size)) (EP X pins σ Q) X.xe { s4 with heap := s4.heap.push { cls := .type "slice", data := .fields #[vl, vu, vs] } }
  rcases q1 with ⟨hx, q⟩ | ⟨hx, q⟩
  · obtain ⟨its, r, ht, hz⟩ := I5.list hx
    have hlen := r.length
    refine tail_any (ops := [.ref a, .ref s4.heap.objs.size]) ht.isList.typeIs (PySem.slot_list_getitem.lookup) ?_ (by with_unfolding_all rfl)
    refine wpAny_getItem_list_slice ht.isList (Heap.IsSliceOf.new _ vl vu vs) pl pu ps (by decide) ?_ (by rw [List.size_toArray]; omega)
    rw [PySem.W.krv_pick]
    refine ⟨.ref _, _, I5.laid (t' := s4.toks) (o := .lst xs.reverse) (fun b ob q => Heap.get?_push_of_some _ q) (Nat.le_refl _) ?_, rfl, q _ (I5.hok.fresh (Nat.le_refl _))⟩
    exact ⟨by rw [List.length_reverse]; exact hz, _, 0, r.reverse, Heap.get?_push_size _ rfl⟩
  · obtain ⟨its, r, ht, hz⟩ := I5.tuple hx
    have hlen := r.length
    cases pl
    cases pu
    cases ps with
    | int _ tk =>
      refine tail_any (ops := [.ref a, .ref s4.heap.objs.size]) ht.typeIs (PyProof.Rows.slot_tuple_getitem.lookup) ?_ (by with_unfolding_all rfl)
      refine getItem_tuple_rev ht (Heap.IsSliceOf.new _ .none .none (.int (-1) tk)) ?_ (by rw [List.size_toArray]; omega)
      refine ⟨.ref _, _, I5.laid (t' := s4.toks) (o := .tup xs.reverse) (fun b ob q => Heap.get?_push_of_some _ q) (Nat.le_refl _) ?_, rfl, q _ (I5.hok.fresh (Nat.le_refl _))⟩
      exact ⟨by rw [List.length_reverse]; exact hz, its.reverse, r.reverse, IsTup.new _ _⟩
def fRev (x : D) (S : Sto) (Q : VKD) : Prop := match x with
  | .tup ds => Q (.tup ds.reverse) S
  | x => match itemsL S x with
    | some ds => Q (.fl ds.reverse) S
    | none => False
def wRev (we : WE) : WE := fun σ S Q X => we σ S (fun x S1 => fRev x S1 Q) X
theorem je_rev {K : PySem.W.Frag} (he : JE X E e te we) (hK : X.K = K := by rfl) : JE X E (.Subscript e (.Slice none none (some (.UnaryOp .USub (.Constant (.int 1) k p1) p2)) p3) pos) (tRevA K te) (wRev we) := by
  subst hK
  refine ⟨pe_revA he.pe, ?_⟩
  intro ι σ H σD S Q XX Qh r s h l lx
  refine he.ab ι σ H σD S _ XX _ r s h ?_ lx
  intro ι1 d1 S1 v1 H1 e1 r1 p1 h1
  have seq : ∀ {d : D}, Rep X.K ι1 H1 d v1 → (match itemsL S1 d with
      | some ds => Q (.fl ds.reverse) S1
      | none => False) → ∃ a xs, v1 = .ref a ∧ ((SqL X.K H1 a xs ∧ ∀ p, H1 p = none → Qh (.ref p) (upd H1 p (.lst xs.reverse))) ∨ (SqT X.K H1 a xs ∧ ∀ p, H1 p = none → Qh (.ref p) (upd H1 p (.tup xs.reverse)))) := fun {d} hd hq => by
    split at hq
    · rename_i ds e
      obtain ⟨a, xs, rfl, hs, hl⟩ := itemsL_rep r1 hd e
      exact ⟨a, xs, rfl, .inl ⟨hs, fun p hp => (l.ext e1).fl r1 (RepL.reverse hl) hq hp⟩⟩
    · exact hq.elim
  cases d1 with
  | tup ds =>
    obtain ⟨a, xs, rfl, hs, hl⟩ := rep_tup.mp p1
    exact ⟨a, xs, rfl, .inr ⟨hs, fun p hp => (l.ext e1).tup r1 (RepL.reverse hl) h1 hp⟩⟩
  | _ => exact seq p1 h1
end
theorem ax_xrev {a : WE} {σ : ASt} {S : Sto} {Q : VKD} {X : XKD} : wRev a σ S Q X = (a σ S (fun x S1 => fRev x S1 (Lz Q .mk)) X) := id rfl
theorem ax_rev_t {ds : List D} {S : Sto} {Q : VKD} : fRev (.tup ds) S Q = Q (.tup ds.reverse) S := id rfl
theorem ax_rev_f {ds : List D} {S : Sto} {Q : VKD} : fRev (.fl ds) S Q = Q (.fl ds.reverse) S := id rfl
end AW
/-! AW20: // of numbers of any size (Python divides large ones by a module of its own; the model wants room for its frames). -/
namespace AW
open PySem PySem.Spec PyProof.Rows L2

section
variable {X : Cx}
/-- what // by a large divisor wants of its place -/
structure BigOk (X : Cx) : Prop where
  see : X.base.NoSeer
  tree : X.prog.given.tree = none
  stk : X.stack = X.env :: X.outer
  gen : X.env.scope.isGenerator = false
  co : X.env.scope.isCoroutine = false
  dep : X.A.depth + 100 < recursionLimit
theorem BigOk.room (b : BigOk X) {pins : List (Addr × Obj)} {σ : L2.St} {H : Hp} {s : Shared} (I : Inv X pins σ H s) : PySem.PylongRoom (model X.prog X.w) X.A s := by
  have fr : X.A.frames = some (X.env :: X.outer) := I.ok.frames.trans (congrArg some b.stk)
  exact PySem.PylongRoom.of I.nolimit b.dep (PySem.SeerAt.of (b.see.keeps I.bk) b.tree fr b.gen b.co I.ok.blt I.ok.glob)
theorem op_divX (b : BigOk X) : OpR X (binaryOp .FloorDiv) (rI (fun _ j => j ≠ 0) fun i j => .int (i.fdiv j)) := by
  rintro pins s σ H x y v u Q I rx ry ⟨i, j, rfl, rfl, hc, q⟩
  obtain ⟨t, rfl⟩ := rx
  obtain ⟨t2, rfl⟩ := ry
  exact floordiv_int hc ⟨.int (i.fdiv j), H, I.tok _, ⟨_, rfl⟩, q⟩ (.inr (b.room I))
end
def fDivX : F2 := fun x y S Q _ => match x, y with
  | .int i, .int j => j ≠ 0 ∧ Q (.int (i.fdiv j)) S
  | _, _ => False
section
variable {X : Cx} {E : XK} {pos : Pos} {a b : Expr} {ta tb : TE} {wa wb : WE}
theorem abs_divX {K : PySem.W.Frag} : AbsR2 K E (rI (fun _ j => j ≠ 0) fun i j => .int (i.fdiv j)) fDivX := abs_int fun x y S Q XX h => by
  cases x <;> cases y <;> try exact h.elim
  exact ⟨_, _, rfl, rfl, h⟩
theorem je_divX (bo : BigOk X) (ha : JE X E a ta wa) (hb : JE X E b tb wb) : JE X E (.BinOp a .FloorDiv b pos) (tOp (rI (fun _ j => j ≠ 0) fun i j => .int (i.fdiv j)) ta tb) (wOp fDivX wa wb) := je_op (op_divX bo) abs_divX ha hb
end
theorem ax_xdivx {i j : Int} {S : Sto} {Q : VKD} {X : XKD} : fDivX (.int i) (.int j) S Q X = (j ≠ 0 ∧ Q (.int (i.fdiv j)) S) := id rfl
/-- a def's body has room for it -/
theorem big_of {P : Program} {w : World} {K : PySem.W.Frag} {mg : Str → Option Value} {base : Heap} {N : List Str} {qual : Str} {sc : Scope} {f : Addr} {cdv : Value} {A : Around} {outer : List Env} {s : Shared} {H : Hp} {E : XK} {k : Nat}
    (sb : base.NoSeer) (ht : P.given.tree = none) (hr : Room k (A.deeper (envOfC qual sc s.heap.objs.size f cdv))) (hk : 33 ≤ k) (h1 : sc.isGenerator = false) (h2 : sc.isCoroutine = false) : BigOk (cxOf (L2.CX P w) P w K mg base N qual sc f cdv A outer s H E) :=
  ⟨sb, ht, rfl, h1, h2, by have := hr.dp; show (A.deeper (envOfC qual sc s.heap.objs.size f cdv)).depth + 100 < _; omega⟩

/-! ### the law's entry, where what is seen of the start is passed on -/
theorem law_see {P : Program} {w : World} {K : PySem.W.Frag} {mg mb : Str → Option Value} {k : Nat} {fa a : Addr} {fd : FuncData} {x : Str} {sp : Sp} {s1 : Shared} {vs : List Value} {ns : List Int} (kx : K.In s1.heap)
    (gn : s1.heap.Ns mainGlobals mg) (bn : s1.heap.Ns builtinsNs mb) (bl : ∀ x : Str, x ≠ "__name__" → mb x = bootBuiltins x) (li : s1.heap.NoLimit) (se : s1.heap.NoSeer) (ge : s1.gens = #[])
    (there : s1.heap.get? a = some { cls := .type "list", data := .seq vs.toArray }) (ia : IntsAre vs ns) (sz : ns.length ≤ sizeLine) (hr : Room k callerA)
    (F : ∀ base : Heap, K.In base → base.Ns mainGlobals mg → base.NoSeer → FnOk P w K mg base (L2.CX P w) k fa fd [x] sp) (bi : ∀ (s : Shared) (u : Value), BindsTo s fd ⟨[u], []⟩ [(x, u)])
    (want : ∀ H : Hp, Only H → SqL K H a (ns.map V.int) → sp [.ref a] H (fun v _ => v = .bl true) fun _ _ _ => False) :
    codeAny (model P w) callerA (.call (.ref fa) ⟨[.ref a], []⟩) (fun r s2 => r = .ok (.ret (.bool true)) ∧ OldK s1.heap s2.heap ∧ s2.os = s1.os ∧ AllBare s2.gens) s1 := by
  have rels := vals_ints ia
  have goes : ∀ H : Hp, Only H → SqL K H a (ns.map V.int) → HOk P w H s1.heap → (∀ b, H b ≠ none → b = a) → (H a ≠ none → K.lookup a = none) →
      codeAny (model P w) callerA (.call (.ref fa) ⟨[.ref a], []⟩) (fun r s2 => r = .ok (.ret (.bool true)) ∧ OldK s1.heap s2.heap ∧ s2.os = s1.os ∧ AllBare s2.gens) s1 := fun H only sq hk one off => by
    have stays : ∀ {b : Addr} {o : Obj}, s1.heap.get? b = some o → H b = none → (hidT s1.heap H).get? b = some o := fun e n => hidT_get e n
    have free : ∀ {b : Addr} {o : Obj}, s1.heap.get? b = some o → o.cls ≠ .type "list" → H b = none := fun {b o} e d => by
      cases z : H b with
      | none => rfl
      | some u =>
        obtain rfl := one b (by rw [z]; exact fun y => nomatch y)
        rw [there] at e
        cases e
        exact absurd rfl d
    have freeD : ∀ {b : Addr} {o : Obj} {es : Array DictEntry} {ep : Nat}, s1.heap.get? b = some o → o.data = .dict es ep → H b = none := fun {b o es ep} e d => by
      cases z : H b with
      | none => rfl
      | some u =>
        obtain rfl := one b (by rw [z]; exact fun y => nomatch y)
        rw [there] at e
        cases e
        exact nomatch d
    have space : ∀ {b : Addr} {m : Str → Option Value}, s1.heap.Ns b m → (hidT s1.heap H).Ns b m := fun {b m} ⟨o, es, ep, e, d, r⟩ => ⟨o, es, ep, stays e (freeD e d), d, r⟩
    have kin : K.In (hidT s1.heap H) := fun b o e => stays (kx b o e) (by
      cases z : H b with
      | none => rfl
      | some u =>
        obtain rfl := one b (by rw [z]; exact fun y => nomatch y)
        rw [off (by rw [z]; exact fun y => nomatch y)] at e
        cases e)
    have seen : (hidT s1.heap H).NoSeer := by
      obtain ⟨⟨c1, c2, c3⟩, ⟨m1, m2, m3⟩, ⟨i1, i2, i3⟩, g1, bm, ob, g2, g3, g4, g5, g6⟩ := se
      exact ⟨⟨c1, space c2, c3⟩, ⟨m1, space m2, m3⟩, ⟨i1, space i2, i3⟩, g1, bm, ob, space g2, g3, stays g4 (free g4 (by rw [g5]; decide)), g5, g6⟩
    have modl : Mod K mg (hidT s1.heap H) := ⟨kin, space gn, ⟨mb, space bn, bl⟩, let ⟨c1, c2, c3⟩ := li; ⟨c1, space c2, c3⟩⟩
    have env0 : Env0 P w K mg (hidT s1.heap H) callerA [] s1 H := ⟨rfl, modl, fun b o e => of_hidT e, Nat.le_of_eq (hidT_size _ _), trivial, fun b y => (nomatch (y : b ∈ ([] : List Addr))), hk, .of_eq ge⟩
    refine codeAny_mono ((F _ kin (space gn) seen).run callerA [] s1 H ⟨[.ref a], []⟩ [.ref a] [.ref a] _ _ hr env0 (bi s1 (.ref a)) (.cons rfl .nil) (want H only sq)) fun r s2 h => ?_
    cases r with
    | error er =>
      obtain ⟨_, _, _, _, _, _, _, _, _, _, _, _, z⟩ := h
      exact z.elim
    | ok fl =>
      cases fl <;> first | exact False.elim h | skip
      obtain ⟨v, H2, os, bare, un, hk2, r, e⟩ := h
      have e : v = .bl true := e
      subst e
      obtain rfl : _ = Value.bool true := r
      refine ⟨rfl, OldK.of_keep fun b o e => ?_, os, bare⟩
      rcases only b with z | ⟨ob, xs, z⟩
      · exact un.keep b o e z (fun y => (nomatch (y : b ∈ ([] : List Addr)))) (fun y => (nomatch (y : b ∈ ([] : List Addr))))
      · obtain ⟨e1, _⟩ := hk b _ z
        obtain ⟨e2, _⟩ := hk2 b _ (un.frzs b ob _ z)
        rw [e] at e1
        cases e1
        exact e2
  rcases hkl : K.lookup a with _ | o
  · refine goes (fun b => if b = a then some (.frz { cls := .type "list", data := .seq vs.toArray } (.lst (ns.map V.int))) else none) (fun b => ?_) (.inl (.inr ⟨{ cls := .type "list", data := .seq vs.toArray }, if_pos rfl⟩)) (fun b u z => ?_) (fun b z => ?_) fun _ => hkl
    · by_cases y : b = a
      · exact .inr ⟨_, _, if_pos y⟩
      · exact .inl (if_neg y)
    · by_cases y : b = a
      · cases (if_pos y).symm.trans z
        subst y
        exact ⟨there, by rw [List.length_map]; exact sz, vs, _, rels, there⟩
      · cases (if_neg y).symm.trans z
    · by_cases y : b = a
      · exact y
      · exact absurd (if_neg y) z
  · have e := kx a o hkl
    rw [there] at e
    cases e
    refine goes (fun _ => none) (fun _ => .inl rfl) (.inr ⟨_, vs.toArray, _, hkl, rfl, rfl, rfl, by rw [List.size_toArray, ia.length]; exact sz, by simpa using rels⟩) (fun b u z => nomatch (z : (none : Option HO) = some u)) (fun b z => absurd rfl z) fun z => absurd rfl z
theorem walk_see {l : PySem.W.OpenLaw} {n k : Nat} {q : Program} {loose : List Str} {XP : (Str → Option Value) → Heap → Prop} {YP : World → Heap → Prop} {d : DefRec} {K : Params → PySem.W.Frag} {sp : World → Sp} {x : Str} (hn : l.most = some n) (hn2 : n ≤ sizeLine) (hdf : d.params.defaults = [])
    (hr : Room k callerA) (hi : importsNone q = true) (hY : ∀ (w : World) (h : Heap), YP w h → (K w.params).In h)
    (F : ∀ (w : World) (mg : Str → Option Value) (fa : Addr) (h : Heap), (K w.params).In h → h.Ns mainGlobals mg → mg d.name = some (.ref fa) → ∃ fd : FuncData, (∀ (s : Shared) (u : Value), BindsTo s fd ⟨[u], []⟩ [(x, u)]) ∧
      ∀ base : Heap, (K w.params).In base → base.Ns mainGlobals mg → base.NoSeer → FnOk l.prog w (K w.params) mg base (L2.CX l.prog w) k fa fd [x] (sp w))
    (want : ∀ (w : World) (H : Hp) (a : Addr) (ns : List Int), ns.length ≤ n → Only H → SqL (K w.params) H a (ns.map V.int) → sp w [.ref a] H (fun v _ => v = .bl true) fun _ _ _ => False) :
    PySem.W.WalkO q loose XP YP l.row.toRowW d [] (fun f vs => PySem.call f vs) := by
  refine Att.attach_call hn hdf fun w s0 s1 mg mb fa o pm cd doc a vs ns G Y ho hd hcd hmg there ia sz ge => ?_
  obtain ⟨fd, hb, hF⟩ := F w mg fa _ (hY w _ Y) G.T.g hmg
  exact law_see (hY w _ Y) G.T.g G.T.b G.T.builtins G.T.nolimit (G.T.seer hi) ge there ia (Nat.le_trans sz hn2) hr hF hb fun H only sq => want w H a ns sz only sq
end AW
/-! AW21: tuple * int, whatever the int. -/
namespace AW
open PySem PySem.Spec PyProof.Rows L2
theorem tmul_same (l : Addr) (items : Array Value) (n : Nat) (dd : Option Addr) (sl : Array (Option Value)) (x : Int) (u : Tok) (c0 : (decide (x < -(2 ^ 63)) || decide (x ≥ 2 ^ 63)) = false) (c1 : (items.isEmpty || x == 1) = true) :
    Meets (Builtin.«tuple.__mul__» ⟨[.ref l, .int x u], []⟩) (fun _ R s => s.heap.get? l = some { cls := .type "tuple", dict := dd, data := .seq items n, slots := sl } ∧ R (.ok (.ret (.ref l))) s) :=
  .of_wp fun prog w A R s0 y => by
    obtain ⟨hp0, gs, dd0, tk, os⟩ := s0
    obtain ⟨here, y⟩ := y
    have f1 := AutoSeq1.idx_int
    wp_walk using wpAny_loadPart' here
    repeat (first
      | (refine wpAny_ite_false (decide_eq_false (by rw [c0]; exact Bool.false_ne_true)) ?_; wp_walk using wpAny_loadPart' here)
      | (refine wpAny_ite_true (decide_eq_true (by rw [c1])) ?_; wp_walk using wpAny_loadPart' here))
    exact ⟨_, rfl, y⟩
theorem tmul_none (l : Addr) (items : Array Value) (n : Nat) (dd : Option Addr) (sl : Array (Option Value)) (x : Int) (u : Tok) (c0 : (decide (x < -(2 ^ 63)) || decide (x ≥ 2 ^ 63)) = false) (c1 : (items.isEmpty || x == 1) = false) (c2 : (decide (x ≤ 0) || items.isEmpty) = true) :
    Meets (Builtin.«tuple.__mul__» ⟨[.ref l, .int x u], []⟩) (fun _ R s => s.heap.get? l = some { cls := .type "tuple", dict := dd, data := .seq items n, slots := sl } ∧
      R (.ok (.ret (Value.ref s.heap.objs.size))) { s with heap := s.heap.push { cls := Value.type "tuple", data := Data.seq #[] }, toks := s.toks }) :=
  .of_wp fun prog w A R s0 y => by
    obtain ⟨hp0, gs, dd0, tk, os⟩ := s0
    obtain ⟨here, y⟩ := y
    have f1 := AutoSeq1.idx_int
    wp_walk using wpAny_loadPart' here
    repeat (first
      | (refine wpAny_ite_false (decide_eq_false (by rw [c0]; exact Bool.false_ne_true)) ?_; wp_walk using wpAny_loadPart' here)
      | (refine wpAny_ite_false (decide_eq_false (by rw [c1]; exact Bool.false_ne_true)) ?_; wp_walk using wpAny_loadPart' here)
      | (refine wpAny_ite_true (decide_eq_true (by rw [c2])) ?_; wp_walk using wpAny_loadPart' here))
    exact ⟨_, rfl, y⟩
def rRepA (K : PySem.W.Frag) : R2 := fun x y H Q => ∃ l k xs, x = .ref l ∧ y = .int k ∧ SqT K H l xs ∧ (-(2 ^ 62) ≤ k ∧ k ≤ 1000 ∧ xs.length ≤ 1000) ∧ ((xs = [] ∨ k = 1) → Q (.ref l) H) ∧ (¬(xs = [] ∨ k = 1) → ∀ p, H p = none → Q (.ref p) (upd H p (.tup (List.replicate k.toNat xs).flatten)))
section
variable {X : Cx}
theorem op_repA : OpR X (binaryOp .Mult) (rRepA X.K) := by
  rintro pins s σ H x y v u Q I rx ry ⟨l, k, xs, rfl, rfl, hT, ⟨h0, h2, hz⟩, q1, q2⟩
  cases rx
  obtain ⟨t, rfl⟩ := ry
  obtain ⟨its, r, ⟨⟨c, dd, dat, sl⟩, ho, ec, n, ed⟩, _⟩ := I.tuple hT
  simp only at ec ed
  subst ec ed
  have hle : its.length = xs.length := by rw [r.length]
  have fit : (decide (k < -(2 ^ 63)) || decide (k ≥ 2 ^ 63)) = false := by
    rw [Bool.or_eq_false_iff]
    exact ⟨decide_eq_false (by omega), decide_eq_false (by omega)⟩
  by_cases c : xs = [] ∨ k = 1
  · have c1 : (its.toArray.isEmpty || k == 1) = true := by
      rcases c with c | c
      · have : its = [] := List.eq_nil_of_length_eq_zero (by rw [hle, c]; rfl)
        subst this
        rfl
      · subst c
        rw [Bool.or_eq_true]
        exact .inr rfl
    refine wpAny_binaryOp_repeat_ref (T := "tuple") (U := "int") (by decide) ⟨_, ho, rfl⟩ (fun s' => typeIs_int s' k t) noFill_tuple_mul F.fills_int_mul F.slot_int_rmul repeat_tuple F.slot_int_index.lookup
      (call_meets F.slot_int_rmul (typeIs_int s k t) F.entry_int_rmul (F.args_int_rmul_2 _ _) (int_rmul_tuple k t l its.toArray n dd sl)
        ⟨ho, rfl, ⟨_, ho, rfl⟩, call_meets F.slot_tuple_mul ⟨_, ho, rfl⟩ F.entry_tuple_mul (F.args_tuple_mul_2 _ _) (tmul_same l its.toArray n dd sl k t fit c1) ⟨ho, ?_⟩⟩)
    exact ⟨.ref l, H, I, rfl, q1 c⟩
  · have hne : xs ≠ [] := fun e => c (.inl e)
    have hk : k ≠ 1 := fun e => c (.inr e)
    by_cases k0 : k ≤ 0
    · have hi : its.toArray.isEmpty = false := by
        cases its with
        | nil => exact absurd (List.eq_nil_of_length_eq_zero hle.symm) hne
        | cons a b => rfl
      have c1 : (its.toArray.isEmpty || k == 1) = false := by
        rw [hi, Bool.false_or]
        exact beq_eq_false_iff_ne.mpr hk
      have c2 : (decide (k ≤ 0) || its.toArray.isEmpty) = true := by
        rw [decide_eq_true k0] <;> rfl
      refine wpAny_binaryOp_repeat_ref (T := "tuple") (U := "int") (by decide) ⟨_, ho, rfl⟩ (fun s' => typeIs_int s' k t) noFill_tuple_mul F.fills_int_mul F.slot_int_rmul repeat_tuple F.slot_int_index.lookup
        (call_meets F.slot_int_rmul (typeIs_int s k t) F.entry_int_rmul (F.args_int_rmul_2 _ _) (int_rmul_tuple k t l its.toArray n dd sl)
          ⟨ho, rfl, ⟨_, ho, rfl⟩, call_meets F.slot_tuple_mul ⟨_, ho, rfl⟩ F.entry_tuple_mul (F.args_tuple_mul_2 _ _) (tmul_none l its.toArray n dd sl k t fit c1 c2) ⟨ho, ?_⟩⟩)
      have e : (List.replicate k.toNat xs).flatten = [] := by rw [show k.toNat = 0 by omega]; rfl
      have q2' := q2 c
      rw [e] at q2'
      refine ⟨.ref s.heap.objs.size, _, I.laid (t' := s.toks) (o := .tup []) (fun b ob q => Heap.get?_push_of_some _ q) (Nat.le_refl _) ?_, rfl, q2' _ (I.hok.fresh (Nat.le_refl _))⟩
      exact ⟨by rw [sizeLine_eq]; decide, [], .nil, IsTup.new _ _⟩
    · exact op_repT pins s σ H (.ref l) (.int k) (.ref l) (.int k t) Q I rfl ⟨t, rfl⟩ ⟨l, k, xs, rfl, rfl, hT, hne, by omega, h2, hz, q2 c⟩
end
def fMulT : F2 := fun x y S Q _ => match x, y with
  | .tup xs, .int k => (-(2 ^ 62) ≤ k ∧ k ≤ 1000 ∧ xs.length ≤ 1000) ∧ Q (.tup (List.replicate k.toNat xs).flatten) S
  | _, _ => False
section
variable {X : Cx} {E : XK} {pos : Pos} {a b : Expr} {ta tb : TE} {wa wb : WE}
theorem abs_mulT {K : PySem.W.Frag} : AbsR2 K E (rRepA K) fMulT := by
  intro ι H S x y v u Q XX Qh r hx hy h l lx
  cases x <;> cases y <;> try exact h.elim
  rename_i xs k
  obtain ⟨p, as, rfl, hp, ra⟩ := rep_tup.mp hx
  rw [rep_int] at hy
  have la := RepL.length ra
  obtain ⟨⟨h1, h2, h3⟩, hq⟩ := h
  refine ⟨p, k, as, rfl, hy, hp, ⟨h1, h2, by omega⟩, fun c => ?_, fun c t ht => l.tup r (repL_rep ra _) hq ht⟩
  have e : (List.replicate k.toNat xs).flatten = xs := by
    rcases c with c | c
    · have : xs = [] := List.eq_nil_of_length_eq_zero (by rw [la, c]; rfl)
      subst this
      induction k.toNat with
      | zero => rfl
      | succ n ih => rw [List.replicate_succ, List.flatten_cons, ih]; rfl
    · subst c
      show [xs].flatten = xs
      rw [List.flatten_cons]
      exact List.append_nil xs
  rw [e] at hq
  exact l ι (.tup xs) S _ H Ext.refl r hx hq
theorem je_mulT {K : PySem.W.Frag} (ha : JE X E a ta wa) (hb : JE X E b tb wb) (hK : X.K = K := by rfl) : JE X E (.BinOp a .Mult b pos) (tOp (rRepA K) ta tb) (wOp fMulT wa wb) := by
  subst hK
  exact je_op op_repA abs_mulT ha hb
end
theorem ax_mult {xs : List D} {k : Int} {S : Sto} {Q : VKD} {X : XKD} : fMulT (.tup xs) (.int k) S Q X = ((-(2 ^ 62) ≤ k ∧ k ≤ 1000 ∧ xs.length ≤ 1000) ∧ Q (.tup (List.replicate k.toNat xs).flatten) S) := id rfl
theorem rep_one {α : Type} (n : Nat) (a : α) : (List.replicate n [a]).flatten = List.replicate n a := by
  induction n with
  | zero => rfl
  | succ n ih => rw [List.replicate_succ, List.flatten_cons, ih]; rfl
end AW
/-! AW22: list + list as a cell, list(range(..)). -/
namespace AW
open PySem PySem.Spec PyProof.Rows L2
def fAddR : F2 := fun x y S Q _ => match x, y with
  | .fl xs, .fl ys => xs.length + ys.length ≤ sizeLine ∧ Q (.ref S.length) (S ++ [.lst (xs ++ ys)])
  | _, _ => False
section
variable {X : Cx} {E : XK} {pos : Pos} {a b : Expr} {ta tb : TE} {wa wb : WE}
theorem abs_addR {K : PySem.W.Frag} : AbsR2 K E (rAddAll K) fAddR := by
  intro ι H S x y v u Q XX Qh r hx hy h l lx
  cases x <;> cases y <;> try exact h.elim
  rename_i xs ys
  obtain ⟨p, as, rfl, np, hp, ra⟩ := rep_fl.mp hx
  obtain ⟨q, bs, rfl, nq, hq, rb⟩ := rep_fl.mp hy
  have la := RepL.length ra
  have lb := RepL.length rb
  exact .inr (.inr (.inr ⟨p, q, as, bs, rfl, rfl, hp, hq, by rw [← la, ← lb]; exact h.1, fun t ht => l.cell r (RepL.append ra rb) h.2 ht⟩))
theorem je_addR {K : PySem.W.Frag} (ha : JE X E a ta wa) (hb : JE X E b tb wb) (hK : X.K = K := by rfl) : JE X E (.BinOp a .Add b pos) (tOp (rAddAll K) ta tb) (wOp fAddR wa wb) := by
  subst hK
  exact je_op op_addAll abs_addR ha hb
end
theorem ax_addr {xs ys : List D} {S : Sto} {Q : VKD} {X : XKD} : fAddR (.fl xs) (.fl ys) S Q X = (xs.length + ys.length ≤ sizeLine ∧ Q (.ref S.length) (S ++ [.lst (xs ++ ys)])) := id rfl
theorem rep_rgV {K ι H} (lo hi : Int) : RepL K ι H (rangeD lo (hi - lo).toNat) (L2.rgV lo hi) := by
  unfold rangeD L2.rgV
  generalize List.range (hi - lo).toNat = l
  induction l with
  | nil => exact RepL.nil
  | cons a l ih => exact RepL.cons (rep_int.mpr rfl) ih
def rgQ (a b : D) (S : Sto) (Q : List D → Sto → Prop) : Prop := match a, b with
  | .int i, .int j => (-(2 ^ 62) ≤ i ∧ i < 2 ^ 62 ∧ -(2 ^ 62) ≤ j ∧ j < 2 ^ 62 ∧ (j - i).toNat ≤ 2 ^ 24) ∧ Q (rangeD i (j - i).toNat) S
  | _, _ => False
def wListRg1 (wa : WE) : WE := fun σ S Q X => wa σ S (fun d S1 => rgQ (.int 0) d S1 fun l S2 => Q (.fl l) S2) X
def wListRg1R (wa : WE) : WE := fun σ S Q X => wa σ S (fun d S1 => rgQ (.int 0) d S1 fun l S2 => Q (.ref S2.length) (S2 ++ [.lst l])) X
def wListRg2 (wa wb : WE) : WE := fun σ S Q X => wa σ S (fun d S1 => wb σ S1 (fun d' S2 => rgQ d d' S2 fun l S3 => Q (.fl l) S3) X) X
section
variable {X : Cx} {E : XK} {p1 p2 pos pos2 : Pos} {a b : Expr} {ta tb : TE} {wa wb : WE}
theorem je_listRg1 (ml : X.mg "list" = none) (mr : X.mg "range" = none) (ha : JE X E a ta wa) (hc : X.calm = true := by rfl) (gl : Gl X "list" := by rfl) (gr : Gl X "range" := by rfl) (na : starEach [a] X.env = (false, eval a X.env) :: starEach [] X.env := by rfl)
    (nr : starEach [.Call (.Name "range" p1) [a] [] pos2] X.env = (false, eval (.Call (.Name "range" p1) [a] [] pos2) X.env) :: starEach [] X.env := by rfl) : JE X E (.Call (.Name "list" p2) [.Call (.Name "range" p1) [a] [] pos2] [] pos) (L2.tLstRg (L2.tRg1 ta)) (wListRg1 wa) := by
  refine ⟨L2.pe_listRg hc gl ml (L2.prg_1 gr mr ha.pe na) nr, ?_⟩
  intro ι σ H σD S Q XX Qh r s h l lx
  refine ha.ab ι σ H σD S _ XX _ r s h ?_ lx
  intro ι1 d1 S1 v1 H1 e1 r1 p1 h1
  cases d1 <;> try exact h1.elim
  rename_i j
  rw [rep_int] at p1
  exact ⟨j, p1, h1.1, fun q hq => (l.ext e1).fl r1 (rep_rgV 0 j) h1.2 hq⟩
theorem je_listRg1R (ml : X.mg "list" = none) (mr : X.mg "range" = none) (ha : JE X E a ta wa) (hc : X.calm = true := by rfl) (gl : Gl X "list" := by rfl) (gr : Gl X "range" := by rfl) (na : starEach [a] X.env = (false, eval a X.env) :: starEach [] X.env := by rfl)
    (nr : starEach [.Call (.Name "range" p1) [a] [] pos2] X.env = (false, eval (.Call (.Name "range" p1) [a] [] pos2) X.env) :: starEach [] X.env := by rfl) : JE X E (.Call (.Name "list" p2) [.Call (.Name "range" p1) [a] [] pos2] [] pos) (L2.tLstRg (L2.tRg1 ta)) (wListRg1R wa) := by
  refine ⟨L2.pe_listRg hc gl ml (L2.prg_1 gr mr ha.pe na) nr, ?_⟩
  intro ι σ H σD S Q XX Qh r s h l lx
  refine ha.ab ι σ H σD S _ XX _ r s h ?_ lx
  intro ι1 d1 S1 v1 H1 e1 r1 p1 h1
  cases d1 <;> try exact h1.elim
  rename_i j
  rw [rep_int] at p1
  exact ⟨j, p1, h1.1, fun q hq => (l.ext e1).cell r1 (rep_rgV 0 j) h1.2 hq⟩
theorem je_listRg2 (ml : X.mg "list" = none) (mr : X.mg "range" = none) (ha : JE X E a ta wa) (hb : JE X E b tb wb) (hc : X.calm = true := by rfl) (gl : Gl X "list" := by rfl) (gr : Gl X "range" := by rfl) (na : starEach [a, b] X.env = (false, eval a X.env) :: starEach [b] X.env := by rfl) (nb : starEach [b] X.env = (false, eval b X.env) :: starEach [] X.env := by rfl)
    (hpl : (backTo pos2 (starEach [b] X.env)).any (·.1) = false := by rfl) (nr : starEach [.Call (.Name "range" p1) [a, b] [] pos2] X.env = (false, eval (.Call (.Name "range" p1) [a, b] [] pos2) X.env) :: starEach [] X.env := by rfl) : JE X E (.Call (.Name "list" p2) [.Call (.Name "range" p1) [a, b] [] pos2] [] pos) (L2.tLstRg (L2.tRg2 ta tb)) (wListRg2 wa wb) := by
  refine ⟨L2.pe_listRg hc gl ml (L2.prg_2 gr mr ha.pe hb.pe na nb hpl) nr, ?_⟩
  intro ι σ H σD S Q XX Qh r s h l lx
  refine ha.ab ι σ H σD S _ XX _ r s h ?_ lx
  intro ι1 d1 S1 v1 H1 e1 r1 p1 h1
  refine hb.ab ι1 σ H1 σD S1 _ XX _ r1 (s.mono e1) h1 ?_ (lx.ext e1)
  intro ι2 d2 S2 v2 H2 e2 r2 p2 h2
  cases d1 <;> cases d2 <;> try exact h2.elim
  rename_i i j
  rw [rep_int] at p1 p2
  exact ⟨i, j, p1, p2, h2.1, fun q hq => (l.ext (e1.trans e2)).fl r2 (rep_rgV i j) h2.2 hq⟩
end
theorem ax_xlr1 {a : WE} {σ : ASt} {S : Sto} {Q : VKD} {X : XKD} : wListRg1 a σ S Q X = (a σ S (fun d S1 => rgQ (.int 0) d S1 (Lz (fun l S2 => Q (.fl l) S2) .mk)) X) := id rfl
theorem ax_xlr1r {a : WE} {σ : ASt} {S : Sto} {Q : VKD} {X : XKD} : wListRg1R a σ S Q X = (a σ S (fun d S1 => rgQ (.int 0) d S1 (Lz (fun l S2 => Q (.ref S2.length) (S2 ++ [.lst l])) .mk)) X) := id rfl
theorem ax_xlr2 {a b : WE} {σ : ASt} {S : Sto} {Q : VKD} {X : XKD} : wListRg2 a b σ S Q X = (a σ S (fun d S1 => b σ S1 (fun d' S2 => rgQ d d' S2 (Lz (fun l S3 => Q (.fl l) S3) .mk)) X) X) := id rfl
theorem ax_rgq {i j : Int} {S : Sto} {Q : List D → Sto → Prop} : rgQ (.int i) (.int j) S Q = ((-(2 ^ 62) ≤ i ∧ i < 2 ^ 62 ∧ -(2 ^ 62) ≤ j ∧ j < 2 ^ 62 ∧ (j - i).toNat ≤ 2 ^ 24) ∧ Q (rangeD i (j - i).toNat) S) := id rfl
end AW
/-! AW23: x.index(y), sorted of ints. -/
namespace AW
open PySem PySem.Spec PyProof.Rows L2

/-! ### x.index(y) -/
def fIdx (o : D) (ds : List D) (S : Sto) (Q : VKD) : Prop := match ds with
  | [y] => match itemsL S o with
    | some es => (flatD y = true ∧ es.all flatD = true) ∧ ∃ j z, es[j]? = some z ∧ eqF z y = true ∧ (∀ m z', m < j → es[m]? = some z' → eqF z' y = false) ∧ Q (.int (j : Nat)) S
    | none => False
  | _ => False
def isL (o : D) (S : Sto) : Prop := match itemsL S o with
  | some _ => True
  | none => False
def wIdx (wo : WE) (w : WA) : WE := fun σ S Q X => wo σ S (fun o S1 => isL o S1 ∧ w σ S1 (fun ds S2 => fIdx o ds S2 Q) X) X
section
variable {X : Cx} {E : XK} {pos p apos : Pos} {a b c e o : Expr} {es : List Expr} {ta tb tc te to : TE} {wa wb wc we wo : WE} {t : TA} {w : WA}
theorem je_index {K : PySem.W.Frag} (ho : JE X E o to wo) (ha : JA X E (e :: es) t w) (hbase : attributeBase o "index" X.env (eval o X.env) = eval o X.env := by rfl)
    (hfew : ((backTo pos (starEach (e :: es) X.env)).all (fun x => !x.1) && (backToKw pos (keywordEach [] X.env)).all (fun x => x.1.isSome)
      && decide ((e :: es).length + ([] : List Keyword).length + (if ([] : List Keyword).isEmpty then 0 else 1) < 30)) = true := by rfl)
    (hline : (apos.endLine == pos.line) = true := by rfl) (hs : starEach (e :: es) X.env = (false, eval e X.env) :: starEach es X.env := by rfl) (hplain : (backTo pos (starEach es X.env)).any (·.1) = false := by rfl) (hK : X.K = K := by rfl) :
    JE X E (.Call (.Attribute o "index" apos) (e :: es) [] pos) (tBM K "list" (rIndex K) to t) (wIdx wo w) := by
  subst hK
  refine ⟨pe_bm PySem.F.plainAttrs_list PySem.F.slot_list_index PySem.F.type_list_index mt_index ho.pe ha.pe hbase hfew hline hs hplain, ?_⟩
  intro ι σ H σD S Q XX Qh r s h l lx
  refine ho.ab ι σ H σD S _ XX _ r s h ?_ lx
  intro ι1 d1 S1 v1 H1 e1 r1 p1 h1
  obtain ⟨h1, h2⟩ := h1
  unfold isL at h1
  split at h1
  · rename_i es0 hc
    obtain ⟨a, xs0, rfl, q1, q2⟩ := itemsL_rep r1 p1 hc
    refine ⟨.inl ⟨rfl, xs0, q1⟩, ?_⟩
    refine ha.ab ι1 σ H1 σD S1 _ XX _ r1 (s.mono e1) h2 ?_ (lx.ext e1)
    intro ι2 ds S2 vs H2 e2 r2 p2 h3
    unfold fIdx at h3
    split at h3
    · rename_i d
      split at h3
      · rename_i es2 hc2
        obtain ⟨v, ev, p3⟩ := repL1 p2
        subst ev
        obtain ⟨a2, xs, e3, q3, q4⟩ := itemsL_rep r2 (Rep.mono e2 _ _ p1) hc2
        cases e3
        obtain ⟨⟨f1, f2⟩, j, z, g1, g2, g3, g4⟩ := h3
        obtain ⟨x, hx, px⟩ := RepL.get q4 g1
        have fz : flatD z = true := List.all_eq_true.mp f2 z (List.mem_of_getElem? g1)
        refine ⟨a, xs, v, j, x, rfl, rfl, q3, flat_rep p3 f1, flatL_rep q4 f2, hx, by rw [← eqF_rep px p3 fz f1]; exact g2, fun m z' hm hz' => ?_, ?_⟩
        · obtain ⟨y', hy'⟩ : ∃ y', es2[m]? = some y' := by
            have := (List.getElem?_eq_some_iff.mp hz').1
            rw [← RepL.length q4] at this
            exact ⟨_, List.getElem?_eq_getElem this⟩
          obtain ⟨x', hx', px'⟩ := RepL.get q4 hy'
          rw [hz'] at hx'
          cases hx'
          rw [← eqF_rep px' p3 (List.all_eq_true.mp f2 y' (List.mem_of_getElem? hy')) f1]
          exact g3 m y' hm hy'
        · exact l ι2 _ S2 _ H2 (e1.trans e2) r2 (rep_int.mpr rfl) g4
      · exact h3.elim
    · exact h3.elim
  · exact h1.elim
end
theorem ax_idx {wo : WE} {w : WA} {σ : ASt} {S : Sto} {Q : VKD} {X : XKD} : wIdx wo w σ S Q X = wo σ S (fun o S1 => isL o S1 ∧ w σ S1 (fun ds S2 => fIdx o ds S2 (Lz Q .mk)) X) X := id rfl
theorem ref_isl {S : Sto} {n : Nat} {ds : List D} (h : S[n]? = some (.lst ds)) : isL (.ref n) S = True := by unfold isL; simp only [itemsL, h]
theorem ref_idx {S : Sto} {n : Nat} {ds : List D} (h : S[n]? = some (.lst ds)) {y : D} {Q : VKD} : fIdx (.ref n) [y] S Q = ((flatD y = true ∧ ds.all flatD = true) ∧ ∃ j z, ds[j]? = some z ∧ eqF z y = true ∧ (∀ m z', m < j → ds[m]? = some z' → eqF z' y = false) ∧ Q (.int (j : Nat)) S) := by unfold fIdx; simp only [itemsL, h]

/-! ### sorted -/
section
variable {prog : Program} {w : World} {A : Around} {E : Value → Shared → Prop} {s : Shared}
theorem collect_tup {l : Addr} {vs : List Value} {Q : List Value → Shared → Prop} (hl : s.heap.IsTuple l vs.toArray)
    (h : Q vs { s with heap := (s.heap.push (seqObj "list" #[] 0)).update s.heap.objs.size (Obj.mapSeq (· ++ vs.toArray)) }) (hsz : vs.length ≤ sizeLine := by size_fits) :
    wpAny (model prog w) A (collect (.ref l)) Q E s := by
  obtain ⟨o, ho, hc, n, hd⟩ := id hl
  unfold collect
  refine wpAny_bind (wpAny_runValue (codeAny_builtin entry_proto_collect' ?_))
  show wpAny _ _ (do again (.builtin "list.__iadd__" ⟨[← newList [], .ref l], []⟩)) _ _ s
  refine wpAny_bind (wpAny_newList (wpAny_pure ⟨Code.quiet_builtin _ (by decide +kernel), codeAny_builtin entry_list_iadd' ?_⟩))
  show wpAny _ _ (Builtin.List.listExtendWith (.ref s.heap.objs.size) (.ref l) (.ref s.heap.objs.size)) _ _ { s with heap := s.heap.push (seqObj "list" #[] 0) }
  unfold Builtin.List.listExtendWith
  have ho' : (s.heap.push (seqObj "list" #[] 0)).get? l = some o := Heap.get?_push_of_some _ ho
  refine wpAny_bind (wpAny_typeOf (T := "tuple") ⟨o, ho', hc⟩ ?_)
  have ht : (Value.type "tuple" == Value.type "tuple") = true := by rfl
  rw [if_pos (by rw [ht]; simp)]
  refine wpAny_bind (listItems_at ho' hd ?_)
  refine wpAny_bind (listItems_at (xs := #[]) (n := 0) (Heap.get?_push_size _ rfl) rfl ?_)
  rw [if_neg (by simp)]
  refine wpAny_bind (listUpdate_at (xs := #[]) (n := 0) (Heap.get?_push_size _ rfl) rfl ?_ (Nat.zero_le _) (by show (#[] ++ vs.toArray).size ≤ sizeLine + 1; simp only [Array.size_append, List.size_toArray, List.length_nil]; omega))
  refine wpAny_pure ?_
  show wpAny (model prog w) A (do
      let o ← load s.heap.objs.size
      match o.data with
      | .seq xs _ => pure xs.toList
      | _ => unsupported "internal:collect") Q E { s with heap := (s.heap.push (seqObj "list" #[] 0)).update s.heap.objs.size (Obj.mapSeq (· ++ vs.toArray)) }
  refine wpAny_bind (wpAny_load (get?_update_seq (Heap.get?_push_size _ rfl) _) ?_)
  show wpAny _ _ (pure ((#[] : Array Value) ++ vs.toArray).toList) Q E _
  rw [show ((#[] : Array Value) ++ vs.toArray).toList = vs by simp]
  exact wpAny_pure h
theorem sorted_tup {l : Addr} {vs : List Value} {ltv : Value → Value → Bool} {Q : Value → Shared → Prop} (O : SrtO.Swo ltv) (hl : s.heap.IsTuple l vs.toArray) (hz : vs.length ≤ sizeLine)
    (hS : 2 ≤ vs.length → ∀ (h₁ : Heap) (a : Addr), h₁.get? a = some (seqObj "list" vs.toArray 0) → (∀ b o, s.heap.get? b = some o → b ≠ a ∧ h₁.get? b = some o) → SrtO.SortableO prog w A.in1.in1 { s with heap := h₁ } a vs ltv)
    (h : ∀ out : List Value, SrtO.Srtd ltv out → SrtO.Stb ltv out vs → Q (.ref (s.heap.objs.size + 1)) { s with heap := sortedAll s.heap vs out.toArray }) :
    wpAny (model prog w) A (call (.builtin "sorted") [.ref l]) Q E s := by
  refine Calls.call_function_entry kind_sorted plain_sorted entry_sorted (args_sorted1 _) ?_
  unfold Builtin.«sorted»
  refine wpAny_bind (m := checkCount "sorted" 1 1 _) (wpAny_pure ?_)
  refine wpAny_bind (collect_tup hl ?_ hz)
  refine wpAny_bind (wpAny_newList ?_ hz)
  have hsz : ((s.heap.push (seqObj "list" #[] 0)).update s.heap.objs.size (Obj.mapSeq (· ++ vs.toArray))).objs.size = s.heap.objs.size + 1 := by
    rw [Heap.size_update, size_push']
  have hoL : (((s.heap.push (seqObj "list" #[] 0)).update s.heap.objs.size (Obj.mapSeq (· ++ vs.toArray))).push (seqObj "list" vs.toArray 0)).get? (s.heap.objs.size + 1) = some (seqObj "list" vs.toArray 0) := by
    rw [← hsz]; exact Heap.get?_push_size _ rfl
  have keep : ∀ b o, s.heap.get? b = some o → b ≠ s.heap.objs.size + 1 ∧ (((s.heap.push (seqObj "list" #[] 0)).update s.heap.objs.size (Obj.mapSeq (· ++ vs.toArray))).push (seqObj "list" vs.toArray 0)).get? b = some o := fun b o q => by
    have hlt : b < s.heap.objs.size := Heap.lt_size q
    refine ⟨Nat.ne_of_lt (Nat.lt_succ_of_lt hlt), Heap.get?_push_of_some _ ?_⟩
    rw [Heap.get?_update_ne _ _ _ _ (Nat.ne_of_lt hlt)]
    exact Heap.get?_push_of_some _ q
  show wpAny _ _ _ _ _ { s with heap := ((s.heap.push (seqObj "list" #[] 0)).update s.heap.objs.size (Obj.mapSeq (· ++ vs.toArray))).push (seqObj "list" vs.toArray 0) }
  rw [hsz]
  refine wpAny_bind (wpAny_holding (wpAny_call_entry slot_list_sort ⟨_, hoL, rfl⟩ entry_list_sort (SrtO.list_sort_ord O hoL hz (fun h2 => hS h2 _ _ hoL keep) fun out hs hb => ⟨_, rfl, ?_⟩) (args_list_sort _)))
  exact wpAny_pure ⟨_, rfl, h out hs hb⟩
end
def rSrt (K : PySem.W.Frag) : List V → Hp → VK → Prop := fun vs H Q => ∃ (a : Addr) (ns : List Int), vs = [V.ref a] ∧ (SqL K H a (ns.map V.int) ∨ SqT K H a (ns.map V.int)) ∧
  ∀ (ns' : List Int) (p : Addr), ns'.Perm ns → ns'.Pairwise (· ≤ ·) → H p = none → Q (.ref p) (upd H p (.lst (ns'.map V.int)))
theorem cr_srt {X : Cx} : CallR X (.builtin "sorted") (rSrt X.K) := by
  intro pins s σ H vs us Q I r h
  obtain ⟨a, ns, rfl, hs, q⟩ := h
  rcases hs with hs | hs
  · exact cr_sortedI pins s σ H _ us Q I r ⟨a, ns, rfl, hs, q⟩
  · obtain ⟨its, rv, hl, hz⟩ := I.tuple hs
    rw [Vals.ref1 r]
    have hi := rv.ints
    refine sorted_tup SrtO.swo_int (show s.heap.IsTuple a its.toArray from hl) (by rw [← rv.length]; exact hz) (fun h2 h₁ a' _ _ => SrtO.ints_sortable hi h2) fun out h1 h2 => ?_
    obtain ⟨k1, k2, k3⟩ := SrtO.ints_out hi h1 h2
    obtain ⟨ep, he'⟩ := PyProof.Rows.sortedAll_at s.heap its out.toArray
    have hlen : ((out.map SrtO.iv).map V.int).length ≤ sizeLine := by
      rw [List.length_map, k2.length_eq]
      rw [List.length_map] at hz
      exact hz
    exact ⟨.ref _, upd H (s.heap.objs.size + 1) (.lst ((out.map SrtO.iv).map V.int)), I.laid (t' := s.toks) (fun _ _ => PyProof.Rows.sortedAll_old) (Nat.le_succ _) ⟨hlen, out, ep, vals_of_ints k1, he'⟩, rfl, q _ _ k2 k3 (I.hok.fresh (Nat.le_succ _))⟩
def gSorted : FC := fun ds S Q _ => match ds with
  | [x] => match (items S x).bind intsOf with
    | some ns => ∀ ns' : List Int, ns'.Perm ns → ns'.Pairwise (· ≤ ·) → Q (.fl (ns'.map .int)) S
    | none => False
  | _ => False
theorem abs_sorted {K : PySem.W.Frag} {E : XK} : AbsC K E (rSrt K) gSorted := by
  intro ι H S ds vs Q XX Qh r h g l lx
  unfold gSorted at g
  split at g
  · obtain ⟨v, ev, hv⟩ := repL1 h; subst ev; clear h; have h := hv
    split at g
    · rename_i ns e
      cases q : items S _ with
      | none => rw [q] at e; cases e
      | some es =>
        rw [q] at e
        obtain ⟨a, xs, rfl, hs, hl⟩ := items_rep r h q
        have e2 : es = ns.map D.int := intsOf_eq e
        rw [e2] at hl
        rw [repL_ints hl] at hs
        exact ⟨a, ns, rfl, hs, fun ns' p h1 h2 hp => l.fl r (repL_of_ints ns') (g ns' h1 h2) hp⟩
    · exact g.elim
  · exact g.elim
theorem je_sorted {K : PySem.W.Frag} {X : Cx} {E : XK} {p pos : Pos} {e : Expr} {es : List Expr} {t : TA} {w : WA} (hc : X.calm = true) (hm : X.mg "sorted" = none) (ha : JA X E (e :: es) t w) (hg : Gl X "sorted" := by rfl)
    (he : starEach (e :: es) X.env = (false, eval e X.env) :: starEach es X.env := by rfl) (hpl : (backTo pos (starEach es X.env)).any (·.1) = false := by rfl) (hK : X.K = K := by rfl) : JE X E (.Call (.Name "sorted" p) (e :: es) [] pos) (tCB (rSrt K) t) (wCB gSorted w) := by
  subst hK
  exact je_callB cr_srt abs_sorted hg hm PyProof.Rows.boot_sorted ha (by decide) (by decide) he hpl
theorem fl_sorted {xs : List D} {ns : List Int} (h : xs = ns.map D.int) {S : Sto} {Q : VKD} {X : XKD} : gSorted [.fl xs] S Q X = ∀ ns' : List Int, ns'.Perm ns → ns'.Pairwise (· ≤ ·) → Q (.fl (ns'.map .int)) S := by
  subst h
  unfold gSorted
  simp only [items, itemsL, Option.bind_some, intsOf_map]
theorem tup_sorted {xs : List D} {ns : List Int} (h : xs = ns.map D.int) {S : Sto} {Q : VKD} {X : XKD} : gSorted [.tup xs] S Q X = ∀ ns' : List Int, ns'.Perm ns → ns'.Pairwise (· ≤ ·) → Q (.fl (ns'.map .int)) S := by
  subst h
  unfold gSorted
  simp only [items, Option.bind_some, intsOf_map]
end AW
/-! AW24: a module's constant that is a tuple of one text. -/
namespace AW
open PySem PySem.Spec PyProof.Rows L2
/-- a tuple of one text that the module holds -/
def TupC (K : PySem.W.Frag) (a : Addr) (c : Str) : Prop := ∃ (o : Obj) (its : Array Value) (n : Nat), K.lookup a = some o ∧ o.cls = .type "tuple" ∧ o.data = .seq its n ∧ its.size ≤ sizeLine ∧ Vals [.str c] its.toList
theorem TupC.of {K : PySem.W.Frag} {a : Addr} {c : Str} {od : Option Addr} {u : Tok} {n : Nat} {sl : Array (Option Value)} (h : K.lookup a = some ⟨.type "tuple", od, .seq #[.str c u] n, sl⟩) : TupC K a c :=
  ⟨_, _, _, h, rfl, rfl, by show 1 ≤ sizeLine; decide, .cons ⟨_, rfl⟩ .nil⟩
section
variable {X : Cx} {E : XK} {pos : Pos}
theorem je_globT {K : PySem.W.Frag} {x c : Str} {a : Addr} (hm : X.mg x = some (.ref a)) (ht : TupC K a c) (hg : Gl X x := by rfl) (hd : (x == ("__debug__" : Str)) = false := by decide) (hK : X.K = K := by rfl) : JE X E (.Name x pos) (tC (.ref a)) (wC (.tup [.str c])) := by
  subst hK
  exact ⟨pe_glob (v := .ref a) hg hm rfl hd, fun ι σ H σD S Q XX Qh r s h l lx => l ι (.tup [.str c]) S (.ref a) H Ext.refl r (rep_tup.mpr ⟨a, [.str c], rfl, .inr ht, RepL.cons (rep_str.mpr rfl) RepL.nil⟩) h⟩
end
end AW
namespace AW
open PySem PySem.Spec PyProof.Rows L2
/-! ### a cell + a list, as a list that stays -/
def fAddC : F2 := fun x y S Q _ => match x, y with
  | .ref n, .fl ys => ∃ xs, S[n]? = some (.lst xs) ∧ xs.length + ys.length ≤ sizeLine ∧ Q (.fl (xs ++ ys)) S
  | _, _ => False
section
variable {X : Cx} {E : XK} {pos : Pos} {a b : Expr} {ta tb : TE} {wa wb : WE}
theorem abs_addC {K : PySem.W.Frag} : AbsR2 K E (rAddAll K) fAddC := by
  intro ι H S x y v u Q XX Qh r hx hy h l lx
  cases x <;> cases y <;> try exact h.elim
  rename_i n ys
  obtain ⟨xs, hn, hl, h⟩ := h
  obtain ⟨p, rfl, np⟩ := rep_ref.mp hx
  obtain ⟨as, hp, ra⟩ := r.cel n _ p hn np
  obtain ⟨q, bs, rfl, nq, hq, rb⟩ := rep_fl.mp hy
  have la := RepL.length ra
  have lb := RepL.length rb
  exact .inr (.inr (.inr ⟨p, q, as, bs, rfl, rfl, hp, hq, by rw [← la, ← lb]; exact hl, fun t ht => l.fl r (RepL.append ra rb) h ht⟩))
theorem je_addC {K : PySem.W.Frag} (ha : JE X E a ta wa) (hb : JE X E b tb wb) (hK : X.K = K := by rfl) : JE X E (.BinOp a .Add b pos) (tOp (rAddAll K) ta tb) (wOp fAddC wa wb) := by
  subst hK
  exact je_op op_addAll abs_addC ha hb
end
theorem ax_addc {n : Nat} {ys : List D} {S : Sto} {Q : VKD} {X : XKD} : fAddC (.ref n) (.fl ys) S Q X = (∃ xs, S[n]? = some (.lst xs) ∧ xs.length + ys.length ≤ sizeLine ∧ Q (.fl (xs ++ ys)) S) := id rfl
end AW
/-! AW25: None in a list of tuples and Nones. -/
namespace AW
open PySem PySem.Spec PyProof.Rows L2
section
variable {X : Cx} {E : XK} {pos : Pos} {a b : Expr} {ta tb : TE} {wa wb : WE}
def TupOr (K : PySem.W.Frag) (H : Hp) (z : V) : Prop := z = .non ∨ ∃ (a : Addr) (ys : List V), z = .ref a ∧ SqT K H a ys
def nonV : V → Bool
  | .non => true
  | _ => false
def nonU : Value → Bool
  | .none => true
  | _ => false
theorem tupOr_u {K : PySem.W.Frag} {H : Hp} : ∀ {xs : List V} {us : List Value}, Vals xs us → (∀ z ∈ xs, TupOr K H z) → us.any nonU = xs.any nonV
  | _, _, .nil, _ => rfl
  | y :: xs, u :: us, .cons r t, f => by
    rw [List.any_cons, List.any_cons, tupOr_u t fun z hz => f z (List.mem_cons_of_mem _ hz)]
    congr 1
    rcases f y (List.mem_cons_self ..) with rfl | ⟨a, ys, rfl, _⟩
    · rw [show u = Value.none from r]; rfl
    · rw [show u = Value.ref a from r]; rfl
theorem tupOr_eq {A : Around} {pins : List (Addr × Obj)} {σ : L2.St} {H : Hp} {s : Shared} (I : Inv X pins σ H s) (hu : A.units < cLine) : ∀ {xs : List V} {us : List Value}, Vals xs us → (∀ z ∈ xs, TupOr X.K H z) → ∀ u ∈ us, SeqAt.EqAt A s u .none (nonU u)
  | _, _, .nil, _ => fun u hu' => by cases hu'
  | y :: xs, u :: us, .cons r t, f => fun u' hu' => by
    rcases List.mem_cons.mp hu' with e | hu'
    · subst e
      rcases f y (List.mem_cons_self ..) with rfl | ⟨a, ys, rfl, q⟩
      · rw [show u' = Value.none from r]
        exact SeqAt.EqAt.same _
      · rw [show u' = Value.ref a from r]
        obtain ⟨its, _, hl, _⟩ := I.tuple q
        exact SeqAt.EqAt.tuple_none hl hu
    · exact tupOr_eq I hu t (fun z hz => f z (List.mem_cons_of_mem _ hz)) u' hu'
def rNoneT (K : PySem.W.Frag) (neg : Bool) : R2 := fun x y H Q => ∃ p xs, x = .non ∧ y = .ref p ∧ SqL K H p xs ∧ (∀ z ∈ xs, TupOr K H z) ∧ Q (.bl (if neg then !xs.any nonV else xs.any nonV)) H
theorem op_noneNotT (hu : X.A.units + 64 < cLine) : OpR X (compareOp .NotIn) (rNoneT X.K true) := by
  intro pins s σ H x y v u Q I rx ry h
  obtain ⟨p, xs, rfl, rfl, hq, f, q⟩ := h
  cases rx
  cases ry
  obtain ⟨its, rv, hl, _⟩ := I.list hq
  have hu1 : X.A.in1.units < cLine := by show X.A.units + 1 < cLine; omega
  refine SeqAt.notIn_listAt nonU hl.isList (fun z hz => tupOr_eq I hu1 rv f z (by simpa using hz)) ⟨.bl _, H, I, rfl, ?_⟩
  rw [show its.toArray.any nonU = its.any nonU by simp, tupOr_u rv f]
  exact q
def tupOrD : D → Bool
  | .non => true
  | .tup _ => true
  | _ => false
def nonD : D → Bool
  | .non => true
  | _ => false
def fNoneT (neg : Bool) : F2 := fun x y S Q _ => match x, y with
  | .non, .fl ds => ds.all tupOrD = true ∧ Q (.bl (if neg then !(ds.any nonD) else ds.any nonD)) S
  | _, _ => False
theorem tupOr_rep {K : PySem.W.Frag} {ι : Ad} {H : Hp} : ∀ {ds : List D} {xs : List V}, RepL K ι H ds xs → ds.all tupOrD = true → (∀ z ∈ xs, TupOr K H z) ∧ xs.any nonV = ds.any nonD
  | [], xs, h, _ => by
    unfold RepL at h
    subst h
    exact ⟨fun z hz => absurd hz List.not_mem_nil, rfl⟩
  | d :: ds, xs, h, f => by
    unfold RepL at h
    obtain ⟨x, r, rfl, h1, h2⟩ := h
    rw [List.all_cons, Bool.and_eq_true] at f
    obtain ⟨g1, g2⟩ := tupOr_rep h2 f.2
    cases d <;> first | exact absurd f.1 Bool.false_ne_true | skip
    · have hx : x = .non := by unfold Rep at h1; exact h1
      subst hx
      refine ⟨fun z hz => ?_, by rw [List.any_cons, List.any_cons, g2]; rfl⟩
      rcases List.mem_cons.mp hz with e | hz
      · rw [e]; exact .inl rfl
      · exact g1 z hz
    · obtain ⟨p, ys, rfl, q, _⟩ := rep_tup.mp h1
      refine ⟨fun z hz => ?_, by rw [List.any_cons, List.any_cons, g2]; rfl⟩
      rcases List.mem_cons.mp hz with e | hz
      · rw [e]; exact .inr ⟨p, ys, rfl, q⟩
      · exact g1 z hz
theorem abs_noneT {K : PySem.W.Frag} : AbsR2 K E (rNoneT K true) (fNoneT true) := by
  intro ι H S x y v u Q XX Qh r hx hy h l lx
  cases x <;> cases y <;> try exact h.elim
  rename_i ds
  obtain ⟨p, xs, rfl, np, hp, ra⟩ := rep_fl.mp hy
  obtain ⟨f, q⟩ := h
  obtain ⟨g1, g2⟩ := tupOr_rep ra f
  refine ⟨p, xs, by unfold Rep at hx; exact hx, rfl, .inl (.inl hp), g1, ?_⟩
  rw [g2]
  exact l ι _ S _ H Ext.refl r (rep_bl.mpr rfl) q
theorem jt_noneNotT {K : PySem.W.Frag} (hu : X.A.units + 64 < cLine) (hm : behindInMarks .NotIn b = false := by rfl) (ha : JE X E a ta wa) (hb : JE X E b tb wb) (hK : X.K = K := by rfl) : JT X E (.Compare a [.NotIn] [b] pos) (tTest (tOp (rNoneT K true) ta tb)) (wTest (wOp (fNoneT true) wa wb)) := by
  subst hK
  exact jt_cmp (op_noneNotT hu) abs_noneT ha hb hm
end
theorem ax_nonet {ds : List D} {S : Sto} {Q : VKD} {X : XKD} : fNoneT true .non (.fl ds) S Q X = (ds.all tupOrD = true ∧ Q (.bl (!(ds.any nonD))) S) := id rfl
end AW
/-! AW26: classes: fields, methods, making; pop; o[i] op= e. -/
namespace AW
open PySem PySem.Spec PyProof.Rows L2
/-- what is known of a class of the program's: its instances' fields are plain -/
structure InsC (K : PySem.W.Frag) (C : Addr) (fl : List Str) : Prop where
  cl : Cls K C
  na : ∀ f ∈ fl, NoAttr K C f
section
variable {K : PySem.W.Frag} {ι ι1 : Ad} {H H1 : Hp}
theorem RepF.get : ∀ {fs : List (Str × D)} {xs : List (Str × V)} {f : Str} {d : D}, RepF K ι H fs xs → fs.lookup f = some d → ∃ v, xs.lookup f = some v ∧ Rep K ι H d v
  | [], _, _, _, _, h => by cases h
  | p :: fs, _, f, d, h, e => by
    unfold RepF at h
    obtain ⟨x, r, rfl, e2, e3⟩ := h
    rw [List.lookup_cons] at e
    cases hb : f == p.1 with
    | true =>
      rw [hb] at e
      cases e
      exact ⟨x, by rw [List.lookup_cons, hb], e2⟩
    | false =>
      rw [hb] at e
      obtain ⟨v, h1, h2⟩ := RepF.get e3 e
      exact ⟨v, by rw [List.lookup_cons, hb]; exact h1, h2⟩
theorem RepF.gone : ∀ {fs : List (Str × D)} {xs : List (Str × V)} {f : Str}, RepF K ι H fs xs → fs.lookup f = none → xs.lookup f = none
  | [], _, _, h, _ => by unfold RepF at h; subst h; rfl
  | p :: fs, _, f, h, e => by
    unfold RepF at h
    obtain ⟨x, r, rfl, e2, e3⟩ := h
    rw [List.lookup_cons] at e ⊢
    cases hb : f == p.1 with
    | true => rw [hb] at e; cases e
    | false => rw [hb] at e; exact RepF.gone e3 e
theorem RepF.length : ∀ {fs : List (Str × D)} {xs : List (Str × V)}, RepF K ι H fs xs → fs.length = xs.length
  | [], _, h => by unfold RepF at h; subst h; rfl
  | p :: fs, _, h => by
    unfold RepF at h
    obtain ⟨x, r, rfl, _, e3⟩ := h
    rw [List.length_cons, List.length_cons, RepF.length e3]
def putD (f : Str) (d : D) : List (Str × D) → List (Str × D)
  | [] => [(f, d)]
  | p :: r => if p.1 = f then (p.1, d) :: r else p :: putD f d r
theorem RepF.put {f : Str} {d : D} {v : V} (h2 : Rep K ι H d v) : ∀ {fs : List (Str × D)} {xs : List (Str × V)}, RepF K ι H fs xs → RepF K ι H (putD f d fs) (putF f v xs)
  | [], _, h => by
    unfold RepF at h
    subst h
    show RepF K ι H [(f, d)] [(f, v)]
    unfold RepF
    exact ⟨v, [], rfl, h2, by unfold RepF; rfl⟩
  | p :: fs, _, h => by
    unfold RepF at h
    obtain ⟨x, r, rfl, e2, e3⟩ := h
    unfold putD putF
    by_cases hp : p.1 = f
    · rw [if_pos hp, if_pos hp]
      unfold RepF
      exact ⟨v, r, rfl, h2, e3⟩
    · rw [if_neg hp, if_neg hp]
      unfold RepF
      exact ⟨x, _, rfl, e2, RepF.put h2 e3⟩
end
/-! ### o.f -/
def fFld (C : Addr) (f : Str) (o : D) (S : Sto) (Q : VKD) : Prop := match o with
  | .ref n => match S[n]? with
    | some (.ins C' fs) => C' = C ∧ match fs.lookup f with
      | some d => Q d S
      | none => False
    | _ => False
  | _ => False
def wFld (C : Addr) (f : Str) (wo : WE) : WE := fun σ S Q X => wo σ S (fun o S1 => fFld C f o S1 Q) X
def fSetF (C : Addr) (f : Str) (o d : D) (S : Sto) (Q : Sto → Prop) : Prop := match o with
  | .ref n => match S[n]? with
    | some (.ins C' fs) => C' = C ∧ fs.length < 1000 ∧ Q (S.set n (.ins C (putD f d fs)))
    | _ => False
  | _ => False
def wSetF (C : Addr) (f : Str) (wv wo : WE) : WS := fun D σ S X => wv σ S (fun d S1 => wo σ S1 (fun o S2 => fSetF C f o d S2 (D.nx σ)) X) X
section
variable {X : Cx} {E : XK} {o value : Expr} {f : Str} {pos pos' : Pos} {to tv : TE} {wo wv : WE} {C : Addr} {fl : List Str}
theorem je_fld {K : PySem.W.Frag} (ic : InsC K C fl) (hf : f ∈ fl) (ho : JE X E o to wo) (hb : attributeBase o f X.env (eval o X.env) = eval o X.env := by rfl) (hK : X.K = K := by rfl) : JE X E (.Attribute o f pos) (tFld K to f) (wFld C f wo) := by
  subst hK
  refine ⟨pe_fld ho.pe hb, ?_⟩
  intro ι σ H σD S Q XX Qh r s h l lx
  refine ho.ab ι σ H σD S _ XX _ r s h ?_ lx
  intro ι1 d1 S1 v1 H1 e1 r1 p1 h1
  unfold fFld at h1
  split at h1
  · rename_i n
    split at h1
    · rename_i C' fs hc
      obtain ⟨rfl, h1⟩ := h1
      obtain ⟨a, rfl, ha⟩ := rep_ref.mp p1
      obtain ⟨dx, xs, q1, q2⟩ := r1.cel n _ a hc ha
      split at h1
      · rename_i d hd
        obtain ⟨v, hv, rv⟩ := RepF.get q2 hd
        exact ⟨a, _, dx, xs, v, rfl, q1, ic.cl, ic.na f hf, hv, l ι1 d S1 v H1 e1 r1 rv h1⟩
      · exact h1.elim
    · exact h1.elim
  · exact h1.elim
theorem js_fld {K : PySem.W.Frag} (ic : InsC K C fl) (hf : f ∈ fl) (ho : JE X E o to wo) (hv : JE X E value tv wv) (hs : swapsWith value (some (.Attribute o f pos')) pos.line X.env = pure false := by rfl) (hK : X.K = K := by rfl) :
    JS X E (.Assign [.Attribute o f pos'] value pos) (sFld K to tv f) (wSetF C f wv wo) := by
  subst hK
  refine ⟨ps_fld ho.pe hv.pe hs, ?_⟩
  intro ι σ H σD S DA XX De r s h l lx
  refine hv.ab ι σ H σD S _ XX _ r s h ?_ lx
  intro ι1 d1 S1 v1 H1 e1 r1 p1 h1
  refine ho.ab ι1 σ H1 σD S1 _ XX _ r1 (s.mono e1) h1 ?_ (lx.ext e1)
  intro ι2 d2 S2 v2 H2 e2 r2 p2 h2
  unfold fSetF at h2
  split at h2
  · rename_i n
    split at h2
    · rename_i C' fs hc
      obtain ⟨rfl, hl, h2⟩ := h2
      obtain ⟨a, rfl, ha⟩ := rep_ref.mp p2
      obtain ⟨dx, xs, q1, q2⟩ := r2.cel n _ a hc ha
      have e3 : Ext X.K ι2 H2 ι2 (upd H2 a (.ins C' dx (putF f v1 xs))) := Ext.wr r2 (List.mem_of_getElem? ha) q1 True.intro
      refine ⟨a, _, dx, xs, rfl, q1, ic.cl, ic.na f hf, by rw [← RepF.length q2]; exact hl, ?_⟩
      exact l.nx ι2 σD _ σ _ ((e1.trans e2).trans e3) (r2.wr (c := .ins C' (putD f d1 fs)) ha q1 True.intro ⟨dx, _, upd_same, RepF.put (Rep.mono e3 _ _ (Rep.mono e2 _ _ p1)) (RepF.mono e3 _ _ q2)⟩) (s.mono ((e1.trans e2).trans e3)) h2
    · exact h2.elim
  · exact h2.elim
end
/-! ### o.m(..), C(..) -/
structure CalM (P : Program) (w : World) (K : PySem.W.Frag) (mg : Str → Option Value) (base : Heap) (k : Nat) (C : Addr) (m : Str) (a : ASp) : Prop where
  ex : ∃ f fd ps, FnOk P w K mg base (L2.CX P w) k f fd ps (spOf K a) ∧ Meth K C m f ∧ Binds K fd ps []
theorem CalM.mono {P w K mg base k C m a} (c : CalM P w K mg base k C m a) {j : Nat} (h : k ≤ j) : CalM P w K mg base j C m a :=
  let ⟨f, fd, ps, h1, h2⟩ := c.ex; ⟨f, fd, ps, h1.mono h, h2⟩
structure CalI (P : Program) (w : World) (K : PySem.W.Frag) (mg : Str → Option Value) (base : Heap) (k : Nat) (x : Str) (C : Addr) (a : ASp) : Prop where
  ex : ∃ f fd ps, FnOk P w K mg base (L2.CX P w) k f fd ps (spOf K a) ∧ Mk K C f ∧ mg x = some (.ref C) ∧ Binds K fd ps []
theorem CalI.mono {P w K mg base k x C a} (c : CalI P w K mg base k x C a) {j : Nat} (h : k ≤ j) : CalI P w K mg base j x C a :=
  let ⟨f, fd, ps, h1, h2⟩ := c.ex; ⟨f, fd, ps, h1.mono h, h2⟩
def insP (C : Addr) (m : Str) (o : D) (S : Sto) : Prop := match o with
  | .ref n => match S[n]? with
    | some (.ins C' fs) => C' = C ∧ fs.lookup m = none
    | _ => False
  | _ => False
def wMeth (C : Addr) (m : Str) (a : ASp) (wo : WE) (w : WA) : WE := fun σ S Q X => wo σ S (fun o S1 => insP C m o S1 ∧ w σ S1 (fun ds S2 => a (o :: ds) S2 Q X) X) X
def wMake (C : Addr) (a : ASp) (w : WA) : WE := fun σ S Q X => w σ S (fun ds S1 => a (.ref S1.length :: ds) (S1 ++ [.ins C []]) (fun d S2 => d = .non ∧ Q (.ref S1.length) S2) X) X
section
variable {X : Cx} {E : XK} {p pos apos : Pos} {o e : Expr} {es : List Expr} {to : TE} {t : TA} {wo : WE} {w : WA} {k : Nat} {x m : Str} {a : ASp} {C : Addr} {fl : List Str}
theorem insP_at {K : PySem.W.Frag} {ι : Ad} {H : Hp} {S : Sto} (r : RelS K ι S H) {d : D} {v : V} (h : Rep K ι H d v) (i : insP C m d S) : ∃ b dx xs, v = .ref b ∧ H b = some (.ins C dx xs) ∧ xs.lookup m = none := by
  unfold insP at i
  split at i
  · rename_i n
    split at i
    · rename_i C' fs hc
      obtain ⟨rfl, i⟩ := i
      obtain ⟨b, rfl, hb⟩ := rep_ref.mp h
      obtain ⟨dx, xs, q1, q2⟩ := r.cel n _ b hc hb
      exact ⟨b, dx, xs, rfl, q1, RepF.gone q2 i⟩
    · exact i.elim
  · exact i.elim
theorem je_meth {K : PySem.W.Frag} {pl : Sem Bool} (ic : InsC K C fl) (c : CalM X.prog X.w K X.mg X.base k C m a) (hr : Room k X.A) (hx : Passes (L2.CX X.prog X.w) X E) (ho : JE X E o to wo) (ha : JA X E (e :: es) t w)
    (hst : starEach (e :: es) X.env = (false, eval e X.env) :: starEach es X.env := by rfl) (hpl : (backTo pos (starEach es X.env)).any (·.1) = false := by rfl)
    (ht : eval (.Call (.Attribute o m apos) (e :: es) [] pos) X.env = (do
      let ov ← eval o X.env
      standAt apos.atName
      let (f, first) ← holding [ov] (getMethod ov m pl)
      callWith pos f first (backTo pos (starEach (e :: es) X.env)) (backToKw pos (keywordEach [] X.env))) := by rfl) (hK : X.K = K := by rfl) :
    JE X E (.Call (.Attribute o m apos) (e :: es) [] pos) (tMeth C m (spOf K a) [] E to t) (wMeth C m a wo w) := by
  subst hK
  obtain ⟨f, fd, ps, F, hm, hb⟩ := c.ex
  refine ⟨pe_meth ho.pe ic.cl hm F hr hb .nil hx ha.pe hst hpl ht, ?_⟩
  intro ι σ H σD S Q XX Qh r s h l lx
  refine ho.ab ι σ H σD S _ XX _ r s h ?_ lx
  intro ι1 d1 S1 v1 H1 e1 r1 p1 h1
  obtain ⟨i1, h1⟩ := h1
  obtain ⟨b, dx, xs, rfl, q1, q2⟩ := insP_at r1 p1 i1
  refine ⟨b, dx, xs, rfl, q1, q2, ?_⟩
  refine ha.ab ι1 σ H1 σD S1 _ XX _ r1 (s.mono e1) h1 ?_ (lx.ext e1)
  intro ι2 ds S2 vs H2 e2 r2 p2 h2
  exact ⟨ι2, d1 :: ds, S2, Q, XX, r2, by rw [List.append_nil]; exact RepL.cons (Rep.mono e2 _ _ p1) p2, h2, l.ext (e1.trans e2), lx.ext (e1.trans e2)⟩
theorem je_meth0 {K : PySem.W.Frag} {pl : Sem Bool} (ic : InsC K C fl) (c : CalM X.prog X.w K X.mg X.base k C m a) (hr : Room k X.A) (hx : Passes (L2.CX X.prog X.w) X E) (ho : JE X E o to wo)
    (ht : eval (.Call (.Attribute o m apos) [] [] pos) X.env = (do
      let ov ← eval o X.env
      standAt apos.atName
      let (f, first) ← holding [ov] (getMethod ov m pl)
      callWith pos f first (backTo pos (starEach [] X.env)) (backToKw pos (keywordEach [] X.env))) := by rfl) (hK : X.K = K := by rfl) :
    JE X E (.Call (.Attribute o m apos) [] [] pos) (tMeth C m (spOf K a) [] E to tNil) (wMeth C m a wo wNil) := by
  subst hK
  obtain ⟨f, fd, ps, F, hm, hb⟩ := c.ex
  refine ⟨pe_meth0 ho.pe ic.cl hm F hr hb .nil hx ht, ?_⟩
  intro ι σ H σD S Q XX Qh r s h l lx
  refine ho.ab ι σ H σD S _ XX _ r s h ?_ lx
  intro ι1 d1 S1 v1 H1 e1 r1 p1 h1
  obtain ⟨i1, h1⟩ := h1
  obtain ⟨b, dx, xs, rfl, q1, q2⟩ := insP_at r1 p1 i1
  exact ⟨b, dx, xs, rfl, q1, q2, ι1, [d1], S1, Q, XX, r1, RepL.cons p1 RepL.nil, h1, l.ext e1, lx.ext e1⟩
theorem make_of {K : PySem.W.Frag} {ι ι1 : Ad} {H H1 : Hp} {S1 : Sto} {ds : List D} {vs : List V} {Q : VKD} {XX : XKD} {Qh : VK} {E : XK} (e1 : Ext K ι H ι1 H1) (r1 : RelS K ι1 S1 H1) (p1 : RepL K ι1 H1 ds vs)
    (h1 : a (.ref S1.length :: ds) (S1 ++ [.ins C []]) (fun d S2 => d = .non ∧ Q (.ref S1.length) S2) XX) (l : LkE K ι H Q Qh) (lx : LkX K ι H XX E) (x dx : Addr) (hx : H1 x = none) (hd : H1 dx = none) (ne : dx ≠ x) :
    spOf K a (.ref x :: (vs ++ [])) (upd (upd H1 dx (.own x)) x (.ins C dx [])) (fun v H2 => v = .non ∧ Qh (.ref x) H2) E := by
  have r2 := r1.new (o := .own x) hd
  have e2 := Ext.new (o := .own x) r1 hd
  have hx2 : upd H1 dx (.own x) x = none := by rw [upd_ne (Ne.symm ne)]; exact hx
  have e3 := Ext.cell (o := .ins C dx []) r2 hx2
  have r3 := r2.cell (c := .ins C []) (o := .ins C dx []) hx2 ⟨dx, [], upd_same, by unfold RepF; rfl⟩
  have gx : (ι1.add x).cells[S1.length]? = some x := by
    show (ι1.cells ++ [x])[S1.length]? = some x
    rw [List.getElem?_append_right (by rw [r1.len]; exact Nat.le_refl _), r1.len, Nat.sub_self]
    rfl
  refine ⟨ι1.add x, .ref S1.length :: ds, S1 ++ [.ins C []], _, XX, r3, RepL.cons (rep_ref.mpr ⟨x, rfl, gx⟩) (by rw [List.append_nil]; exact RepL.mono (e2.trans e3) _ _ p1), h1, ?_, lx.ext ((e1.trans e2).trans e3)⟩
  intro ι' d S' v H' e' r' p' hq
  obtain ⟨rfl, hq⟩ := hq
  exact ⟨rep_non.mp p', l ι' (.ref S1.length) S' (.ref x) H' (((e1.trans e2).trans e3).trans e') r' (rep_ref.mpr ⟨x, rfl, e'.toExt0.get gx⟩) hq⟩
theorem je_make {K : PySem.W.Frag} (c : CalI X.prog X.w K X.mg X.base k x C a) (hr : Room (k + 1) X.A) (hx : Passes (L2.CX X.prog X.w) X E) (ha : JA X E (e :: es) t w) (hg : Gl X x := by rfl) (hdb : (x == ("__debug__" : Str)) = false := by decide)
    (he : starEach (e :: es) X.env = (false, eval e X.env) :: starEach es X.env := by rfl) (hpl : (backTo pos (starEach es X.env)).any (·.1) = false := by rfl) (hK : X.K = K := by rfl) :
    JE X E (.Call (.Name x p) (e :: es) [] pos) (tMake C (spOf K a) [] E t) (wMake C a w) := by
  subst hK
  obtain ⟨f, fd, ps, F, M, hm, hb⟩ := c.ex
  refine ⟨pe_make M F hr hg hm hb .nil hx ha.pe hdb he hpl, ?_⟩
  intro ι σ H σD S Q XX Qh r s h l lx
  refine ha.ab ι σ H σD S _ XX _ r s h ?_ lx
  intro ι1 ds S1 vs H1 e1 r1 p1 h1
  exact fun x dx nx nd ne => make_of e1 r1 p1 h1 l lx x dx nx nd ne
theorem je_make0 {K : PySem.W.Frag} (c : CalI X.prog X.w K X.mg X.base k x C a) (hr : Room (k + 1) X.A) (hx : Passes (L2.CX X.prog X.w) X E) (hg : Gl X x := by rfl) (hdb : (x == ("__debug__" : Str)) = false := by decide) (hK : X.K = K := by rfl) :
    JE X E (.Call (.Name x p) [] [] pos) (tMake C (spOf K a) [] E tNil) (wMake C a wNil) := by
  subst hK
  obtain ⟨f, fd, ps, F, M, hm, hb⟩ := c.ex
  refine ⟨pe_make0 M F hr hg hm hb .nil hx hdb, ?_⟩
  intro ι σ H σD S Q XX Qh r s h l lx
  exact fun x dx nx nd ne => make_of Ext.refl r RepL.nil h l lx x dx nx nd ne
end
/-! ### xs.pop() -/
def fPop (o : D) (S : Sto) (Q : VKD) : Prop := match o with
  | .ref n => match S[n]? with
    | some (.lst ds) => match ds[ds.length - 1]? with
      | some d => Q d (S.set n (.lst ds.dropLast))
      | none => False
    | _ => False
  | _ => False
def wPop (wo : WE) : WE := fun σ S Q X => wo σ S (fun o S1 => fPop o S1 Q) X
theorem RepL.dropLast {K : PySem.W.Frag} {ι : Ad} {H : Hp} {ds : List D} {xs : List V} (h : RepL K ι H ds xs) : RepL K ι H ds.dropLast xs.dropLast := by
  rw [List.dropLast_eq_take, List.dropLast_eq_take, ← RepL.length h]
  exact RepL.take _ h
section
variable {X : Cx} {E : XK} {pos apos : Pos} {o : Expr} {to : TE} {wo : WE}
theorem je_pop {K : PySem.W.Frag} (ho : JE X E o to wo) (hbase : attributeBase o "pop" X.env (eval o X.env) = eval o X.env := by rfl) (hline : (apos.endLine == pos.line) = true := by rfl) (hK : X.K = K := by rfl) :
    JE X E (.Call (.Attribute o "pop" apos) [] [] pos) (tBM0 K "list" rPop to) (wPop wo) := by
  subst hK
  refine ⟨pe_bm0 PySem.F.plainAttrs_list PySem.F.slot_list_pop PySem.F.type_list_pop mt_pop ho.pe hbase hline, ?_⟩
  intro ι σ H σD S Q XX Qh r s h l lx
  refine ho.ab ι σ H σD S _ XX _ r s h ?_ lx
  intro ι1 d1 S1 v1 H1 e1 r1 p1 h1
  unfold fPop at h1
  split at h1
  · rename_i n
    split at h1
    · rename_i ds hc
      split at h1
      · rename_i d hd
        obtain ⟨a, rfl, ha⟩ := rep_ref.mp p1
        obtain ⟨xs, q1, q2⟩ := r1.cel n _ a hc ha
        obtain ⟨y, hy, ry⟩ := RepL.get q2 hd
        have e2 : Ext X.K ι1 H1 ι1 (upd H1 a (.lst xs.dropLast)) := Ext.wr r1 (List.mem_of_getElem? ha) q1 True.intro
        refine ⟨.inl ⟨rfl, xs, SqL.of q1⟩, a, xs, y, rfl, rfl, q1, by rw [← RepL.length q2]; exact hy, ?_⟩
        exact l ι1 d _ y _ (e1.trans e2) (r1.wr (c := .lst ds.dropLast) ha q1 True.intro ⟨_, upd_same, RepL.mono e2 _ _ (RepL.dropLast q2)⟩) (Rep.mono e2 _ _ ry) h1
      · exact h1.elim
    · exact h1.elim
  · exact h1.elim
end
/-! ### o.f op= e, o[i] op= e (ints) -/
def wAugF (C : Addr) (f : Str) (g : Int → Int → Int) (wo wv : WE) : WS := fun D σ S X => wo σ S (fun o S1 => fFld C f o S1 (fun d _ => wv σ S1 (fun y S2 => match d, y with
  | .int i, .int j => fSetF C f o (.int (g i j)) S2 (D.nx σ)
  | _, _ => False) X)) X
def fIxL : D → D → Sto → VKD → Prop := fun x y S Q => match x, y with
  | .ref n, .int i => 0 ≤ i ∧ match S[n]? with
    | some (.lst ds) => match ds[i.toNat]? with
      | some d => Q d S
      | none => False
    | _ => False
  | _, _ => False
def wAugS (wo wi : WE) (f : F2) (we : WE) : WS := fun D σ S X => wo σ S (fun o S1 => wi σ S1 (fun i S2 => fIxL o i S2 (fun x S3 => we σ S3 (fun y S4 => f x y S4 (fun z S5 => fPut o i z S5 (D.nx σ)) X) X)) X) X
section
variable {X : Cx} {E : XK} {o i e value : Expr} {f : Str} {pos pos' tpos : Pos} {to ti te tv : TE} {wo wi we wv : WE} {C : Addr} {fl : List Str}
theorem js_augF {K : PySem.W.Frag} {op : Operator} {g : Int → Int → Int} {rd : V → V → Hp → VK → Prop} (hrd : ∀ x y H Q, (∃ i j, x = V.int i ∧ y = V.int j ∧ Q (.int (g i j)) H) → rd x y H Q) (hop : InOp X op rd) (ic : InsC K C fl) (hf : f ∈ fl) (ho : JE X E o to wo) (hv : JE X E value tv wv) (hK : X.K = K := by rfl) :
    JS X E (.AugAssign (.Attribute o f tpos) op value pos) (sFldAug K to tv rd f) (wAugF C f g wo wv) := by
  subst hK
  refine ⟨ps_fldaug ho.pe hv.pe hop, ?_⟩
  intro ι σ H σD S DA XX De r s h l lx
  refine ho.ab ι σ H σD S _ XX _ r s h ?_ lx
  intro ι1 d1 S1 v1 H1 e1 r1 p1 h1
  unfold fFld at h1
  split at h1
  · rename_i n
    split at h1
    · rename_i C' fs hc
      obtain ⟨rfl, h1⟩ := h1
      obtain ⟨a, rfl, ha⟩ := rep_ref.mp p1
      obtain ⟨dx, xs, q1, q2⟩ := r1.cel n _ a hc ha
      split at h1
      · rename_i d hd
        obtain ⟨v, hv', rv⟩ := RepF.get q2 hd
        refine ⟨a, _, dx, xs, v, rfl, q1, ic.cl, ic.na f hf, hv', ?_⟩
        refine hv.ab ι1 σ H1 σD S1 _ XX _ r1 (s.mono e1) h1 ?_ (lx.ext e1)
        intro ι2 y S2 u H2 e2 r2 p2 h2
        cases d <;> cases y <;> try exact h2.elim
        rename_i i j
        refine hrd _ _ _ _ ⟨i, j, rep_int.mp rv, rep_int.mp p2, ?_⟩
        replace h2 : fSetF C' f (.ref n) (.int (g i j)) S2 (DA.nx σD) := h2
        unfold fSetF at h2
        dsimp only at h2
        split at h2
        · rename_i C2 fs2 hc2
          obtain ⟨rfl, hl2, h2⟩ := h2
          have ha2 : ι2.cells[n]? = some a := e2.toExt0.get ha
          obtain ⟨dx2, xs2, q3, q4⟩ := r2.cel n _ a hc2 ha2
          have e3 : Ext X.K ι2 H2 ι2 (upd H2 a (.ins C2 dx2 (putF f (.int (g i j)) xs2))) := Ext.wr r2 (List.mem_of_getElem? ha2) q3 True.intro
          refine ⟨dx2, xs2, q3, by rw [← RepF.length q4]; exact hl2, ?_⟩
          exact l.nx ι2 σD _ σ _ ((e1.trans e2).trans e3) (r2.wr (c := .ins C2 (putD f (.int (g i j)) fs2)) ha2 q3 True.intro ⟨dx2, _, upd_same, RepF.put (rep_int.mpr rfl) (RepF.mono e3 _ _ q4)⟩) (s.mono ((e1.trans e2).trans e3)) h2
        · exact h2.elim
      · exact h1.elim
    · exact h1.elim
  · exact h1.elim
theorem js_addF {K : PySem.W.Frag} (ic : InsC K C fl) (hf : f ∈ fl) (ho : JE X E o to wo) (hv : JE X E value tv wv) (hK : X.K = K := by rfl) : JS X E (.AugAssign (.Attribute o f tpos) .Add value pos) (sFldAug K to tv rAdd f) (wAugF C f (fun i j => i + j) wo wv) :=
  js_augF (fun _ _ _ _ h => h) in_add ic hf ho hv hK
/-- o[i] of a list that is a cell, at an index that is not negative -/
def rGetL : V → V → Hp → VK → Prop := fun x y H Q => ∃ p xs i v, x = .ref p ∧ y = .int i ∧ H p = some (.lst xs) ∧ 0 ≤ i ∧ xs[i.toNat]? = some v ∧ Q v H
theorem get_list : PGet X rGetL := by
  intro pins s σ H o i ov iv Q I ro ri h
  obtain ⟨p, xs, k, v, rfl, rfl, hp, h0, hv, q⟩ := h
  cases ro
  obtain ⟨t, rfl⟩ := ri
  obtain ⟨its, r, pl, hz⟩ := I.list (SqL.of hp)
  obtain ⟨w, ew, rw'⟩ := r.get hv
  have hn := line63
  have hlt : k.toNat < xs.length := (List.getElem?_eq_some_iff.mp hv).1
  have hl := r.length
  exact wpAny_getItem_list pl.isList h0 (by omega) (by simpa using ew) ⟨v, H, I, rw', q⟩
theorem js_augS {op : Operator} {tip : TIp} {f : F2} (ho : JE X E o to wo) (hi : JE X E i ti wi) (he : JE X E e te we) (hp : PIp X op tip) (hf2 : AbsR2 X.K E tip f)
    (ha : ∀ ov iv new, augStore i ov iv new = (do holding [new, ov, iv] (setItem ov iv new); release [new, ov, iv] []; pure .next) := by intros; rfl) :
    JS X E (.AugAssign (.Subscript o i tpos) op e pos) (tAugS to ti te rGetL tip rSetL) (wAugS wo wi f we) := by
  refine ⟨ps_augS ho.pe hi.pe get_list he.pe hp set_list ha, ?_⟩
  intro ι σ H σD S DA XX De r s h l lx
  refine ho.ab ι σ H σD S _ XX _ r s h ?_ lx
  intro ι1 d1 S1 v1 H1 e1 r1 p1 h1
  refine hi.ab ι1 σ H1 σD S1 _ XX _ r1 (s.mono e1) h1 ?_ (lx.ext e1)
  intro ι2 d2 S2 v2 H2 e2 r2 p2 h2
  unfold fIxL at h2
  split at h2
  · rename_i n k
    obtain ⟨h0, h2⟩ := h2
    split at h2
    · rename_i ds hc
      split at h2
      · rename_i d hd
        obtain ⟨a, rfl, ha1⟩ := rep_ref.mp (Rep.mono e2 _ _ p1)
        obtain ⟨xs, q1, q2⟩ := r2.cel n _ a hc ha1
        obtain ⟨y, hy, ry⟩ := RepL.get q2 hd
        refine ⟨a, xs, k, y, rfl, rep_int.mp p2, q1, h0, hy, ?_⟩
        have e12 := e1.trans e2
        refine he.ab ι2 σ H2 σD S2 _ XX _ r2 (s.mono e12) h2 ?_ (lx.ext e12)
        intro ι3 d3 S3 v3 H3 e3 r3 p3 h3
        refine hf2 ι3 H3 S3 d d3 y v3 _ XX _ r3 (Rep.mono e3 _ _ ry) p3 h3 ?_ (lx.ext (e12.trans e3))
        intro ι4 d4 S4 v4 H4 e4 r4 p4 h4
        have e34 := e3.trans e4
        have e14 := e12.trans e34
        unfold fPut at h4
        dsimp only at h4
        split at h4
        · rename_i ds4 hc4
          split at h4
          · rename_i j hj
            have ha4 : ι4.cells[n]? = some a := e34.toExt0.get ha1
            obtain ⟨xs4, q3, q4⟩ := r4.cel n _ a hc4 ha4
            have e5 : Ext X.K ι4 H4 ι4 (upd H4 a (.lst (xs4.set j v4))) := Ext.wr r4 (List.mem_of_getElem? ha4) q3 True.intro
            refine ⟨a, xs4, k, j, rfl, rep_int.mp p2, q3, by rw [← RepL.length q4]; exact hj, ?_⟩
            exact l.nx ι4 σD _ σ _ (e14.trans e5) (r4.wr (c := .lst (ds4.set j d4)) ha4 q3 True.intro ⟨_, upd_same, RepL.set j (RepL.mono e5 _ _ q4) (Rep.mono e5 _ _ p4)⟩) (s.mono (e14.trans e5)) h4
          · exact h4.elim
        · exact h4.elim
      · exact h2.elim
    · exact h2.elim
  · exact h2.elim
end
/-! ### the walk's lemmas -/
theorem ax_fld {C : Addr} {f : Str} {wo : WE} {σ : ASt} {S : Sto} {Q : VKD} {X : XKD} : wFld C f wo σ S Q X = wo σ S (fun o S1 => fFld C f o S1 (Lz Q .mk)) X := id rfl
theorem ax_setf {C : Addr} {f : Str} {wv wo : WE} {D0 : AE} {σ : ASt} {S : Sto} {X : XKD} : wSetF C f wv wo D0 σ S X = wv σ S (fun d S1 => wo σ S1 (fun o S2 => fSetF C f o d S2 (Lz (D0.nx σ) .mk)) X) X := id rfl
theorem ax_meth {C : Addr} {m : Str} {a : ASp} {wo : WE} {w : WA} {σ : ASt} {S : Sto} {Q : VKD} {X : XKD} : wMeth C m a wo w σ S Q X = wo σ S (fun o S1 => insP C m o S1 ∧ Lz (w σ S1 (fun ds S2 => a (o :: ds) S2 (Lz Q .mk) X) X) .mk) X := id rfl
theorem ax_make {C : Addr} {a : ASp} {w : WA} {σ : ASt} {S : Sto} {Q : VKD} {X : XKD} : wMake C a w σ S Q X = w σ S (fun ds S1 => a (.ref S1.length :: ds) (S1 ++ [.ins C []]) (fun d S2 => d = .non ∧ (Lz Q .mk) (.ref S1.length) S2) X) X := id rfl
theorem ax_pop {wo : WE} {σ : ASt} {S : Sto} {Q : VKD} {X : XKD} : wPop wo σ S Q X = wo σ S (fun o S1 => fPop o S1 (Lz Q .mk)) X := id rfl
theorem ax_augf {C : Addr} {f : Str} {g : Int → Int → Int} {wo wv : WE} {D0 : AE} {σ : ASt} {S : Sto} {X : XKD} : wAugF C f g wo wv D0 σ S X = wo σ S (fun o S1 => fFld C f o S1 (Lz (fun d _ => wv σ S1 (fun y S2 => match d, y with
  | .int i, .int j => fSetF C f o (.int (g i j)) S2 (Lz (D0.nx σ) .mk)
  | _, _ => False) X) .mk)) X := id rfl
theorem ax_augs {wo wi we : WE} {f : F2} {D0 : AE} {σ : ASt} {S : Sto} {X : XKD} : wAugS wo wi f we D0 σ S X = wo σ S (fun o S1 => wi σ S1 (fun i S2 => fIxL o i S2 (Lz (fun x S3 => we σ S3 (fun y S4 => f x y S4 (Lz (fun z S5 => fPut o i z S5 (Lz (D0.nx σ) .mk)) .mk) X) X) .mk)) X) X := id rfl
section
variable {S : Sto} {n : Nat} {C : Addr} {fs : List (Str × D)} {ds : List D}
theorem ref_ixl (h : S[n]? = some (.lst ds)) {k : Int} (h0 : 0 ≤ k) {d : D} (hd : ds[k.toNat]? = some d) {Q : VKD} : fIxL (.ref n) (.int k) S Q = Q d S := by
  have e : fIxL (.ref n) (.int k) S Q = (0 ≤ k ∧ Q d S) := by simp only [fIxL, h, hd]
  rw [e]
  exact propext ⟨fun z => z.2, fun z => ⟨h0, z⟩⟩
theorem ins_fld (h : S[n]? = some (.ins C fs)) {f : Str} {d : D} (hf : fs.lookup f = some d) {Q : VKD} : fFld C f (.ref n) S Q = Q d S := by
  have e : fFld C f (.ref n) S Q = (C = C ∧ Q d S) := by simp only [fFld, h, hf]
  rw [e]
  exact propext ⟨fun z => z.2, fun z => ⟨rfl, z⟩⟩
theorem ins_set (h : S[n]? = some (.ins C fs)) {f : Str} {d : D} (hl : fs.length < 1000) {Q : Sto → Prop} : fSetF C f (.ref n) d S Q = Q (S.set n (.ins C (putD f d fs))) := by
  have e : fSetF C f (.ref n) d S Q = (C = C ∧ fs.length < 1000 ∧ Q (S.set n (.ins C (putD f d fs)))) := by simp only [fSetF, h]
  rw [e]
  exact propext ⟨fun z => z.2.2, fun z => ⟨rfl, hl, z⟩⟩
theorem ins_p (h : S[n]? = some (.ins C fs)) {m : Str} (hm : fs.lookup m = none) : insP C m (.ref n) S := by
  have e : insP C m (.ref n) S = (C = C ∧ fs.lookup m = none) := by simp only [insP, h]
  rw [e]
  exact ⟨rfl, hm⟩
theorem ref_pop (h : S[n]? = some (.lst ds)) {d : D} (hd : ds[ds.length - 1]? = some d) {Q : VKD} : fPop (.ref n) S Q = Q d (S.set n (.lst ds.dropLast)) := by simp only [fPop, h, hd]
end
end AW
/-! AW27: defs as values; a call of a local that holds one of several defs. -/
namespace AW
open PySem PySem.Spec PyProof.Rows L2
/-- a def at its address -/
structure CalA (P : Program) (w : World) (K : PySem.W.Frag) (mg : Str → Option Value) (base : Heap) (k : Nat) (f : Addr) (a : ASp) : Prop where
  ex : ∃ fd ps, FnOk P w K mg base (L2.CX P w) k f fd ps (spOf K a) ∧ PySem.W.keepIn K (.ref f) = true ∧ Binds K fd ps []
theorem CalA.mono {P w K mg base k f a} (c : CalA P w K mg base k f a) {j : Nat} (h : k ≤ j) : CalA P w K mg base j f a :=
  let ⟨fd, ps, h1, h2⟩ := c.ex; ⟨fd, ps, h1.mono h, h2⟩
theorem CalA.of {P w K mg base k x a} (c : Cal P w K mg base k x a) {f : Addr} (hm : mg x = some (.ref f)) : CalA P w K mg base k f a := by
  obtain ⟨f', fd, ps, h1, h2, h3, h4⟩ := c.ex
  rw [hm] at h2
  cases h2
  exact ⟨fd, ps, h1, h3, h4⟩
abbrev FTab := List (Addr × ASp)
def TabOk (P : Program) (w : World) (K : PySem.W.Frag) (mg : Str → Option Value) (base : Heap) (k : Nat) (tab : FTab) : Prop := ∀ p ∈ tab, CalA P w K mg base k p.1 p.2
theorem TabOk.nil {P w K mg base k} : TabOk P w K mg base k [] := fun _ h => absurd h List.not_mem_nil
theorem TabOk.cons {P w K mg base k f a tab} (c : CalA P w K mg base k f a) (t : TabOk P w K mg base k tab) : TabOk P w K mg base k ((f, a) :: tab) := fun p h => by
  rcases List.mem_cons.mp h with rfl | h
  · exact c
  · exact t p h
theorem TabOk.mono {P w K mg base k tab} (t : TabOk P w K mg base k tab) {j : Nat} (h : k ≤ j) : TabOk P w K mg base j tab := fun p q => (t p q).mono h
section
variable {X : Cx} {E : XK} {p pos : Pos} {e : Expr} {es : List Expr} {t : TA} {w : WA} {k i : Nat} {x : Str}
/-- a def's name as a value -/
theorem je_globF {f : Addr} (hm : X.mg x = some (.ref f)) (hg : Gl X x := by rfl) (hd : (x == ("__debug__" : Str)) = false := by decide) : JE X E (.Name x pos) (tC (.ref f)) (wC (.exc f)) :=
  ⟨pe_glob (v := .ref f) hg hm rfl hd, fun ι σ H σD S Q XX Qh r s h l lx => l ι (.exc f) S (.ref f) H Ext.refl r (by unfold Rep; rfl) h⟩
def tCallV (K : PySem.W.Frag) (i : Nat) (tab : FTab) (E : XK) (t : TA) : TE := fun σ H Q => ∃ p ∈ tab, σ[i]? = some (some (.ref p.1)) ∧ t σ H fun vs H1 => spOf K p.2 vs H1 Q E
def wCallV (i : Nat) (tab : FTab) (w : WA) : WE := fun σ S Q X => ∃ p ∈ tab, σ[i]? = some (some (.exc p.1)) ∧ w σ S (fun ds S1 => p.2 ds S1 Q X) X
theorem je_callV {K : PySem.W.Frag} {tab : FTab} (i : Nat) (cs : TabOk X.prog X.w K X.mg X.base k tab) (hr : Room k X.A) (hx : Passes (L2.CX X.prog X.w) X E) (ha : JA X E (e :: es) t w) (hN : X.N[i]? = some x := by rfl)
    (hv : Vis X.env.scope x := by first | exact Or.inl rfl | exact Or.inr (Or.inl rfl) | exact Or.inr (Or.inr rfl)) (hdb : (x == ("__debug__" : Str)) = false := by decide) (hcd : (x == ("__classdict__" : Str)) = false := by decide)
    (he : starEach (e :: es) X.env = (false, eval e X.env) :: starEach es X.env := by rfl) (hpl : (backTo pos (starEach es X.env)).any (·.1) = false := by rfl) (hK : X.K = K := by rfl) :
    JE X E (.Call (.Name x p) (e :: es) [] pos) (tCallV K i tab E t) (wCallV i tab w) := by
  subst hK
  refine ⟨⟨fun pins s σ H Q I h => ?_⟩, ?_⟩
  · obtain ⟨q, hq, hs, ht⟩ := h
    obtain ⟨fd, ps, F, hk, hb⟩ := (cs q hq).ex
    refine (pe_callL (i := i) (f := q.1) (sp := spOf X.K q.2) (dvs := []) (E := E) F hr hN hv hk hb .nil hx ha.pe hdb hcd he hpl).run pins s σ H Q I ⟨hs, ?_⟩
    have e0 : (fun (vs : List V) (H1 : Hp) => spOf X.K q.2 (vs ++ []) H1 Q E) = fun vs H1 => spOf X.K q.2 vs H1 Q E := by
      funext vs H1
      rw [List.append_nil]
    show t σ H (fun vs H1 => spOf X.K q.2 (vs ++ []) H1 Q E)
    rw [e0]
    exact ht
  · intro ι σ H σD S Q XX Qh r s h l lx
    obtain ⟨q, hq, hs, h⟩ := h
    obtain ⟨v, hv1, hv2⟩ := s.2 i _ hs
    have hv2 : v = .ref q.1 := by unfold Rep at hv2; exact hv2
    subst hv2
    refine ⟨q, hq, hv1, ?_⟩
    refine ha.ab ι σ H σD S _ XX _ r s h ?_ lx
    intro ι1 ds S1 vs H1 e1 r1 p1 h1
    exact ⟨ι1, ds, S1, Q, XX, r1, p1, h1, l.ext e1, lx.ext e1⟩
end
end AW
/-! AW28: the law's end over a head by facts (for tops that are too large for k_head). -/
namespace AW
open PySem PySem.Spec PyProof.Rows L2
theorem walk_seeE {l : PySem.W.OpenLaw} {n k : Nat} {q : Program} {loose : List Str} {XP : (Str → Option Value) → Heap → Prop} {YP : World → Heap → Prop} {d : DefRec} {x : Str} (hn : l.most = some n) (hn2 : n ≤ sizeLine) (hdf : d.params.defaults = [])
    (hr : Room k callerA) (hi : importsNone q = true)
    (F : ∀ (w : World) (mg : Str → Option Value) (fa : Addr) (h : Heap), YP w h → h.Ns mainGlobals mg → mg d.name = some (.ref fa) → ∃ (K : PySem.W.Frag) (fd : FuncData) (sp : Sp), K.In h ∧ (∀ (s : Shared) (u : Value), BindsTo s fd ⟨[u], []⟩ [(x, u)]) ∧
      (∀ (H : Hp) (a : Addr) (ns : List Int), ns.length ≤ n → Only H → SqL K H a (ns.map V.int) → sp [.ref a] H (fun v _ => v = .bl true) fun _ _ _ => False) ∧
      ∀ base : Heap, K.In base → base.Ns mainGlobals mg → base.NoSeer → FnOk l.prog w K mg base (L2.CX l.prog w) k fa fd [x] sp) :
    PySem.W.WalkO q loose XP YP l.row.toRowW d [] (fun f vs => PySem.call f vs) := by
  refine Att.attach_call hn hdf fun w s0 s1 mg mb fa o pm cd doc a vs ns G Y ho hd hcd hmg there ia sz ge => ?_
  obtain ⟨K, fd, sp, KX, hb, hsp, hF⟩ := F w mg fa _ Y G.T.g hmg
  exact law_see KX G.T.g G.T.b G.T.builtins G.T.nolimit (G.T.seer hi) ge there ia (Nat.le_trans sz hn2) hr hF hb fun H only sq => hsp H a ns sz only sq
/-! ### a Hook of facts of one's own -/
abbrev AlM : Type := Bool × List He.FnV
def obsM (fb : List (PySem.W.Frag → Bool)) (fn : List He.FnD) (K : PySem.W.Frag) : AlM := ((fb.all fun f => f K) && fn.all fun d => (He.Fa.code d.at_ d.qual).ok K, fn.map fun d => He.fnObs K d.at_)
def SaysM (fb : List (PySem.W.Frag → Bool)) (fn : List He.FnD) (K : PySem.W.Frag) : Prop := obsM fb fn K = He.valE fn
def obsMG (n : Nat) (fb : List (PySem.W.Frag → Bool)) (fn : List He.FnD) (g : Addr → Option Obj) : AlM := obsM fb fn (He.frG g (He.asG g n))
def hookM (n : Nat) (fb : List (PySem.W.Frag → Bool)) (fn : List He.FnD) : PySem.W.Hook where
  α := AlM
  obs := fun s => obsMG n fb fn s.heap.get?
  val := fun _ => He.valE fn
  says := fun _ h => ∃ K : PySem.W.Frag, K.In h ∧ SaysM fb fn K
  of := fun _ _ e => ⟨_, He.frG_in, e⟩
  keeps := fun _ _ _ ⟨K, hK, c⟩ k => ⟨K, PySem.W.Frag.In.keeps hK k, c⟩
/-- the same over a list of addresses -/
def obsMA (as : List Addr) (fb : List (PySem.W.Frag → Bool)) (fn : List He.FnD) (g : Addr → Option Obj) : AlM := obsM fb fn (He.frG g as)
def hookA (as : List Addr) (fb : List (PySem.W.Frag → Bool)) (fn : List He.FnD) : PySem.W.Hook where
  α := AlM
  obs := fun s => obsMA as fb fn s.heap.get?
  val := fun _ => He.valE fn
  says := fun _ h => ∃ K : PySem.W.Frag, K.In h ∧ SaysM fb fn K
  of := fun _ _ e => ⟨_, He.frG_in, e⟩
  keeps := fun _ _ _ ⟨K, hK, c⟩ k => ⟨K, PySem.W.Frag.In.keeps hK k, c⟩
theorem obsMA_eq {as : List Addr} {fb : List (PySem.W.Frag → Bool)} {fn : List He.FnD} {g : Addr → Option Obj} {s : Shared} (h : ∀ a, g a = s.heap.get? a) : obsMA as fb fn g = (hookA as fb fn).obs s := by
  have e : g = s.heap.get? := funext h
  rw [e] <;> rfl
theorem obsMG_eq {n : Nat} {fb : List (PySem.W.Frag → Bool)} {fn : List He.FnD} {g : Addr → Option Obj} {s : Shared} (h : ∀ a, g a = s.heap.get? a) : obsMG n fb fn g = (hookM n fb fn).obs s := by
  have e : g = s.heap.get? := funext h
  rw [e] <;> rfl
section
variable {fb : List (PySem.W.Frag → Bool)} {fn : List He.FnD} {K : PySem.W.Frag}
theorem SaysM.fact (c : SaysM fb fn K) (i : Nat) {f : PySem.W.Frag → Bool} (h : fb[i]? = some f := by rfl) : f K = true := by
  have c1 := (He.ba (show ((fb.all fun f => f K) && fn.all fun d => (He.Fa.code d.at_ d.qual).ok K) = true from congrArg (fun z : AlM => z.1) c)).1
  exact List.all_eq_true.mp c1 f (List.mem_of_getElem? h)
theorem SaysM.def_ (c : SaysM fb fn K) (i : Nat) {d : He.FnD} (h : fn[i]? = some d := by rfl) :
    ∃ oc od osl kV doc pm an cdv ct, K.lookup (He.fAd K d.at_) = some ⟨oc, od, .func (PySem.W.fnOf d.name d.qual d.params d.body d.scope .none kV doc pm an cdv ct), osl⟩ ∧ PySem.W.codeIn K cdv d.qual = true := by
  have c2 := (He.ba (show ((fb.all fun f => f K) && fn.all fun d => (He.Fa.code d.at_ d.qual).ok K) = true from congrArg (fun z : AlM => z.1) c)).2
  have e : fn.map (fun d => He.fnObs K d.at_) = fn.map He.FnD.val := congrArg (fun z : AlM => z.2) c
  have e2 : (fn.map fun d => He.fnObs K d.at_)[i]? = (fn.map He.FnD.val)[i]? := by rw [e]
  rw [List.getElem?_map, List.getElem?_map, h] at e2
  exact He.fn_ok (Option.some.inj e2) (List.all_eq_true.mp c2 d (List.mem_of_getElem? h))
end
/-! ### the run, looked at piece by piece -/
noncomputable abbrev runF (r : PySem.W.OpenRow) (M : Nat) (w : World) (os : OsState) : Option PySem.W.SharedT := HandSHeadRun.endF (HandSHeadRun.stepQ (HandSHeadRun.denQ HandSHeadRun.tabQ) r.prog w) M r.prog w os
theorem run_of {r : PySem.W.OpenRow} {q : Program} {H : PySem.W.Hook} {ob : PySem.W.SharedT → H.α} {M : Nat} {loose : List PySem.Str} {w : World}
    (h1 : ∀ os, (runF r M w os).map (fun s => HandSHeadRun.looksF r.prog (PySem.W.boot_heap w.params) s.abs) = some true)
    (h2 : ∀ os, (runF r M w os).map (fun s => HandSHeadRun.seenQ q loose (importedModules r.prog.main.body) (fun s => PySem.W.xlAt q [] s && PySem.W.recOk r.toRowW.records s) s.abs) = some (PySem.W.openGood q loose))
    (h3 : ∀ os, (runF r M w os).map ob = some (H.val w)) : HandSHeadRun.RunEq r q H ob M loose w := by
  intro os
  have a := h1 os
  have b := h2 os
  have c := h3 os
  show (runF r M w os).map _ = _
  cases e : runF r M w os with
  | none => rw [e] at a; cases a
  | some s =>
    rw [e] at a b c
    rw [Option.map_some] at a b c ⊢
    rw [Option.some.inj a, Option.some.inj b, Option.some.inj c]
/-! ### facts of the written part -/
section
variable {K : PySem.W.Frag} {x : Str}
def bOpt (a b : Option Bool) : Bool := decide (a = b)
theorem bOpt_ok {a b : Option Bool} (h : bOpt a b = true) : a = b := of_decide_eq_true h
def bTy (a : Option Value) : Bool := decide (a = some (.type "type"))
theorem bTy_ok {a : Option Value} (h : bTy a = true) : a = some (.type "type") := of_decide_eq_true h
theorem int_okK {i : Int} (c : (He.Fa.int x i).ok K = true) : ∃ t, PySem.W.nsIn K mainGlobals x = some (some (.int i t)) := by
  have c : (match PySem.W.nsIn K mainGlobals x with
    | some (some (.int j _)) => decide (j = i)
    | _ => false) = true := c
  split at c
  · rename_i j t e
    obtain rfl := of_decide_eq_true c
    exact ⟨t, e⟩
  · cases c
/-- a module's tuple of one text -/
def bTup (K : PySem.W.Frag) (x c : Str) : Bool := match K.lookup (He.ga K x) with
  | some ⟨.type t, _, .seq its _, _⟩ => decide (t = "tuple") && (match its.toList with
    | [.str y _] => decide (y = c)
    | _ => false)
  | _ => false
theorem bTup_ok {c : Str} (h : bTup K x c = true) : ∃ od u n sl, K.lookup (He.ga K x) = some ⟨.type "tuple", od, .seq #[.str c u] n, sl⟩ := by
  unfold bTup at h
  split at h
  · rename_i t od its n sl e
    obtain ⟨h1, h2⟩ := He.ba h
    obtain rfl := of_decide_eq_true h1
    split at h2
    · rename_i y u q
      obtain rfl := of_decide_eq_true h2
      obtain ⟨l⟩ := its
      obtain rfl : l = [.str y u] := q
      exact ⟨od, u, n, sl, e⟩
    · cases h2
  · cases h
end
end AW
/-! AW29: any() of a tuple of ints. -/
namespace AW
open PySem PySem.Spec PyProof.Rows L2
theorem ints_at : ∀ {us : List Value} {ns : List Int}, IntsAre us ns → ∀ (i : Nat) (v : Value), us[i]? = some v → ∃ t, v = .int (ns.getD i 0) t
  | _, _, .nil, i, v, h => by cases h
  | _, _, .cons n t h, 0, v, e => by
    cases e
    exact ⟨t, rfl⟩
  | _, _, .cons n t h, i + 1, v, e => ints_at h i v e
theorem any_ints : ∀ ns : List Int, (List.range ns.length).any (fun i => ns.getD i 0 != 0) = ns.any (· != 0)
  | [] => rfl
  | b :: bs => by
    rw [List.length_cons, List.range_succ_eq_map, List.any_cons, List.any_map, List.any_cons, ← any_ints bs]
    all_goals rfl
section
variable {X : Cx}
def rAnyT (K : PySem.W.Frag) : List V → Hp → VK → Prop := fun vs H Q => ∃ (a : Addr) (ns : List Int), vs = [V.ref a] ∧ SqT K H a (ns.map V.int) ∧ Q (.bl (ns.any (· != 0))) H
theorem cr_anyT (hc : X.calm = true) : CallR X (.builtin "any") (rAnyT X.K) := by
  intro pins s σ H vs us Q I r h
  obtain ⟨a, ns, rfl, hs, q⟩ := h
  obtain ⟨its, rv, hl, _⟩ := I.tuple hs
  rw [Vals.ref1 r]
  have hb := rv.ints
  have ht : s.heap.IsTuple a its.toArray := hl
  have hlt : a < s.heap.objs.size := by obtain ⟨_, e, _⟩ := ht; exact Heap.lt_size e
  refine call_any_walk (wpAny_pyIter_tuple ht ?_)
  refine ⟨_, _, _, _, _, _, fun i => ns.getD i 0 != 0, rfl, Walks.tuple (A := X.A.in1) (I.ok.hd hc) _ a (Nat.ne_of_lt hlt) its.toArray, ⟨⟨_, Heap.get?_push_size _ rfl, rfl, rfl⟩, ht.push _⟩, ?_, fun h' tk hk => ?_⟩
  · intro i v s Q E hv hq
    have hv' : its[i]? = some v := by simpa using hv
    obtain ⟨t, rfl⟩ := ints_at hb i v hv'
    exact P.truthy_int hq
  · refine ⟨.bl _, H, I.kept fun b o eo => hk b o (fun hmem => ?_) (Heap.get?_push_of_some _ eo), ?_, q⟩
    · rcases List.mem_cons.mp hmem with e1 | hmem
      · exact absurd (e1 ▸ Heap.lt_size eo) (Nat.lt_irrefl _)
      · cases hmem
    · show Value.bool _ = Value.bool _
      rw [← any_ints]
      have := rv.length
      rw [List.length_map] at this
      rw [List.size_toArray, this]
end
def gAnyT : FC := fun ds S Q _ => match ds with
  | [.tup xs] => match intsOf xs with
    | some ns => Q (.bl (ns.any (· != 0))) S
    | none => False
  | _ => False
theorem abs_anyT {K : PySem.W.Frag} {E : XK} : AbsC K E (rAnyT K) gAnyT := by
  intro ι H S ds vs Q XX Qh r h g l lx
  unfold gAnyT at g
  split at g
  · obtain ⟨v, ev, hv⟩ := repL1 h; subst ev; clear h; have h := hv
    split at g
    · rename_i ns e
      rw [rep_tup] at h
      obtain ⟨a, xs', rfl, hs, hl⟩ := h
      rw [intsOf_eq e] at hl
      rw [repL_ints hl] at hs
      exact ⟨a, ns, rfl, hs, l ι _ S _ H Ext.refl r (rep_bl.mpr rfl) g⟩
    · exact g.elim
  · exact g.elim
theorem any_iv {S : Sto} {Q : VKD} {XX : XKD} (ns : List Int) (q : Q (.bl (ns.any (· != 0))) S) : gAnyT [.tup (ns.map D.int)] S Q XX := by
  unfold gAnyT
  dsimp only
  rw [intsOf_map]
  exact q
section
variable {X : Cx} {E : XK} {p pos : Pos} {e : Expr} {es : List Expr} {t : TA} {w : WA}
theorem je_anyT {K : PySem.W.Frag} (hc : X.calm = true) (hm : X.mg "any" = none) (ha : JA X E (e :: es) t w) (hg : Gl X "any" := by rfl) (he : starEach (e :: es) X.env = (false, eval e X.env) :: starEach es X.env := by rfl) (hpl : (backTo pos (starEach es X.env)).any (·.1) = false := by rfl) (hK : X.K = K := by rfl) : JE X E (.Call (.Name "any" p) (e :: es) [] pos) (tCB (rAnyT K) t) (wCB gAnyT w) := by
  subst hK
  exact je_callB (cr_anyT hc) abs_anyT hg hm bt_any ha (he := he) (hpl := hpl)
end
end AW
/-! AW30: list comprehensions whose element may raise. -/
namespace AW
open PySem PySem.Spec PyProof.Rows L2

/-- an exception that flies out of a block of the frame L0, or is noted there; sI: the state without it -/
def XB (X : Cx) (L0 : Addr) (E : XK) (u : Value) (s' : Shared) : Prop :=
  ∃ (a : Addr) (B : Heap) (sI : Shared) (pins : List (Addr × Obj)) (σ : L2.St) (H : Hp) (cls : Value) (d : Option Addr),
    u = .ref a ∧ Inv X pins σ H sI ∧ (∀ b o, sI.heap.get? b = some o → b ∉ frs X.stack → B.get? b = some o) ∧ sI.heap.UpToSlots s'.heap ∧
      (HandSPX.FlyingZ B X.stack a (Zc cls d) s'.heap ∨ HandSPX.HeldZ B X.stack a (Zc cls d) L0 s'.heap) ∧ H a = none ∧ s'.os = sI.os ∧ AllBare s'.gens ∧ E cls d H
/-- what a def or a block of it takes -/
structure TB (X : Cx) (L0 : Addr) (E : XK) : Prop where
  top : ∃ e0 o0, X.stack = e0 :: o0 ∧ e0.frame = some L0
  fr : X.env.frame = some L0
  tk : ∀ u s', XB X L0 E u s' → X.xe u s'
theorem tb_of {X : Cx} {E : XK} (st : X.stack = X.env :: X.outer) (fr : X.env.frame = some X.env.locals) (tk : Takes X (fun c d _ H => E c d H)) : TB X X.env.locals E :=
  ⟨⟨X.env, X.outer, st, fr⟩, fr, fun u s' ⟨a, B, sI, pins, σ, H, cls, d, e, I, nb, up, sky, na, os, ag, w⟩ => tk u s' ⟨a, B, sI, pins, σ, H, cls, d, e, I, nb, up, .inr sky, na, os, ag, w⟩⟩
theorem XB.of_call {X : Cx} {L0 : Addr} {E : XK} {pins : List (Addr × Obj)} {σ : L2.St} {H : Hp} {s s' : Shared} {u : Value} (I : Inv X pins σ H s) (c : L2.CX X.prog X.w X.stack H s E u s') : XB X L0 E u s' := by
  obtain ⟨a, B, sI, pins', σ', H', cls, d, rfl, I', nb, up, sky, na, os, ag, w⟩ := XE.of_call (W := fun c d _ H => E c d H) I (fun _ _ _ h => h) c
  obtain ⟨a2, B2, H2, cls2, d2, e2, fl, _⟩ := c
  cases e2
  obtain ⟨_, _, _, oe, vs, T, oT, ts, he, _, hd, h1, _, _, hT, hdT, h3⟩ := fl
  rcases sky with ⟨_, _, _, oe', vs', he', _, hd', h1'⟩ | f2 | f3
  · rw [he] at he'
    cases he'
    rw [hd] at hd'
    cases hd'
    rw [h1] at h1'
    cases h1'
  · exact ⟨a, B, sI, pins', σ', H', cls, d, rfl, I', nb, up, .inl f2, na, os, ag, w⟩
  · obtain ⟨_, _, _, oe', vs', T', oT', ts', he', _, hd', h1', _, _, hT', hdT', h3'⟩ := f3
    rw [he] at he'
    cases he'
    rw [hd] at hd'
    cases hd'
    rw [h1] at h1'
    cases h1'
    rw [hT] at hT'
    cases hT'
    rw [hdT] at hdT'
    cases hdT'
    rw [h3] at h3'
    exact absurd (Option.some.inj h3') (by simp [rawInt])
theorem frames_off {B B' h h' : Heap} : ∀ {l : List Env}, h.FunFrames B l → (∀ b ∈ frs l, ∀ o, h.get? b = some o → h'.get? b = some o) → (∀ b, B.get? b = none → B'.get? b = none) → h'.FunFrames B' l
  | [], _, _, _ => trivial
  | env :: l, ⟨hk, ⟨L, o, hf, hn, ho, hd⟩, hr⟩, kp, nn => ⟨hk, ⟨L, o, hf, nn L hn, kp L (List.mem_filterMap.mpr ⟨env, List.mem_cons_self, hf⟩) o ho, hd⟩,
      frames_off hr (fun b hb => kp b (by
        obtain ⟨e, he, q⟩ := List.mem_filterMap.mp hb
        exact List.mem_filterMap.mpr ⟨e, List.mem_cons_of_mem _ he, q⟩)) nn⟩
theorem hide_none {h : Heap} {l : List Addr} {b : Addr} (n : h.get? b = none) : (PySem.W.hideAll h l).get? b = none := by
  cases q : (PySem.W.hideAll h l).get? b with
  | none => rfl
  | some o =>
    have z := PySem.W.of_hideAll _ q
    rw [n] at z
    cases z
section
variable {X : Cx} {E : XK} {L0 : Addr} {pins : List (Addr × Obj)} {σ : L2.St} {H3 : Hp} {s3 : Shared} {fp : List Addr} {scope : Scope} {ce : Env}
theorem TB.fails (tb : TB X L0 E) (I3 : Inv X pins σ H3 s3) (f3 : ∀ b ∈ fp, FpOk X pins H3 b ∧ b < s3.heap.objs.size) (cL : ce.locals = s3.heap.objs.size) (cF : ce.frame = X.env.frame) {u : Value} {s' : Shared}
    (x : XB (X.blk s3 H3 scope ce fp) L0 E u s') : notedBy (model X.prog X.w) X.A ce (CompFails (model X.prog X.w) X.A X.xe ce) u s' := by
  obtain ⟨a, B, sI, pins', σ', H', cls, d, rfl, I6, nb, up, sky, na, os, ag, w⟩ := x
  obtain ⟨⟨e0, o0, st, f0⟩, fr, tk⟩ := tb
  have af : X.A.frames = some (e0 :: o0) := I3.ok.frames.trans (congrArg some st)
  have I7 : Inv X pins σ H' sI := I3.call' (ch := fp) I6.os I6.base I6.hok I6.bare fun b hb => ⟨(f3 b hb).1.2.2.2.1, (f3 b hb).1.2.1, (f3 b hb).1.2.2.2.2.1, (f3 b hb).1.2.2.2.2.2⟩
  have nC : H' s3.heap.objs.size = none := by
    have z : H' ce.locals = none := I6.free
    rw [cL] at z
    exact z
  have fC := I3.fpOk (Nat.le_refl _) nC
  generalize hCC : s3.heap.objs.size = C at cL nC fC
  have hC : C ∉ frs X.stack := fun hm => by
    obtain ⟨_, o, e, _⟩ := I3.stack.mem hm
    have z := Heap.lt_size e
    rw [hCC] at z
    exact Nat.lt_irrefl _ z
  have nb : ∀ b o, sI.heap.get? b = some o → b ∉ frs X.stack → B.get? b = some o := nb
  have sky : HandSPX.FlyingZ B X.stack a (Zc cls d) s'.heap ∨ HandSPX.HeldZ B X.stack a (Zc cls d) L0 s'.heap := sky
  have en : noteFrame (.ref a) ce = noteFrame (.ref a) e0 := by
    unfold noteFrame PySem.frameOf
    rw [cF, fr, f0]
  obtain ⟨m, hm, _⟩ := I6.loc
  have hm : sI.heap.Ns ce.locals m := hm
  rw [cL] at hm
  obtain ⟨oC, es, ep, hoC, hdC, r1, r2⟩ := hm
  have bC := nb C oC hoC hC
  have go : ∀ h1, HandSPX.HeldZ B X.stack a (Zc cls d) L0 h1 → s'.heap.UpToSlots h1 → CompFails (model X.prog X.w) X.A X.xe ce (.ref a) { s' with heap := h1 } := by
    intro h1 held up1
    refine ⟨m, ⟨oC, es, ep, by rw [cL]; exact held.1 _ _ bC, hdC, r1, r2⟩, fun h' m' hn' sb => ?_⟩
    have sb2 : ∀ b, b ≠ C → h'.get? b = h1.get? b := fun b hb => sb.2 b (by rw [cL]; exact hb)
    obtain ⟨g1, g2, g3, oe, vs, T, oT, ts, he, hz, hd, hv1, hnT, hTe, hT, hdT, hv3⟩ := held
    have aC : a ≠ C := fun z => by
      rw [z, bC] at g2
      cases g2
    have tC : T ≠ C := fun z => by
      rw [z, bC] at hnT
      cases hnT
    have held' : HandSPX.HeldZ (PySem.W.hideAll B [C]) X.stack a (Zc cls d) L0 h' := by
      refine ⟨fun b o e => ?_, hide_none g2, frames_off g3 (fun b hb o e => ?_) fun b => hide_none, oe, vs, T, oT, ts, ?_, hz, hd, hv1, hide_none hnT, hTe, ?_, hdT, hv3⟩
      · have bn : b ≠ C := fun z => by
          rw [z, PySem.W.hideAll_none [C] List.mem_cons_self] at e
          cases e
        rw [sb2 b bn]
        exact g1 b o (PySem.W.of_hideAll _ e)
      · rw [sb2 b fun z => hC (z ▸ hb)]
        exact e
      · rw [sb2 a aC]
        exact he
      · rw [sb2 T tC]
        exact hT
    unfold PySem.passOn
    refine wpAny_bind (wpAny_field ((sb2 a aC).trans he) hd hv1 ?_)
    rw [if_neg (show ¬((Value.ref T == Value.none) = true) from by simp)]
    have on : wpAny (model X.prog X.w) X.A (setFlight (.ref a) ce.frame) (fun _ t4 => wpAny (model X.prog X.w) X.A (throw (.ref a) : Sem Value) (fun _ _ => False) X.xe t4) X.xe { s' with heap := h' } := by
      rw [cF, fr]
      refine HandSPX.setFlight_onZ held' fun h2 held2 up2 => wpAny_throw (tk _ _ ⟨a, PySem.W.hideAll B [C], { sI with heap := PySem.W.hideAll sI.heap [C], toks := sI.toks }, pins, σ, H', cls, d, rfl, ?_, fun b o e hb => ?_, fun b o e nf => ?_, .inr held2, na, os, ag, w⟩)
      · obtain ⟨k0, k1, k2, k3, k4, k5⟩ := fC
        exact I7.turned (t' := sI.toks) (fun b o hb e => PySem.W.hideAll_get [C] e fun z => hb (List.mem_singleton.mp z)) k0 k1 k3 k4 k5
      · have e : (PySem.W.hideAll sI.heap [C]).get? b = some o := e
        have bn : b ∉ [C] := fun z => by
          rw [PySem.W.hideAll_none [C] z] at e
          cases e
        exact PySem.W.hideAll_get _ (nb b o (PySem.W.of_hideAll _ e) hb) bn
      · have e : (PySem.W.hideAll sI.heap [C]).get? b = some o := e
        have bn : b ≠ C := fun z => by
          rw [z, PySem.W.hideAll_none [C] List.mem_cons_self] at e
          cases e
        obtain ⟨sl, q⟩ := (up.trans up1) b o (PySem.W.of_hideAll _ e) nf
        obtain ⟨sl2, q2⟩ := up2 b _ ((sb2 b bn).trans q) nf
        exact ⟨sl2, q2⟩
    first
      | exact wpAny_bind on
      | exact wpAny_bind (wpAny_pure (wpAny_bind on))
  show wpAny (model X.prog X.w) X.A (noteFrame (.ref a) ce) _ _ s'
  rw [en]
  rcases sky with fl | hh
  · rw [st] at fl
    refine HandSPX.looks_onZ Zc.steady af f0 fl fun h1 hh up1 => go h1 ?_ up1
    rw [st]
    exact hh
  · exact HandSPX.againZ f0 hh.2.2.2 (go s'.heap hh (Heap.UpToSlots.refl _))
/-- the block takes what its calls let out -/
theorem TB.blk (tb : TB X L0 E) (cF : ce.frame = X.env.frame) (P : List (Addr × Obj)) :
    TB ((X.blk s3 H3 scope ce fp).tr ((X.blk s3 H3 scope ce fp).pn ++ P) (XB (X.blk s3 H3 scope ce fp) L0 E)) L0 E :=
  ⟨tb.top, cF.trans tb.fr, fun u s' ⟨a, B, sI, pins, σ, H, cls, d, e, I, r⟩ => ⟨a, B, sI, P, σ, H, cls, d, e, I.ofTry (Cx.Ok.ofTry I.ok), r⟩⟩
theorem passes_blk (P : List (Addr × Obj)) : Passes (L2.CX X.prog X.w) ((X.blk s3 H3 scope ce fp).tr ((X.blk s3 H3 scope ce fp).pn ++ P) (XB (X.blk s3 H3 scope ce fp) L0 E)) E :=
  fun pins σ H s e s' I c => XB.of_call (X := X.blk s3 H3 scope ce fp) (I.ofTry (Cx.Ok.ofTry I.ok)) c
end
section
variable {X : Cx} {E : XK} {L0 : Addr}
/-- [elt for target in iter if ..], elt may raise -/
theorem lcx_core {pins : List (Addr × Obj)} {s : Shared} {σ : L2.St} {H : Hp} {Q : VK} {elt tg iter : Expr} {ifs : List Expr} {scope : Scope} {own : List (Str × Nat)} {pos pos' : Pos} {wi : TI} {g : TG} {tt : TT} {te : TE} {use : Option (Value → Sem Unit)} {Qf : Value → Shared → Prop}
    (tb : TB X L0 E) (calm : X.calm = true) (nd : X.N.Nodup) (I : Inv X pins σ H s) (hi : PI X tg iter wi) (ok : BlkOk X.N X.env.scope scope own)
    (hg : ∀ (s : Shared) (H : Hp) (C : Addr) (cl : List (Str × Addr)) (fs : List Addr), PG (X.blk s H scope (compEnvC scope cl C X.env) fs) tg g) (ht : ∀ (s : Shared) (H : Hp) (C : Addr) (cl : List (Str × Addr)) (fs : List Addr), PTs (X.blk s H scope (compEnvC scope cl C X.env) fs) ifs tt)
    (he : ∀ (s : Shared) (H : Hp) (C : Addr) (cl : List (Str × Addr)) (fs : List Addr) (pn : List (Addr × Obj)) (xe : Value → Shared → Prop), TB ((X.blk s H scope (compEnvC scope cl C X.env) fs).tr pn xe) L0 E → Passes (L2.CX X.prog X.w) ((X.blk s H scope (compEnvC scope cl C X.env) fs).tr pn xe) E →
      PE ((X.blk s H scope (compEnvC scope cl C X.env) fs).tr pn xe) elt te) (fold : ∀ x, foldedSetIterable iter X.env x = pure x) (h : tLc wi g tt te (own.map (·.2)) σ H Q)
    (back : ∀ L ce s' m H', Inv X pins σ H' s' → Q (.ref L) H' → s'.heap.Ns ce.locals m → FpOk X pins H' ce.locals → compEnds (model X.prog X.w) X.A X.xe use Qf (.ref L) ce (.ok .next) s') :
    wpAny (model X.prog X.w) X.A (comprehension (.ListComp elt [⟨tg, iter, ifs, 0⟩] scope pos) scope X.env pos' (newList []) false (eval iter X.env) use) Qf X.xe s := by
  have cells : ∀ y ∈ scope.names, y.2 = .free → ∃ c, X.env.cells.lookup y.1 = some c := fun y hy q => (ok.free y hy q).elim (fun k => I.ok.has _ (.inl k)) fun k => I.ok.has _ (.inr k)
  refine comprehension_at (use := use) rfl fold (closure_ok cells) ok.kind (fun y hy q => (ok.uniq y hy).trans (congrArg some q)) (thn (hi.run pins s σ H _ I h) fun xv s1 hx => thn hx fun itv s2 got => ?_)
  obtain ⟨it, fs, tn, J, H2, rfl, J2, T, at2, ok2, q⟩ := got
  refine wpAny_newObj_type (newEnv_comp ?_) (by show 0 ≤ sizeLine; decide)
  generalize hL : s2.heap.objs.size = L
  obtain ⟨W, ⟨m0, start⟩, turn⟩ := q L (J2.hok.fresh (Nat.le_of_eq hL))
  generalize hs3 : ({ s2 with heap := s2.heap.push { cls := .type "list", data := .seq ([] : List Value).toArray } } : Shared) = s3
  have e3 : s3.heap = s2.heap.push { cls := .type "list", data := .seq ([] : List Value).toArray } := by rw [← hs3]
  have J3 : Inv X pins σ (upd H2 L (.lst [])) s3 := by
    rw [← hs3]
    refine J2.laid (t' := s2.toks) (fun b o q => Heap.get?_push_of_some _ q) (Nat.le_of_eq hL) ⟨Nat.zero_le _, [], 0, .nil, ?_⟩
    exact hL ▸ Heap.get?_push_size _ rfl
  have ok3 : ∀ b ∈ fs, FpOk X pins (upd H2 L (.lst [])) b ∧ b < s3.heap.objs.size := fun b hb => by
    obtain ⟨o, q, _⟩ := T.obj _ _ at2 b hb
    have lt := Heap.lt_size q
    refine ⟨⟨?_, (ok2 b hb).2⟩, by rw [e3, Heap.size_push]; exact Nat.lt_succ_of_lt lt⟩
    rw [upd_ne (hL ▸ Nat.ne_of_lt lt)]
    exact (ok2 b hb).1
  have at3 : tn 0 s3.heap := T.keep _ _ _ at2 fun b _ o q => e3 ▸ Heap.get?_push_of_some _ q
  have J4 := block_start J3 ok nd ok3
  have pg := hg s3 (upd H2 L (.lst [])) s3.heap.objs.size (cellsFrom (s3.heap.objs.size + 1) scope.names (cloFrom X.env.cells scope.names [])) fs
  have pt := ht s3 (upd H2 L (.lst [])) s3.heap.objs.size (cellsFrom (s3.heap.objs.size + 1) scope.names (cloFrom X.env.cells scope.names [])) fs
  have pe := he s3 (upd H2 L (.lst [])) s3.heap.objs.size (cellsFrom (s3.heap.objs.size + 1) scope.names (cloFrom X.env.cells scope.names [])) fs
  have none3 : ∀ b ∈ fs, (upd H2 L (.lst [])) b = none := fun b hb => (ok3 b hb).1.1
  show codeAny _ _ (.compStart (.ListComp elt [⟨tg, iter, ifs, 0⟩] scope pos) 0 (.ref it) (.ref L) (compEnvC scope (cellsFrom (s3.heap.objs.size + 1) scope.names (cloFrom X.env.cells scope.names [])) s3.heap.objs.size X.env)) (compEnds (model X.prog X.w) X.A X.xe use Qf (.ref L) (compEnvC scope (cellsFrom (s3.heap.objs.size + 1) scope.names (cloFrom X.env.cells scope.names [])) s3.heap.objs.size X.env)) { s3 with heap := pushCells (s3.heap.push { cls := .type "dict", data := .dict #[] }) scope.names }
  generalize hce : compEnvC scope (cellsFrom (s3.heap.objs.size + 1) scope.names (cloFrom X.env.cells scope.names [])) s3.heap.objs.size X.env = ce at J4 pg pt pe ⊢
  have cL : ce.locals = s3.heap.objs.size := by subst hce; rfl
  have cF : ce.frame = X.env.frame := by subst hce; rfl
  generalize hH3 : upd H2 L (.lst []) = H3 at J3 J4 pg pt pe start none3 ok3
  generalize hs4 : ({ s3 with heap := pushCells (s3.heap.push { cls := .type "dict", data := .dict #[] }) scope.names } : Shared) = s4 at J4 ⊢
  have at4 : tn 0 s4.heap := T.keep _ _ _ at3 fun b _ o q => hs4 ▸ pushCells_keeps _ _ _ _ (Heap.get?_push_of_some _ q)
  have fixed : ∀ {σ' : L2.St} {H' : Hp} {s' : Shared}, Inv (X.blk s3 H3 scope ce fs) [] σ' H' s' → (∀ b ∈ fs, H' b = none) → ∀ b ∈ fs, FpOk (X.blk s3 H3 scope ce fs) [] H' b := fun {σ' H' s'} J' hn b hb =>
    ⟨hn b hb, (J'.ok.exf b hb).1, J'.ok.exfs b hb, .inl hb, fun x c q => (J'.ok.exf b hb).2 x c q, fun p hp => nomatch (show p ∈ ([] : List (Addr × Obj)) from hp)⟩
  have loop : codeAny (model X.prog X.w) X.A (.compLoop (.ListComp elt [⟨tg, iter, ifs, 0⟩] scope pos) 0 (.ref it) (.ref L) ce) (compEnds (model X.prog X.w) X.A X.xe use Qf (.ref L) ce) s4 := by
    refine compLoop_any (fun n s' => ∃ i H', Inv (X.blk s3 H3 scope ce fs) [] (wipe σ (own.map (·.2))) H' s' ∧ tn i s'.heap ∧ (∀ b ∈ fs, H' b = none) ∧ W i n H') ?_ m0 ⟨0, H3, J4, at4, none3, start⟩
    rintro n s5 ⟨i, H5, J5, at5, none5, w5⟩
    rcases turn i n H5 w5 with ⟨stop, qq⟩ | ⟨go, Nx, hNx, step⟩
    · refine thnF (T.done (X.blk s3 H3 scope ce fs) rfl rfl rfl calm i [] s5 _ H5 (fun _ _ => False) J5 (fixed J5 none5) at5 stop) fun r s6 ⟨hr, J6⟩ => ?_
      subst hr
      have J7 : Inv X pins σ H5 s6 := J3.call' (ch := fs) J6.os J6.base J6.hok J6.bare fun b hb => ⟨(ok3 b hb).1.2.2.2.1, (ok3 b hb).1.2.1, (ok3 b hb).1.2.2.2.2.1, (ok3 b hb).1.2.2.2.2.2⟩
      have nC : H5 ce.locals = none := J6.free
      obtain ⟨m, hn, _⟩ := J6.loc
      exact back L ce s6 m H5 J7 qq hn (J3.fpOk (Nat.le_of_eq cL.symm) nC)
    · refine thnF (T.item (X.blk s3 H3 scope ce fs) rfl rfl rfl calm i [] s5 _ H5 (fun _ _ => False) J5 (fixed J5 none5) at5 go) fun r s6 ⟨u, hr, got6⟩ => ?_
      subst hr
      refine thnF got6 fun _ s7 ⟨x, H7, J7, r7, y7, at7, none7⟩ => ?_
      refine thnF (pg.run _ s7 _ H7 x u _ (J7.pinned (fixed J7 none7) (T.obj _ _ at7)) r7 (step x H7 y7)) fun _ s8 ⟨σ8, H8, J8, hw8, q8⟩ => ?_
      refine thnF (pt.run _ s8 σ8 H8 _ J8 q8) fun b s9 ⟨H9, J9, q9⟩ => ?_
      have fin : ∀ {s' : Shared} {H' : Hp}, Inv (X.blk s3 H3 scope ce fs) ([] ++ pinsAt fs s7.heap) σ8 H' s' → Nx H' → ∃ m, m < n ∧ ∃ i H', Inv (X.blk s3 H3 scope ce fs) [] (wipe σ (own.map (·.2))) H' s' ∧ tn i s'.heap ∧ (∀ b ∈ fs, H' b = none) ∧ W i m H' := fun {s' H'} J' nx => by
        obtain ⟨m', hm, w'⟩ := hNx H' nx
        have held : ∀ b ∈ fs, ∀ o, s7.heap.get? b = some o → s'.heap.get? b = some o ∧ H' b = none := fun b hb o q =>
          have z := J'.pin (b, o) (List.mem_append_right _ (List.mem_append_right _ (mem_pinsAt hb q)))
          ⟨z.1, z.2.1⟩
        refine ⟨m', hm, i + 1, H', (J'.unpinned (pins := [])).weak (by rw [← hw8, wipe_length]) (fun j v q => (wipe_some (hw8 ▸ q)).1), T.keep _ _ _ at7 fun b hb o q => (held b hb o q).1, fun b hb => ?_, w'⟩
        obtain ⟨o, q, _⟩ := T.obj _ _ at7 b hb
        exact (held b hb o q).2
      cases b with
      | false =>
        simp only [Bool.false_eq_true, if_false] at q9 ⊢
        exact fin J9 q9
      | true =>
        simp only [if_true] at q9 ⊢
        have run := (pe _ _ (tb.blk (s3 := s3) (H3 := H3) (fp := fs) (scope := scope) cF ([] ++ pinsAt fs s7.heap)) (passes_blk ([] ++ pinsAt fs s7.heap))).run [] s9 σ8 H9 _ (J9.toTry _) q9
        refine wpAny_mono run (fun z s10 ⟨yv, H10, J10, r10, acc, at10, small, nx⟩ => ?_) fun u s' x => tb.fails J3 ok3 cL cF x
        exact app_ok (X := X.blk s3 H3 scope ce fs) (J10.ofTry J9.ok) at10 small r10 fun s11 J11 => fin J11 nx
  exact codeAny_compStart_list loop (T.self X.A 0 _ _ _ at4 loop)
/-- as a value -/
theorem pe_lcX {elt tg iter : Expr} {ifs : List Expr} {scope : Scope} {own : List (Str × Nat)} {pos : Pos} {wi : TI} {g : TG} {tt : TT} {te : TE} (tb : TB X L0 E) (calm : X.calm = true) (nd : X.N.Nodup) (hi : PI X tg iter wi) (ok : BlkOk X.N X.env.scope scope own)
    (hg : ∀ (s : Shared) (H : Hp) (C : Addr) (cl : List (Str × Addr)) (fs : List Addr), PG (X.blk s H scope (compEnvC scope cl C X.env) fs) tg g) (ht : ∀ (s : Shared) (H : Hp) (C : Addr) (cl : List (Str × Addr)) (fs : List Addr), PTs (X.blk s H scope (compEnvC scope cl C X.env) fs) ifs tt)
    (he : ∀ (s : Shared) (H : Hp) (C : Addr) (cl : List (Str × Addr)) (fs : List Addr) (pn : List (Addr × Obj)) (xe : Value → Shared → Prop), TB ((X.blk s H scope (compEnvC scope cl C X.env) fs).tr pn xe) L0 E → Passes (L2.CX X.prog X.w) ((X.blk s H scope (compEnvC scope cl C X.env) fs).tr pn xe) E →
      PE ((X.blk s H scope (compEnvC scope cl C X.env) fs).tr pn xe) elt te) (fold : ∀ x, foldedSetIterable iter X.env x = pure x) :
    PE X (.ListComp elt [⟨tg, iter, ifs, 0⟩] scope pos) (tLc wi g tt te (own.map (·.2))) := by
  refine ⟨fun pins s σ H Q I h => ?_⟩
  rw [eval_ListComp]
  refine lcx_core tb calm nd I hi ok hg ht he fold h fun L ce s' m H' I' q hn ⟨k0, k1, k2, k3, k4, k5⟩ => ⟨m, hn, fun h'' sb => ?_⟩
  exact ⟨.ref L, H', I'.turned (t' := s'.toks) (fun b o hb q2 => (sb.2 b hb).trans q2) k0 k1 k3 k4 k5, rfl, q⟩
/-- to a name -/
theorem ps_setLcX {i : Nat} {y : Str} {py : Pos} {elt tg iter : Expr} {ifs : List Expr} {scope : Scope} {own : List (Str × Nat)} {pos spos : Pos} {wi : TI} {g : TG} {tt : TT} {te : TE} (tb : TB X L0 E) (calm : X.calm = true) (nd : X.N.Nodup) (at_ : X.N[i]? = some y) (loc : X.env.scope.names.lookup y = some .local)
    (sw : swapsWith (.ListComp elt [⟨tg, iter, ifs, 0⟩] scope pos) (some (.Name y py)) spos.line X.env = pure true) (hi : PI X tg iter wi) (ok : BlkOk X.N X.env.scope scope own)
    (hg : ∀ (s : Shared) (H : Hp) (C : Addr) (cl : List (Str × Addr)) (fs : List Addr), PG (X.blk s H scope (compEnvC scope cl C X.env) fs) tg g) (ht : ∀ (s : Shared) (H : Hp) (C : Addr) (cl : List (Str × Addr)) (fs : List Addr), PTs (X.blk s H scope (compEnvC scope cl C X.env) fs) ifs tt)
    (he : ∀ (s : Shared) (H : Hp) (C : Addr) (cl : List (Str × Addr)) (fs : List Addr) (pn : List (Addr × Obj)) (xe : Value → Shared → Prop), TB ((X.blk s H scope (compEnvC scope cl C X.env) fs).tr pn xe) L0 E → Passes (L2.CX X.prog X.w) ((X.blk s H scope (compEnvC scope cl C X.env) fs).tr pn xe) E →
      PE ((X.blk s H scope (compEnvC scope cl C X.env) fs).tr pn xe) elt te) (fold : ∀ x, foldedSetIterable iter X.env x = pure x) :
    PS X (.Assign [.Name y py] (.ListComp elt [⟨tg, iter, ifs, 0⟩] scope pos) spos) (tAsg (tLc wi g tt te (own.map (·.2))) (gName i)) := by
  refine ⟨fun pins s σ H D I h => ?_⟩
  rw [exec_Assign_Name_used _ _ _ _ sw]
  refine wpAny_bind (wpAny_standAt (wpAny_bind ?_))
  show wpAny _ X.A (do let _ ← comprehension (.ListComp elt [⟨tg, iter, ifs, 0⟩] scope pos) scope X.env (firstIterPos [⟨tg, iter, ifs, 0⟩] pos) (newList []) false (eval iter X.env) (some (assign (.Name y py) X.env))) _ X.xe s
  have h : tLc wi g tt te (own.map (·.2)) σ H (fun x H1 => gName i x σ H1 D.nx) := h
  refine wpAny_bind (thn (lcx_core (Qf := fun _ s' => SP X pins D .next s') tb calm nd I hi ok hg ht he fold h fun L ce s' m H' I' q hn ⟨k0, k1, k2, k3, k4, k5⟩ => ?_) fun _ s' hq => wpAny_pure (wpAny_pure hq))
  show wpAny _ _ (assign (.Name y py) X.env (.ref L)) _ X.xe _
  refine wpAny_assign_Name (store_ok2 (v := V.ref L) I' nd at_ (.inl loc) rfl (fun s2 I2 ⟨a, sb, ha⟩ => ?_) (.inr loc))
  have off : ce.locals ≠ a := ha.elim (fun z => z ▸ k1) fun z q => k4 y a z q.symm
  exact ⟨m, hn.sameBut sb off, fun h3 sb3 => ⟨_, H', I2.turned (t' := s2.toks) (fun b o hb q2 => (sb3.2 b hb).trans q2) k0 k1 k3 k4 k5, q⟩⟩
end
/-! ### read plainly -/
@[reducible] def lcTurnX (wg : WG) (wt : WT) (we : WE) (σ : ASt) (XX : XKD) (d : D) (acc : List D) (S : Sto) (rest : List D → Sto → Prop) : Prop :=
  wg d σ S (fun σ2 S2 => wt σ2 S2 (fun b S3 => if b = true then we σ2 S3 (fun y S4 => rest (acc ++ [y]) S4) XX else rest acc S3) X0) X0
def lcLX (wg : WG) (wt : WT) (we : WE) (σ : ASt) (XX : XKD) (Q : List D → Sto → Prop) : List D → List D → Sto → Prop
  | [], acc, S => Q acc S
  | d :: ds, acc, S => lcTurnX wg wt we σ XX d acc S fun acc' S' => lcLX wg wt we σ XX Q ds acc' S'
def lcCX (wg : WG) (wt : WT) (we : WE) (σ : ASt) (XX : XKD) (Q : List D → Sto → Prop) (src : Src) : Nat → Nat → List D → Sto → Prop
  | 0, i, acc, S => src.at i S = some none ∧ Q acc S
  | k + 1, i, acc, S => match src.at i S with
    | some (some d) => lcTurnX wg wt we σ XX d acc S fun acc' S' => lcCX wg wt we σ XX Q src k (i + 1) acc' S'
    | _ => False
def lcQX (src : Src) (wg : WG) (wt : WT) (we : WE) (σ : ASt) (XX : XKD) (Q : List D → Sto → Prop) (S : Sto) : Prop := match src with
  | .seq ds => ds.length ≤ sizeLine ∧ lcLX wg wt we σ XX Q ds [] S
  | .cel n => cellLen S n ≤ sizeLine ∧ lcCX wg wt we σ XX Q (.cel n) (cellLen S n) 0 [] S
  | .enc n => cellLen S n ≤ sizeLine ∧ lcCX wg wt we σ XX Q (.enc n) (cellLen S n) 0 [] S
def wLcX (wi : WI) (wg : WG) (wt : WT) (we : WE) (vs : List Nat) (fin : List D → Sto → VKD → Prop) : WE := fun σ S Q X => wi σ S (fun src S1 => lcQX src wg wt we (wipeD σ vs) X (fun acc S2 => fin acc S2 Q) S1) X
theorem abs_lcX {K : PySem.W.Frag} {E : XK} {wi : TI} {wI : WI} {g : TG} {wg : WG} {tt : TT} {wt : WT} {te : TE} {we : WE} {vs : List Nat} {fin : List D → Sto → VKD → Prop} (hfin : FinOk K fin)
    (hi : AbsI K E wi wI) (hg : AbsG K E0 vs g wg) (ht : AbsT K E0 tt wt) (he : AbsE K E te we) : AbsE K E (tLc wi g tt te vs) (wLcX wI wg wt we vs fin) := by
  intro ι σ H σD S Q XX Qh r s h l lx
  refine hi ι σ H σD S _ XX _ r s h ?_ lx
  intro ι1 src S1 J H1 e1 r1 sim h1 p np
  have s1 := (s.mono e1).wipe vs
  -- the state of the loop
  let Inv (i : Nat) (Z : List D → Sto → Prop) (H' : Hp) : Prop := ∃ ι' S' acc xs, Ext K ι1 H1 ι' H' ∧ RelS K ι' S' H' ∧ p ∈ ι'.hid ∧ H' p = some (.lst xs) ∧ RepL K ι' H' acc xs ∧ acc.length ≤ i ∧ Z acc S'
  have start : ∀ Z : List D → Sto → Prop, Z [] S1 → Inv 0 Z (upd H1 p (.lst [])) := fun Z z => ⟨ι1.hide p, S1, [], [], Ext.hide r1 np, r1.hide np, List.mem_cons_self, upd_same, RepL.nil, Nat.le_refl _, z⟩
  have turn : ∀ (d : D) (i : Nat) (Z : List D → Sto → Prop) (H2 : Hp), i < sizeLine → Inv i (fun acc S' => src.at i S' = some (some d) ∧ lcTurnX wg wt we (wipeD σD vs) XX d acc S' Z) H2 →
      J.go i H2 ∧ ∀ x H', J.yld i H2 x H' → g x (wipe σ vs) H' fun σ2 H2 => wipe σ2 vs = wipe σ vs ∧ tt σ2 H2 fun b H3 =>
        if b = true then te σ2 H3 fun y H4 => ∃ acc, H4 p = some (.lst acc) ∧ acc.length < sizeLine ∧ Inv (i + 1) Z (upd H4 p (.lst (acc ++ [y]))) else Inv (i + 1) Z H3 := by
    rintro d i Z H2 hlt ⟨ι2, S2, acc, xs, e2, r2, hp2, hx2, hl2, ha, hd, q2⟩
    obtain ⟨go, yl⟩ := (sim i ι2 S2 H2 e2 r2).1 d hd
    refine ⟨go, fun x H' hy => ?_⟩
    obtain ⟨e3, r3, p3⟩ := yl x H' hy
    refine hg ι2 _ H' (wipeD σD vs) S2 d x _ X0 _ r3 ((s1.mono e2).mono e3) p3 q2 ?_ LkX.none
    intro ι4 σD4 S4 σ4 H4 e4 r4 s4 o4 q4
    refine ⟨o4.wipe, ?_⟩
    refine ht ι4 σ4 H4 σD4 S4 _ X0 _ r4 s4 q4 ?_ LkX.none
    intro ι5 b S5 H5 e5 r5 q5
    have e25 := (e3.trans e4).trans e5
    have hp5 : p ∈ ι5.hid := e25.hid p hp2
    have hx5 : H5 p = some (.lst xs) := (e25.hidk p hp2).trans hx2
    cases b with
    | false =>
      rw [if_neg Bool.false_ne_true] at q5 ⊢
      exact ⟨ι5, S5, acc, xs, e2.trans e25, r5, hp5, hx5, RepL.mono e25 _ _ hl2, by omega, q5⟩
    | true =>
      rw [if_pos rfl] at q5 ⊢
      refine he ι5 σ4 H5 σD4 S5 _ XX _ r5 (s4.mono e5) q5 ?_ (lx.ext (e1.trans (e2.trans e25)))
      intro ι6 y S6 vy H6 e6 r6 p6 q6
      have hp6 : p ∈ ι6.hid := e6.hid p hp5
      have hx6 : H6 p = some (.lst xs) := (e6.hidk p hp5).trans hx5
      have e26 := e25.trans e6
      have len := RepL.length hl2
      refine ⟨xs, hx6, by omega, ι6, S6, acc ++ [y], xs ++ [vy], (e2.trans e26).hidw r1 np hp6 hx6, r6.hidw hp6 hx6, hp6, upd_same, ?_, by rw [List.length_append, List.length_singleton]; omega, q6⟩
      have w := Ext0.hidw (K := K) (o := .lst (xs ++ [vy])) hp6 hx6
      exact RepL.append (RepL.mono0 w _ _ (RepL.mono e26 _ _ hl2)) (RepL.cons (Rep.mono0 w _ _ p6) RepL.nil)
  have done : ∀ (i : Nat) (H2 : Hp), Inv i (fun acc S' => src.at i S' = some none ∧ fin acc S' Q) H2 → J.stop i H2 ∧ Qh (.ref p) H2 := by
    rintro i H2 ⟨ι2, S2, acc, xs, e2, r2, hp2, hx2, hl2, ha, hd, q2⟩
    exact ⟨(sim i ι2 S2 H2 e2 r2).2 hd, hfin ι1 ι2 H1 H2 S1 S2 p acc xs Q Qh r1 np e2 r2 hp2 hx2 hl2 q2 (l.ext e1)⟩
  have cells : ∀ k, k ≤ sizeLine → lcCX wg wt we (wipeD σD vs) XX (fun acc S2 => fin acc S2 Q) src k 0 [] S1 → ∃ W : Nat → Nat → Hp → Prop, (∃ m, W 0 m (upd H1 p (.lst []))) ∧ ∀ i m H, W i m H →
      (J.stop i H ∧ Qh (.ref p) H) ∨ (J.go i H ∧ ∃ Nx : Hp → Prop, (∀ H', Nx H' → ∃ m', m' < m ∧ W (i + 1) m' H') ∧ ∀ x H', J.yld i H x H' → g x (wipe σ vs) H' fun σ2 H2 => wipe σ2 vs = wipe σ vs ∧ tt σ2 H2 fun b H3 =>
        if b = true then te σ2 H3 fun y H4 => ∃ acc, H4 p = some (.lst acc) ∧ acc.length < sizeLine ∧ Nx (upd H4 p (.lst (acc ++ [y]))) else Nx H3) := by
    intro k hk hq
    refine ⟨fun i m H' => m + i = k ∧ Inv i (fun acc S' => lcCX wg wt we (wipeD σD vs) XX (fun acc S2 => fin acc S2 Q) src m i acc S') H', ⟨k, rfl, start _ hq⟩, ?_⟩
    rintro i m H2 ⟨hm, ι2, S2, acc, xs, e2, r2, hp2, hx2, hl2, ha, q2⟩
    cases m with
    | zero => exact .inl (done i H2 ⟨ι2, S2, acc, xs, e2, r2, hp2, hx2, hl2, ha, q2⟩)
    | succ m =>
      unfold lcCX at q2
      split at q2
      · rename_i d hd
        obtain ⟨go, st⟩ := turn d i _ H2 (by omega) ⟨ι2, S2, acc, xs, e2, r2, hp2, hx2, hl2, ha, hd, q2⟩
        exact .inr ⟨go, _, fun H' n => ⟨m, Nat.lt_succ_self m, by omega, n⟩, st⟩
      · exact q2.elim
  cases src with
  | seq ds =>
    obtain ⟨hz, hq⟩ := h1
    refine ⟨fun i m H' => m = ds.length - i ∧ i ≤ ds.length ∧ Inv i (fun acc S' => lcLX wg wt we (wipeD σD vs) XX (fun acc S2 => fin acc S2 Q) (ds.drop i) acc S') H', ⟨ds.length, by omega, Nat.zero_le _, start _ (by rw [List.drop_zero]; exact hq)⟩, ?_⟩
    rintro i m H2 ⟨rfl, hi2, ι2, S2, acc, xs, e2, r2, hp2, hx2, hl2, ha, q2⟩
    by_cases hlt : i < ds.length
    · rw [List.drop_eq_getElem_cons hlt] at q2
      have hd : (Src.seq ds).at i S2 = some (some ds[i]) := congrArg some (List.getElem?_eq_getElem hlt)
      obtain ⟨go, st⟩ := turn ds[i] i _ H2 (by omega) ⟨ι2, S2, acc, xs, e2, r2, hp2, hx2, hl2, ha, hd, q2⟩
      exact .inr ⟨go, _, fun H' n => ⟨ds.length - (i + 1), by omega, rfl, hlt, n⟩, st⟩
    · have ei : i = ds.length := by omega
      subst ei
      rw [List.drop_length] at q2
      exact .inl (done _ H2 ⟨ι2, S2, acc, xs, e2, r2, hp2, hx2, hl2, ha, congrArg some (List.getElem?_eq_none_iff.mpr (Nat.le_refl _)), q2⟩)
  | cel n => exact cells _ h1.1 h1.2
  | enc n => exact cells _ h1.1 h1.2
section
variable {X : Cx} {E : XK} {L0 : Addr} {elt tg iter : Expr} {ifs : List Expr} {scope : Scope} {own : List (Str × Nat)} {pos : Pos} {wi : TI} {wI : WI} {g : TG} {wg : WG} {tt : TT} {wt : WT} {te : TE} {we : WE}
theorem je_lcX {fin : List D → Sto → VKD → Prop} (tb : TB X L0 E) (hfin : FinOk X.K fin) (calm : X.calm = true) (nd : X.N.Nodup) (hi : JI X E tg iter wi wI) (ok : BlkOk X.N X.env.scope scope own)
    (hg : ∀ (s : Shared) (H : Hp) (C : Addr) (cl : List (Str × Addr)) (fp : List Addr), JG (X.blk s H scope (compEnvC scope cl C X.env) fp) E0 (own.map (·.2)) tg g wg) (ht : ∀ (s : Shared) (H : Hp) (C : Addr) (cl : List (Str × Addr)) (fp : List Addr), JTs (X.blk s H scope (compEnvC scope cl C X.env) fp) E0 ifs tt wt)
    (he : ∀ (s : Shared) (H : Hp) (C : Addr) (cl : List (Str × Addr)) (fp : List Addr) (pn : List (Addr × Obj)) (xe : Value → Shared → Prop), TB ((X.blk s H scope (compEnvC scope cl C X.env) fp).tr pn xe) L0 E → Passes (L2.CX X.prog X.w) ((X.blk s H scope (compEnvC scope cl C X.env) fp).tr pn xe) E → JE ((X.blk s H scope (compEnvC scope cl C X.env) fp).tr pn xe) E elt te we) (s0 : Shared) (fold : ∀ x, foldedSetIterable iter X.env x = pure x := by intro _; rfl) :
    JE X E (.ListComp elt [⟨tg, iter, ifs, 0⟩] scope pos) (tLc wi g tt te (own.map (·.2))) (wLcX wI wg wt we (own.map (·.2)) fin) :=
  ⟨pe_lcX tb calm nd hi.pe ok (fun s H C cl fp => (hg s H C cl fp).pe) (fun s H C cl fp => (ht s H C cl fp).pe) (fun s H C cl fp pn xe t p => (he s H C cl fp pn xe t p).pe) fold,
    abs_lcX hfin hi.ab (hg s0 (fun _ => none) 0 [] []).ab (ht s0 (fun _ => none) 0 [] []).ab (he s0 (fun _ => none) 0 [] [] [] (fun _ _ => True) ⟨tb.top, tb.fr, fun _ _ _ => trivial⟩ fun _ _ _ _ _ _ _ _ => trivial).ab⟩
theorem js_setLcX {fin : List D → Sto → VKD → Prop} (tb : TB X L0 E) (hfin : FinOk X.K fin) {i : Nat} {y : Str} {py spos : Pos} (calm : X.calm = true) (nd : X.N.Nodup) (at_ : X.N[i]? = some y) (loc : X.env.scope.names.lookup y = some .local)
    (sw : swapsWith (.ListComp elt [⟨tg, iter, ifs, 0⟩] scope pos) (some (.Name y py)) spos.line X.env = pure true) (hi : JI X E tg iter wi wI) (ok : BlkOk X.N X.env.scope scope own)
    (hg : ∀ (s : Shared) (H : Hp) (C : Addr) (cl : List (Str × Addr)) (fp : List Addr), JG (X.blk s H scope (compEnvC scope cl C X.env) fp) E0 (own.map (·.2)) tg g wg) (ht : ∀ (s : Shared) (H : Hp) (C : Addr) (cl : List (Str × Addr)) (fp : List Addr), JTs (X.blk s H scope (compEnvC scope cl C X.env) fp) E0 ifs tt wt)
    (he : ∀ (s : Shared) (H : Hp) (C : Addr) (cl : List (Str × Addr)) (fp : List Addr) (pn : List (Addr × Obj)) (xe : Value → Shared → Prop), TB ((X.blk s H scope (compEnvC scope cl C X.env) fp).tr pn xe) L0 E → Passes (L2.CX X.prog X.w) ((X.blk s H scope (compEnvC scope cl C X.env) fp).tr pn xe) E → JE ((X.blk s H scope (compEnvC scope cl C X.env) fp).tr pn xe) E elt te we) (s0 : Shared) (fold : ∀ x, foldedSetIterable iter X.env x = pure x := by intro _; rfl) :
    JS X E (.Assign [.Name y py] (.ListComp elt [⟨tg, iter, ifs, 0⟩] scope pos) spos) (tAsg (tLc wi g tt te (own.map (·.2))) (gName i)) (wSet i (wLcX wI wg wt we (own.map (·.2)) fin)) := by
  refine ⟨ps_setLcX tb calm nd at_ loc sw hi.pe ok (fun s H C cl fp => (hg s H C cl fp).pe) (fun s H C cl fp => (ht s H C cl fp).pe) (fun s H C cl fp pn xe t p => (he s H C cl fp pn xe t p).pe) fold, ?_⟩
  have ab := abs_lcX hfin hi.ab (hg s0 (fun _ => none) 0 [] []).ab (ht s0 (fun _ => none) 0 [] []).ab (he s0 (fun _ => none) 0 [] [] [] (fun _ _ => True) ⟨tb.top, tb.fr, fun _ _ _ => trivial⟩ fun _ _ _ _ _ _ _ _ => trivial).ab
  intro ι σ H σD S DA XX De r s h l lx
  refine ab ι σ H σD S _ XX _ r s h ?_ lx
  intro ι1 d1 S1 v1 H1 e1 r1 p1 h1
  exact l.nx ι1 _ S1 _ H1 e1 r1 ((s.mono e1).set i p1) h1
end
/-! ### the walk -/
theorem ax_xlcx {wi : WI} {wg : WG} {wt : WT} {we : WE} {vs : List Nat} {fin : List D → Sto → VKD → Prop} {σ : ASt} {S : Sto} {Q : VKD} {X : XKD} : wLcX wi wg wt we vs fin σ S Q X = (wi σ S (fun src S1 => lcQX src wg wt we (wipeD σ vs) X (Lz (fun acc S2 => fin acc S2 Q) .mk) S1) X) := id rfl
theorem ax_xlcx_seq {ds : List D} {wg : WG} {wt : WT} {we : WE} {σ : ASt} {X : XKD} {Q : List D → Sto → Prop} {S : Sto} : lcQX (.seq ds) wg wt we σ X Q S = (ds.length ≤ sizeLine ∧ lcLX wg wt we σ X Q ds [] S) := id rfl
theorem ax_xlcx_cel {n : Nat} {wg : WG} {wt : WT} {we : WE} {σ : ASt} {X : XKD} {Q : List D → Sto → Prop} {S : Sto} : lcQX (.cel n) wg wt we σ X Q S = (cellLen S n ≤ sizeLine ∧ lcCX wg wt we σ X Q (.cel n) (cellLen S n) 0 [] S) := id rfl
theorem ax_xturnx {a : Option D} {d : D} {acc : List D} {wg : WG} {wt : WT} {we : WE} {σ : ASt} {X : XKD} {S : Sto} {R : List D → Sto → Prop} : lcTurnX wg wt we (a :: σ) X d acc S R = (wg d (a :: σ) S (Lz (fun σ2 S2 => wt σ2 S2 (fun b S3 => if b = true then Lz (we σ2 S3 (fun y S4 => R (acc ++ [y]) S4) X) .mk else Lz (R acc S3) .mk) X0) .mk) X0) := id rfl
/-- over a list that is mapped: each element goes on or raises -/
theorem lcx_each {α : Type} {wg : WG} {wt : WT} {we : WE} {σ : ASt} {X : XKD} {Q : List D → Sto → Prop} {S : Sto} (xs : List α) (e f : α → D) (good : α → Prop) (bad : Prop)
    (hs : ∀ a acc (R : List D → Sto → Prop), a ∈ xs → (good a → R (acc ++ [f a]) S) → (¬ good a → bad) → lcTurnX wg wt we σ X (e a) acc S R) (hb : (∃ a ∈ xs, ¬ good a) → bad) (hq : (∀ a ∈ xs, good a) → Q (xs.map f) S) : lcLX wg wt we σ X Q (xs.map e) [] S := by
  have key : ∀ (ys zs : List α), zs ++ ys = xs → (∀ a ∈ zs, good a) → lcLX wg wt we σ X Q (ys.map e) (zs.map f) S := by
    intro ys
    induction ys with
    | nil =>
      intro zs h g
      rw [List.append_nil] at h
      subst h
      rw [List.map_nil, lcLX]
      exact hq g
    | cons y ys ih =>
      intro zs h g
      rw [List.map_cons, lcLX]
      have hy : y ∈ xs := h ▸ List.mem_append_right _ List.mem_cons_self
      refine hs y _ _ hy (fun gy => ?_) fun n => hb ⟨y, hy, n⟩
      have q := ih (zs ++ [y]) (by rw [List.append_assoc]; exact h) fun a ha => (List.mem_append.mp ha).elim (g a) fun z => (List.mem_singleton.mp z) ▸ gy
      rw [List.map_append] at q
      exact q
  exact key xs [] rfl fun _ h => nomatch h
/-! ### None in a tuple of tuples, ints and Nones -/
section
variable {X : Cx} {E : XK} {pos : Pos} {a b : Expr} {ta tb : TE} {wa wb : WE}
def NTI (K : PySem.W.Frag) (H : Hp) (z : V) : Prop := z = .non ∨ (∃ i, z = .int i) ∨ ∃ (a : Addr) (ys : List V), z = .ref a ∧ SqT K H a ys
theorem nti_u {K : PySem.W.Frag} {H : Hp} : ∀ {xs : List V} {us : List Value}, Vals xs us → (∀ z ∈ xs, NTI K H z) → us.any nonU = xs.any nonV
  | _, _, .nil, _ => rfl
  | y :: xs, u :: us, .cons r t, f => by
    rw [List.any_cons, List.any_cons, nti_u t fun z hz => f z (List.mem_cons_of_mem _ hz)]
    congr 1
    rcases f y List.mem_cons_self with rfl | ⟨i, rfl⟩ | ⟨a, ys, rfl, _⟩
    · rw [show u = Value.none from r]; rfl
    · obtain ⟨k, e⟩ := r; rw [e]; rfl
    · rw [show u = Value.ref a from r]; rfl
theorem nti_eq {A : Around} {pins : List (Addr × Obj)} {σ : L2.St} {H : Hp} {s : Shared} (I : Inv X pins σ H s) (hu : A.units < cLine) : ∀ {xs : List V} {us : List Value}, Vals xs us → (∀ z ∈ xs, NTI X.K H z) → ∀ u ∈ us, SeqAt.EqAt A s u .none (nonU u)
  | _, _, .nil, _ => fun u hu' => nomatch hu'
  | y :: xs, u :: us, .cons r t, f => fun u' hu' => by
    rcases List.mem_cons.mp hu' with e | hu'
    · subst e
      rcases f y List.mem_cons_self with rfl | ⟨i, rfl⟩ | ⟨a, ys, rfl, q⟩
      · rw [show u' = Value.none from r]
        exact SeqAt.EqAt.same _
      · obtain ⟨k, e⟩ := r
        rw [e]
        exact SeqAt.EqAt.int_none i k
      · rw [show u' = Value.ref a from r]
        obtain ⟨its, _, hl, _⟩ := I.tuple q
        exact SeqAt.EqAt.tuple_none hl hu
    · exact nti_eq I hu t (fun z hz => f z (List.mem_cons_of_mem _ hz)) u' hu'
def rNoneU (K : PySem.W.Frag) : R2 := fun x y H Q => ∃ p xs, x = .non ∧ y = .ref p ∧ SqT K H p xs ∧ (∀ z ∈ xs, NTI K H z) ∧ Q (.bl (xs.any nonV)) H
theorem op_noneInU (hu : X.A.units + 64 < cLine) : OpR X (compareOp .In) (rNoneU X.K) := by
  intro pins s σ H x y v u Q I rx ry h
  obtain ⟨p, xs, rfl, rfl, hq, f, q⟩ := h
  cases rx
  cases ry
  obtain ⟨its, rv, hl, _⟩ := I.tuple hq
  have hu1 : X.A.in1.units < cLine := by show X.A.units + 1 < cLine; omega
  refine SeqAt.in_tupleAt nonU hl (fun z hz => nti_eq I hu1 rv f z (by simpa using hz)) ⟨.bl _, H, I, rfl, ?_⟩
  rw [show its.toArray.any nonU = its.any nonU by simp, nti_u rv f]
  exact q
def ntiD : D → Bool
  | .non => true
  | .tup _ => true
  | .int _ => true
  | _ => false
def fNoneU : F2 := fun x y S Q _ => match x, y with
  | .non, .tup ds => ds.all ntiD = true ∧ Q (.bl (ds.any nonD)) S
  | _, _ => False
theorem nti_rep {K : PySem.W.Frag} {ι : Ad} {H : Hp} : ∀ {ds : List D} {xs : List V}, RepL K ι H ds xs → ds.all ntiD = true → (∀ z ∈ xs, NTI K H z) ∧ xs.any nonV = ds.any nonD
  | [], xs, h, _ => by
    unfold RepL at h
    subst h
    exact ⟨fun z hz => absurd hz List.not_mem_nil, rfl⟩
  | d :: ds, xs, h, f => by
    unfold RepL at h
    obtain ⟨x, r, rfl, h1, h2⟩ := h
    rw [List.all_cons, Bool.and_eq_true] at f
    obtain ⟨g1, g2⟩ := nti_rep h2 f.2
    have go : ∀ y : V, NTI K H y → nonV y = nonD d → (∀ z ∈ y :: r, NTI K H z) ∧ (y :: r).any nonV = (d :: ds).any nonD := fun y ny e => ⟨fun z hz => (List.mem_cons.mp hz).elim (fun q => q ▸ ny) (g1 z), by rw [List.any_cons, List.any_cons, g2, e]⟩
    cases d <;> first | exact absurd f.1 Bool.false_ne_true | skip
    · have hx : x = .non := by unfold Rep at h1; exact h1
      exact go x (.inl hx) (hx ▸ rfl)
    · rename_i i
      have hx : x = .int i := by unfold Rep at h1; exact h1
      exact go x (.inr (.inl ⟨i, hx⟩)) (hx ▸ rfl)
    · obtain ⟨p, ys, e, q, _⟩ := rep_tup.mp h1
      exact go x (.inr (.inr ⟨p, ys, e, q⟩)) (e ▸ rfl)
theorem abs_noneU {K : PySem.W.Frag} : AbsR2 K E (rNoneU K) fNoneU := by
  intro ι H S x y v u Q XX Qh r hx hy h l lx
  cases x <;> cases y <;> try exact h.elim
  obtain ⟨p, xs, rfl, hp, ra⟩ := rep_tup.mp hy
  obtain ⟨f, q⟩ := h
  obtain ⟨g1, g2⟩ := nti_rep ra f
  refine ⟨p, xs, by unfold Rep at hx; exact hx, rfl, hp, g1, ?_⟩
  rw [g2]
  exact l ι _ S _ H Ext.refl r (rep_bl.mpr rfl) q
theorem jt_noneInU {K : PySem.W.Frag} (hu : X.A.units + 64 < cLine) (hm : behindInMarks .In b = false := by rfl) (ha : JE X E a ta wa) (hb : JE X E b tb wb) (hK : X.K = K := by rfl) : JT X E (.Compare a [.In] [b] pos) (tTest (tOp (rNoneU K) ta tb)) (wTest (wOp fNoneU wa wb)) := by
  subst hK
  exact jt_cmp (op_noneInU hu) abs_noneU ha hb hm
end
theorem ax_noneu {ds : List D} {S : Sto} {Q : VKD} {X : XKD} : fNoneU .non (.tup ds) S Q X = (ds.all ntiD = true ∧ Q (.bl (ds.any nonD)) S) := id rfl
end AW
namespace My
open PySem PySem.Spec PyProof.Rows L2 AW
abbrev xns : List XN := [.face, .dom, .sing]
abbrev pwx : Program := PySem.Challenge.pw_facetlore_k23_changes_of_domain
def topS (i : Nat) : Stmt := PySem.Challenge.pw_facetlore_k23_changes_of_domain.main.body.getD i (.Pass ⟨0, 0, 0, 0⟩)
/-! ### common -/
abbrev s_common : Stmt := topS 5
theorem sc_common : FnScope ["a", "b", "first", "second", "q", "g", "s", "t"] ["a", "b"] (defScope s_common) := ⟨rfl, rfl, rfl, by decide +kernel, rfl, by decide +kernel, by decide +kernel⟩
def w_common : WS :=
  wSeq (wIfS (wAnd (wTest (wOp fEq (wVar 0) (wC (.int 0)))) (wTest (wOp fEq (wVar 1) (wC (.int 0)))))
    (wRet (wTup (wCons (wC (.int 0)) (wCons (wC (.int 0)) (wCons (wC (.int 0)) (wNil))))))
    (wNext))
    (wSeq (wIfS (wTest (wOp fEq (wVar 1) (wC (.int 0))))
    (wRet (wTup (wCons (wCB gAbs (wCons (wVar 0) (wNil))) (wCons (wIf (wTest (wOp fGt (wVar 0) (wC (.int 0)))) (wC (.int 1)) (wNeg (wC (.int 1)))) (wCons (wC (.int 0)) (wNil))))))
    (wNext))
    (wSeq (wIfS (wTest (wOp fEq (wVar 0) (wC (.int 0))))
    (wRet (wTup (wCons (wCB gAbs (wCons (wVar 1) (wNil))) (wCons (wC (.int 0)) (wCons (wIf (wTest (wOp fGt (wVar 1) (wC (.int 0)))) (wC (.int 1)) (wNeg (wC (.int 1)))) (wNil))))))
    (wNext))
    (wSeq (wSet 2 (wTup (wCons (wCB gAbs (wCons (wVar 0) (wNil))) (wCons (wC (.int 1)) (wCons (wC (.int 0)) (wNil))))))
    (wSeq (wSet 3 (wTup (wCons (wCB gAbs (wCons (wVar 1) (wNil))) (wCons (wC (.int 0)) (wCons (wC (.int 1)) (wNil))))))
    (wSeq (wWhile (wTest (wOp fNe (wOp fIx (wVar 3) (wC (.int 0))) (wC (.int 0))))
    (wSeq (wSet 4 (wOp fDivX (wOp fIx (wVar 2) (wC (.int 0))) (wOp fIx (wVar 3) (wC (.int 0)))))
    (wPar 2 3 (wCons (wVar 3) (wCons (wTup (wCons (wOp fSub (wOp fIx (wVar 2) (wC (.int 0))) (wOp fMul (wVar 4) (wOp fIx (wVar 3) (wC (.int 0))))) (wCons (wOp fSub (wOp fIx (wVar 2) (wC (.int 1))) (wOp fMul (wVar 4) (wOp fIx (wVar 3) (wC (.int 1))))) (wCons (wOp fSub (wOp fIx (wVar 2) (wC (.int 2))) (wOp fMul (wVar 4) (wOp fIx (wVar 3) (wC (.int 2))))) (wNil))))) (wNil))))))
    (wSeq (wAsg (wVar 2) (wgTup 3 (wgCons (wgName 5) (wgCons (wgName 6) (wgCons (wgName 7) (wgNil))))))
    (wRet (wTup (wCons (wVar 5) (wCons (wIf (wTest (wOp fGt (wVar 0) (wC (.int 0)))) (wVar 6) (wNeg (wVar 6))) (wCons (wIf (wTest (wOp fGt (wVar 1) (wC (.int 0)))) (wVar 7) (wNeg (wVar 7))) (wNil))))))))))))
theorem j_common {P : Program} {w : World} {K : PySem.W.Frag} {mg : Str → Option Value} {base : Heap} {k : Nat} {f : Addr} {cdv : Value} {A : Around} {outer : List Env} {s : Shared} {H : Hp} {E : XK} (hr : Room k (A.deeper (envOfC "common" (defScope s_common) s.heap.objs.size f cdv))) (m_abs : mg "abs" = none) (sb : base.NoSeer) (tr : P.given.tree = none) (kb : 33 ≤ k) :
    ∃ t, JSs (cxOf (L2.CX P w) P w K mg base ["a", "b", "first", "second", "q", "g", "s", "t"] "common" (defScope s_common) f cdv A outer s H E) E (defBody s_common) t (w_common) := by
  have hx : Passes (L2.CX P w) (cxOf (L2.CX P w) P w K mg base ["a", "b", "first", "second", "q", "g", "s", "t"] "common" (defScope s_common) f cdv A outer s H E) E := px_of (x := "common")
  have hp := po_of (P := P) (w := w) (K := K) (mg := mg) (base := base) (x := "common") (qual := "common") (sc := defScope s_common) (f := f) (cdv := cdv) (A := A) (outer := outer) (s := s) (H := H) (E := E) (N := ["a", "b", "first", "second", "q", "g", "s", "t"])
  have hu := Room.units hr
  have nd := sc_common.nd
  have bo := big_of (w := w) (K := K) (mg := mg) (N := ["a", "b", "first", "second", "q", "g", "s", "t"]) (cdv := cdv) (outer := outer) (H := H) (E := E) sb tr hr kb rfl rfl
  exact ⟨_, jss_cons (js_if ((jw_and (jt_eq (K := K) hu (je_var 0) (je_int)) (jw_and1 (jt_eq (K := K) hu (je_var 1) (je_int)))).jt)
    (jss_one (js_ret (je_tup (ja_cons (je_int) (ja_cons (je_int) (ja_cons (je_int) (ja_nil)))))))
    (jss_nil))
    (jss_cons (js_if (jt_eq (K := K) hu (je_var 1) (je_int))
    (jss_one (js_ret (je_tup (ja_cons (je_abs m_abs (ja_cons (je_var 0) (ja_nil))) (ja_cons (je_if (jt_gt (je_var 0) (je_int)) (je_int) (je_neg (je_int))) (ja_cons (je_int) (ja_nil)))))))
    (jss_nil))
    (jss_cons (js_if (jt_eq (K := K) hu (je_var 0) (je_int))
    (jss_one (js_ret (je_tup (ja_cons (je_abs m_abs (ja_cons (je_var 1) (ja_nil))) (ja_cons (je_int) (ja_cons (je_if (jt_gt (je_var 1) (je_int)) (je_int) (je_neg (je_int))) (ja_nil)))))))
    (jss_nil))
    (jss_cons (js_set (i := 2) nd rfl (Or.inl rfl) (je_tup (ja_cons (je_abs m_abs (ja_cons (je_var 0) (ja_nil))) (ja_cons (je_int) (ja_cons (je_int) (ja_nil))))))
    (jss_cons (js_set (i := 3) nd rfl (Or.inl rfl) (je_tup (ja_cons (je_abs m_abs (ja_cons (je_var 1) (ja_nil))) (ja_cons (je_int) (ja_cons (je_int) (ja_nil))))))
    (jss_cons (js_while hp (jt_ne (K := K) hu (je_ix (K := K) (je_var 3) (je_int)) (je_int))
    (jss_cons (js_set (i := 4) nd rfl (Or.inl rfl) (je_divX bo (je_ix (K := K) (je_var 2) (je_int)) (je_ix (K := K) (je_var 3) (je_int))))
    (jss_one (js_par (i := 2) (j := 3) rfl nd rfl rfl (by decide) rfl rfl (ja_cons (je_var 3) (ja_cons (je_tup (ja_cons (je_sub (je_ix (K := K) (je_var 2) (je_int)) (je_mul (je_var 4) (je_ix (K := K) (je_var 3) (je_int)))) (ja_cons (je_sub (je_ix (K := K) (je_var 2) (je_int)) (je_mul (je_var 4) (je_ix (K := K) (je_var 3) (je_int)))) (ja_cons (je_sub (je_ix (K := K) (je_var 2) (je_int)) (je_mul (je_var 4) (je_ix (K := K) (je_var 3) (je_int)))) (ja_nil))))) (ja_nil)))))))
    (jss_cons (js_asg (vs := [5, 6, 7]) (je_var 2) (jg_tup (K := K) rfl (jgs_cons (jg_name 5 nd rfl (by first | exact Or.inl rfl | exact Or.inr rfl)) (jgs_cons (jg_name 6 nd rfl (by first | exact Or.inl rfl | exact Or.inr rfl)) (jgs_cons (jg_name 7 nd rfl (by first | exact Or.inl rfl | exact Or.inr rfl)) (jgs_nil))))))
    (jss_one (js_ret (je_tup (ja_cons (je_var 5) (ja_cons (je_if (jt_gt (je_var 0) (je_int)) (je_var 6) (je_neg (je_var 6))) (ja_cons (je_if (jt_gt (je_var 1) (je_int)) (je_var 7) (je_neg (je_var 7))) (ja_nil)))))))))))))⟩
/-! ### divisor -/
abbrev s_divisor : Stmt := topS 6
theorem sc_divisor : FnScope ["a", "b"] ["a", "b"] (defScope s_divisor) := ⟨rfl, rfl, rfl, by decide +kernel, rfl, by decide +kernel, by decide +kernel⟩
def w_divisor : WS :=
  wSeq (wSet 0 (wCB gAbs (wCons (wVar 0) (wNil))))
    (wSeq (wSet 1 (wCB gAbs (wCons (wVar 1) (wNil))))
    (wSeq (wWhile (wTest (wOp fNe (wVar 1) (wC (.int 0))))
    (wPar 0 1 (wCons (wVar 1) (wCons (wOp fMod (wVar 0) (wVar 1)) (wNil)))))
    (wRet (wVar 0))))
theorem j_divisor {P : Program} {w : World} {K : PySem.W.Frag} {mg : Str → Option Value} {base : Heap} {k : Nat} {f : Addr} {cdv : Value} {A : Around} {outer : List Env} {s : Shared} {H : Hp} {E : XK} (hr : Room k (A.deeper (envOfC "divisor" (defScope s_divisor) s.heap.objs.size f cdv))) (m_abs : mg "abs" = none) :
    ∃ t, JSs (cxOf (L2.CX P w) P w K mg base ["a", "b"] "divisor" (defScope s_divisor) f cdv A outer s H E) E (defBody s_divisor) t (w_divisor) := by
  have hx : Passes (L2.CX P w) (cxOf (L2.CX P w) P w K mg base ["a", "b"] "divisor" (defScope s_divisor) f cdv A outer s H E) E := px_of (x := "divisor")
  have hp := po_of (P := P) (w := w) (K := K) (mg := mg) (base := base) (x := "divisor") (qual := "divisor") (sc := defScope s_divisor) (f := f) (cdv := cdv) (A := A) (outer := outer) (s := s) (H := H) (E := E) (N := ["a", "b"])
  have hu := Room.units hr
  have nd := sc_divisor.nd
  exact ⟨_, jss_cons (js_set (i := 0) nd rfl (Or.inl rfl) (je_abs m_abs (ja_cons (je_var 0) (ja_nil))))
    (jss_cons (js_set (i := 1) nd rfl (Or.inl rfl) (je_abs m_abs (ja_cons (je_var 1) (ja_nil))))
    (jss_cons (js_while hp (jt_ne (K := K) hu (je_var 1) (je_int))
    (jss_one (js_par (i := 0) (j := 1) rfl nd rfl rfl (by decide) rfl rfl (ja_cons (je_var 1) (ja_cons (je_mod (je_var 0) (je_var 1)) (ja_nil))))))
    (jss_one (js_ret (je_var 0)))))⟩
/-! ### is_prime -/
abbrev s_is_prime : Stmt := topS 7
theorem sc_is_prime : FnScope ["n", "k"] ["n"] (defScope s_is_prime) := ⟨rfl, rfl, rfl, by decide +kernel, rfl, by decide +kernel, by decide +kernel⟩
def w_is_prime : WS :=
  wSeq (wIfS (wTest (wOp fLt (wVar 0) (wC (.int 4))))
    (wRet (wOp fGt (wVar 0) (wC (.int 1))))
    (wNext))
    (wSeq (wIfS (wTest (wOp fEq (wOp fMod (wVar 0) (wC (.int 2))) (wC (.int 0))))
    (wRet (wC (.bl false)))
    (wNext))
    (wSeq (wSet 1 (wC (.int 3)))
    (wSeq (wWhile (wTest (wOp fLe (wOp fMul (wVar 1) (wVar 1)) (wVar 0)))
    (wSeq (wIfS (wTest (wOp fEq (wOp fMod (wVar 0) (wVar 1)) (wC (.int 0))))
    (wRet (wC (.bl false)))
    (wNext))
    (wAug 1 fIAdd (wC (.int 2)))))
    (wRet (wC (.bl true))))))
theorem j_is_prime {P : Program} {w : World} {K : PySem.W.Frag} {mg : Str → Option Value} {base : Heap} {k : Nat} {f : Addr} {cdv : Value} {A : Around} {outer : List Env} {s : Shared} {H : Hp} {E : XK} (hr : Room k (A.deeper (envOfC "is_prime" (defScope s_is_prime) s.heap.objs.size f cdv))) :
    ∃ t, JSs (cxOf (L2.CX P w) P w K mg base ["n", "k"] "is_prime" (defScope s_is_prime) f cdv A outer s H E) E (defBody s_is_prime) t (w_is_prime) := by
  have hx : Passes (L2.CX P w) (cxOf (L2.CX P w) P w K mg base ["n", "k"] "is_prime" (defScope s_is_prime) f cdv A outer s H E) E := px_of (x := "is_prime")
  have hp := po_of (P := P) (w := w) (K := K) (mg := mg) (base := base) (x := "is_prime") (qual := "is_prime") (sc := defScope s_is_prime) (f := f) (cdv := cdv) (A := A) (outer := outer) (s := s) (H := H) (E := E) (N := ["n", "k"])
  have hu := Room.units hr
  have nd := sc_is_prime.nd
  exact ⟨_, jss_cons (js_if (jt_lt (je_var 0) (je_int))
    (jss_one (js_ret (je_gt (je_var 0) (je_int))))
    (jss_nil))
    (jss_cons (js_if (jt_eq (K := K) hu (je_mod (je_var 0) (je_int)) (je_int))
    (jss_one (js_ret (je_bl)))
    (jss_nil))
    (jss_cons (js_set (i := 1) nd rfl (Or.inl rfl) (je_int))
    (jss_cons (js_while hp (jt_le (je_mul (je_var 1) (je_var 1)) (je_var 0))
    (jss_cons (js_if (jt_eq (K := K) hu (je_mod (je_var 0) (je_var 1)) (je_int))
    (jss_one (js_ret (je_bl)))
    (jss_nil))
    (jss_one (js_aug (i := 1) nd rfl (Or.inl rfl) (je_int) ip_addAll abs_iadd))))
    (jss_one (js_ret (je_bl))))))⟩
/-! ### fraction -/
abbrev s_fraction : Stmt := topS 8
theorem sc_fraction : FnScope ["n", "d", "g"] ["n", "d"] (defScope s_fraction) := ⟨rfl, rfl, rfl, by decide +kernel, rfl, by decide +kernel, by decide +kernel⟩
def w_fraction (a_divisor : ASp) : WS :=
  wSeq (wSet 2 (wCB a_divisor (wCons (wVar 0) (wCons (wVar 1) (wNil)))))
    (wSeq (wIfS (wTest (wOp fLt (wVar 1) (wC (.int 0))))
    (wSet 2 (wNeg (wVar 2)))
    (wNext))
    (wRet (wTup (wCons (wOp fDivX (wVar 0) (wVar 2)) (wCons (wOp fDivX (wVar 1) (wVar 2)) (wNil))))))
theorem j_fraction {P : Program} {w : World} {K : PySem.W.Frag} {mg : Str → Option Value} {base : Heap} {k : Nat} {f : Addr} {cdv : Value} {A : Around} {outer : List Env} {s : Shared} {H : Hp} {E : XK} (hr : Room k (A.deeper (envOfC "fraction" (defScope s_fraction) s.heap.objs.size f cdv))) {a_divisor : ASp} (c_divisor : Cal P w K mg base k "divisor" a_divisor) (sb : base.NoSeer) (tr : P.given.tree = none) (kb : 33 ≤ k) :
    ∃ t, JSs (cxOf (L2.CX P w) P w K mg base ["n", "d", "g"] "fraction" (defScope s_fraction) f cdv A outer s H E) E (defBody s_fraction) t (w_fraction a_divisor) := by
  have hx : Passes (L2.CX P w) (cxOf (L2.CX P w) P w K mg base ["n", "d", "g"] "fraction" (defScope s_fraction) f cdv A outer s H E) E := px_of (x := "fraction")
  have hp := po_of (P := P) (w := w) (K := K) (mg := mg) (base := base) (x := "fraction") (qual := "fraction") (sc := defScope s_fraction) (f := f) (cdv := cdv) (A := A) (outer := outer) (s := s) (H := H) (E := E) (N := ["n", "d", "g"])
  have hu := Room.units hr
  have nd := sc_fraction.nd
  have bo := big_of (w := w) (K := K) (mg := mg) (N := ["n", "d", "g"]) (cdv := cdv) (outer := outer) (H := H) (E := E) sb tr hr kb rfl rfl
  exact ⟨_, jss_cons (js_set (i := 2) nd rfl (Or.inl rfl) (je_call (K := K) c_divisor hr hx (ja_cons (je_var 0) (ja_cons (je_var 1) (ja_nil)))))
    (jss_cons (js_if (jt_lt (je_var 1) (je_int))
    (jss_one (js_set (i := 2) nd rfl (Or.inl rfl) (je_neg (je_var 2))))
    (jss_nil))
    (jss_one (js_ret (je_tup (ja_cons (je_divX bo (je_var 0) (je_var 2)) (ja_cons (je_divX bo (je_var 1) (je_var 2)) (ja_nil)))))))⟩
/-! ### is_integer -/
abbrev s_is_integer : Stmt := topS 11
theorem sc_is_integer : FnScope ["x"] ["x"] (defScope s_is_integer) := ⟨rfl, rfl, rfl, by decide +kernel, rfl, by decide +kernel, by decide +kernel⟩
def w_is_integer : WS :=
  wRet (wAndV (wIsi .int (wVar 0)) (wNotV (wIsi .bool (wVar 0))))
theorem j_is_integer {P : Program} {w : World} {K : PySem.W.Frag} {mg : Str → Option Value} {base : Heap} {k : Nat} {f : Addr} {cdv : Value} {A : Around} {outer : List Env} {s : Shared} {H : Hp} {E : XK} (hr : Room k (A.deeper (envOfC "is_integer" (defScope s_is_integer) s.heap.objs.size f cdv))) (m_isinstance : mg "isinstance" = none) (m_int : mg "int" = none) (m_bool : mg "bool" = none) :
    ∃ t, JSs (cxOf (L2.CX P w) P w K mg base ["x"] "is_integer" (defScope s_is_integer) f cdv A outer s H E) E (defBody s_is_integer) t (w_is_integer) := by
  have hx : Passes (L2.CX P w) (cxOf (L2.CX P w) P w K mg base ["x"] "is_integer" (defScope s_is_integer) f cdv A outer s H E) E := px_of (x := "is_integer")
  have hp := po_of (P := P) (w := w) (K := K) (mg := mg) (base := base) (x := "is_integer") (qual := "is_integer") (sc := defScope s_is_integer) (f := f) (cdv := cdv) (A := A) (outer := outer) (s := s) (H := H) (E := E) (N := ["x"])
  have hu := Room.units hr
  have nd := sc_is_integer.nd
  exact ⟨_, jss_one (js_ret (je_and (K := K) (je_isi (K := K) .int m_isinstance m_int (je_var 0)) (je_one (je_not (K := K) (je_isi (K := K) .bool m_isinstance m_bool (je_var 0))))))⟩
/-! ### is_domain -/
abbrev s_is_domain : Stmt := topS 12
theorem sc_is_domain : FnScope ["d"] ["d"] (defScope s_is_domain) := ⟨rfl, rfl, rfl, by decide +kernel, rfl, by decide +kernel, by decide +kernel⟩
def w_is_domain (a_is_field : ASp) : WS :=
  wSeq (wIfS (wOr (wNotA (wTruA (wIsi .tuple (wVar 0)))) (wOr (wTest (wOp fEq (wCB gLen (wCons (wVar 0) (wNil))) (wC (.int 0)))) (wNotA (wTruA (wIsi .str (wOp fIx (wVar 0) (wC (.int 0))))))))
    (wRet (wC (.bl false)))
    (wNext))
    (wSeq (wIfS (wTest (wOp fEq (wOp fIx (wVar 0) (wC (.int 0))) (wC (.str "P"))))
    (wRet (wAndV (wOp fEq (wCB gLen (wCons (wVar 0) (wNil))) (wC (.int 2))) (wCB a_is_field (wCons (wOp fIx (wVar 0) (wC (.int 1))) (wNil)))))
    (wNext))
    (wRet (wOrV (wOp fEq (wVar 0) (wTup (wCons (wC (.str "Z")) (wNil)))) (wCB a_is_field (wCons (wVar 0) (wNil))))))
theorem j_is_domain {P : Program} {w : World} {K : PySem.W.Frag} {mg : Str → Option Value} {base : Heap} {k : Nat} {f : Addr} {cdv : Value} {A : Around} {outer : List Env} {s : Shared} {H : Hp} {E : XK} (hr : Room k (A.deeper (envOfC "is_domain" (defScope s_is_domain) s.heap.objs.size f cdv))) (m_isinstance : mg "isinstance" = none) (m_tuple : mg "tuple" = none) (m_len : mg "len" = none) (m_str : mg "str" = none) {a_is_field : ASp} (c_is_field : Cal P w K mg base k "is_field" a_is_field) :
    ∃ t, JSs (cxOf (L2.CX P w) P w K mg base ["d"] "is_domain" (defScope s_is_domain) f cdv A outer s H E) E (defBody s_is_domain) t (w_is_domain a_is_field) := by
  have hx : Passes (L2.CX P w) (cxOf (L2.CX P w) P w K mg base ["d"] "is_domain" (defScope s_is_domain) f cdv A outer s H E) E := px_of (x := "is_domain")
  have hp := po_of (P := P) (w := w) (K := K) (mg := mg) (base := base) (x := "is_domain") (qual := "is_domain") (sc := defScope s_is_domain) (f := f) (cdv := cdv) (A := A) (outer := outer) (s := s) (H := H) (E := E) (N := ["d"])
  have hu := Room.units hr
  have nd := sc_is_domain.nd
  exact ⟨_, jss_cons (js_if ((jw_or (jt_not (jt_tru (K := K) (je_isi (K := K) .tuple m_isinstance m_tuple (je_var 0)))) (jw_or (jt_eq (K := K) hu (je_len (K := K) m_len (ja_cons (je_var 0) (ja_nil))) (je_int)) (jw_or1 (jt_not (jt_tru (K := K) (je_isi (K := K) .str m_isinstance m_str (je_ix (K := K) (je_var 0) (je_int)))))))).jt)
    (jss_one (js_ret (je_bl)))
    (jss_nil))
    (jss_cons (js_if (jt_eq (K := K) hu (je_ix (K := K) (je_var 0) (je_int)) (je_str))
    (jss_one (js_ret (je_and (K := K) (je_eq (K := K) hu (je_len (K := K) m_len (ja_cons (je_var 0) (ja_nil))) (je_int)) (je_one (je_call (K := K) c_is_field hr hx (ja_cons (je_ix (K := K) (je_var 0) (je_int)) (ja_nil)))))))
    (jss_nil))
    (jss_one (js_ret (je_or (K := K) (je_eq (K := K) hu (je_var 0) (je_tup (ja_cons (je_str) (ja_nil)))) (je_one (je_call (K := K) c_is_field hr hx (ja_cons (je_var 0) (ja_nil))))))))⟩
/-! ### is_field -/
abbrev s_is_field : Stmt := topS 13
theorem sc_is_field : FnScope ["d"] ["d"] (defScope s_is_field) := ⟨rfl, rfl, rfl, by decide +kernel, rfl, by decide +kernel, by decide +kernel⟩
def w_is_field (a_is_integer : ASp) (a_is_prime : ASp) : WS :=
  wSeq (wIfS (wOr (wNotA (wTruA (wIsi .tuple (wVar 0)))) (wOr (wTest (wOp fEq (wCB gLen (wCons (wVar 0) (wNil))) (wC (.int 0)))) (wNotA (wTruA (wIsi .str (wOp fIx (wVar 0) (wC (.int 0))))))))
    (wRet (wC (.bl false)))
    (wNext))
    (wSeq (wIfS (wTest (wOp fEq (wOp fIx (wVar 0) (wC (.int 0))) (wC (.str "Q"))))
    (wRet (wOp fEq (wCB gLen (wCons (wVar 0) (wNil))) (wC (.int 1))))
    (wNext))
    (wRet (wAndV (wOp fEq (wOp fIx (wVar 0) (wC (.int 0))) (wC (.str "F"))) (wAndV (wOp fEq (wCB gLen (wCons (wVar 0) (wNil))) (wC (.int 2))) (wAndV (wCB a_is_integer (wCons (wOp fIx (wVar 0) (wC (.int 1))) (wNil))) (wAndV (wChain fLt fLe (wC (.int 1)) (wOp fIx (wVar 0) (wC (.int 1))) (wC (.int 65521))) (wCB a_is_prime (wCons (wOp fIx (wVar 0) (wC (.int 1))) (wNil)))))))))
theorem j_is_field {P : Program} {w : World} {K : PySem.W.Frag} {mg : Str → Option Value} {base : Heap} {k : Nat} {f : Addr} {cdv : Value} {A : Around} {outer : List Env} {s : Shared} {H : Hp} {E : XK} (hr : Room k (A.deeper (envOfC "is_field" (defScope s_is_field) s.heap.objs.size f cdv))) (m_isinstance : mg "isinstance" = none) (m_tuple : mg "tuple" = none) (m_len : mg "len" = none) (m_str : mg "str" = none) {u_MOST_PRIME : Tok} (m_MOST_PRIME : mg "MOST_PRIME" = some (.int 65521 u_MOST_PRIME)) {a_is_integer : ASp} (c_is_integer : Cal P w K mg base k "is_integer" a_is_integer) {a_is_prime : ASp} (c_is_prime : Cal P w K mg base k "is_prime" a_is_prime) :
    ∃ t, JSs (cxOf (L2.CX P w) P w K mg base ["d"] "is_field" (defScope s_is_field) f cdv A outer s H E) E (defBody s_is_field) t (w_is_field a_is_integer a_is_prime) := by
  have hx : Passes (L2.CX P w) (cxOf (L2.CX P w) P w K mg base ["d"] "is_field" (defScope s_is_field) f cdv A outer s H E) E := px_of (x := "is_field")
  have hp := po_of (P := P) (w := w) (K := K) (mg := mg) (base := base) (x := "is_field") (qual := "is_field") (sc := defScope s_is_field) (f := f) (cdv := cdv) (A := A) (outer := outer) (s := s) (H := H) (E := E) (N := ["d"])
  have hu := Room.units hr
  have nd := sc_is_field.nd
  exact ⟨_, jss_cons (js_if ((jw_or (jt_not (jt_tru (K := K) (je_isi (K := K) .tuple m_isinstance m_tuple (je_var 0)))) (jw_or (jt_eq (K := K) hu (je_len (K := K) m_len (ja_cons (je_var 0) (ja_nil))) (je_int)) (jw_or1 (jt_not (jt_tru (K := K) (je_isi (K := K) .str m_isinstance m_str (je_ix (K := K) (je_var 0) (je_int)))))))).jt)
    (jss_one (js_ret (je_bl)))
    (jss_nil))
    (jss_cons (js_if (jt_eq (K := K) hu (je_ix (K := K) (je_var 0) (je_int)) (je_str))
    (jss_one (js_ret (je_eq (K := K) hu (je_len (K := K) m_len (ja_cons (je_var 0) (ja_nil))) (je_int))))
    (jss_nil))
    (jss_one (js_ret (je_and (K := K) (je_eq (K := K) hu (je_ix (K := K) (je_var 0) (je_int)) (je_str)) (je_and (K := K) (je_eq (K := K) hu (je_len (K := K) m_len (ja_cons (je_var 0) (ja_nil))) (je_int)) (je_and (K := K) (je_call (K := K) c_is_integer hr hx (ja_cons (je_ix (K := K) (je_var 0) (je_int)) (ja_nil))) (je_and (K := K) (je_chain op_lt op_le abs_cmpI abs_cmpI (je_int) (je_ix (K := K) (je_var 0) (je_int)) (je_globI m_MOST_PRIME)) (je_one (je_call (K := K) c_is_prime hr hx (ja_cons (je_ix (K := K) (je_var 0) (je_int)) (ja_nil)))))))))))⟩
/-! ### need_field -/
abbrev s_need_field : Stmt := topS 14
theorem sc_need_field : FnScope ["d"] ["d"] (defScope s_need_field) := ⟨rfl, rfl, rfl, by decide +kernel, rfl, by decide +kernel, by decide +kernel⟩
def w_need_field (e : XN → Value) (a_is_field : ASp) : WS :=
  wIfS (wNotA (wTruA (wCB a_is_field (wCons (wVar 0) (wNil)))))
    (wRaise (e .dom))
    (wNext)
theorem j_need_field {P : Program} {w : World} {K : PySem.W.Frag} {mg : Str → Option Value} {base : Heap} {k : Nat} {f : Addr} {cdv : Value} {A : Around} {outer : List Env} {s : Shared} {H : Hp} {E : XK} (hr : Room k (A.deeper (envOfC "need_field" (defScope s_need_field) s.heap.objs.size f cdv))) {a_is_field : ASp} (c_is_field : Cal P w K mg base k "is_field" a_is_field) {e : XN → Value} (xo : XOk K mg xns e) :
    ∃ t, JSs (cxOf (L2.CX P w) P w K mg base ["d"] "need_field" (defScope s_need_field) f cdv A outer s H E) E (defBody s_need_field) t (w_need_field e a_is_field) := by
  have hx : Passes (L2.CX P w) (cxOf (L2.CX P w) P w K mg base ["d"] "need_field" (defScope s_need_field) f cdv A outer s H E) E := px_of (x := "need_field")
  have hp := po_of (P := P) (w := w) (K := K) (mg := mg) (base := base) (x := "need_field") (qual := "need_field") (sc := defScope s_need_field) (f := f) (cdv := cdv) (A := A) (outer := outer) (s := s) (H := H) (E := E) (N := ["d"])
  have hu := Room.units hr
  have nd := sc_need_field.nd
  exact ⟨_, jss_one (js_if (jt_not (jt_tru (K := K) (je_call (K := K) c_is_field hr hx (ja_cons (je_var 0) (ja_nil)))))
    (jss_one (js_raise (xo.cls .dom (by decide)) (takes_of rfl rfl rfl rfl)))
    (jss_nil))⟩
/-! ### zero -/
abbrev s_zero : Stmt := topS 15
theorem sc_zero : FnScope ["d"] ["d"] (defScope s_zero) := ⟨rfl, rfl, rfl, by decide +kernel, rfl, by decide +kernel, by decide +kernel⟩
def w_zero : WS :=
  wSeq (wIfS (wTest (wOp fEq (wOp fIx (wVar 0) (wC (.int 0))) (wC (.str "Q"))))
    (wRet (wTup (wCons (wC (.int 0)) (wCons (wC (.int 1)) (wNil)))))
    (wNext))
    (wRet (wIf (wTest (wOp fEq (wOp fIx (wVar 0) (wC (.int 0))) (wC (.str "P")))) (wTup (wNil)) (wC (.int 0))))
theorem j_zero {P : Program} {w : World} {K : PySem.W.Frag} {mg : Str → Option Value} {base : Heap} {k : Nat} {f : Addr} {cdv : Value} {A : Around} {outer : List Env} {s : Shared} {H : Hp} {E : XK} (hr : Room k (A.deeper (envOfC "zero" (defScope s_zero) s.heap.objs.size f cdv))) :
    ∃ t, JSs (cxOf (L2.CX P w) P w K mg base ["d"] "zero" (defScope s_zero) f cdv A outer s H E) E (defBody s_zero) t (w_zero) := by
  have hx : Passes (L2.CX P w) (cxOf (L2.CX P w) P w K mg base ["d"] "zero" (defScope s_zero) f cdv A outer s H E) E := px_of (x := "zero")
  have hp := po_of (P := P) (w := w) (K := K) (mg := mg) (base := base) (x := "zero") (qual := "zero") (sc := defScope s_zero) (f := f) (cdv := cdv) (A := A) (outer := outer) (s := s) (H := H) (E := E) (N := ["d"])
  have hu := Room.units hr
  have nd := sc_zero.nd
  exact ⟨_, jss_cons (js_if (jt_eq (K := K) hu (je_ix (K := K) (je_var 0) (je_int)) (je_str))
    (jss_one (js_ret (je_tup (ja_cons (je_int) (ja_cons (je_int) (ja_nil))))))
    (jss_nil))
    (jss_one (js_ret (je_if (jt_eq (K := K) hu (je_ix (K := K) (je_var 0) (je_int)) (je_str)) (je_tup (ja_nil)) (je_int))))⟩
/-! ### from_integer -/
abbrev s_from_integer : Stmt := topS 16
theorem sc_from_integer : FnScope ["d", "n"] ["d", "n"] (defScope s_from_integer) := ⟨rfl, rfl, rfl, by decide +kernel, rfl, by decide +kernel, by decide +kernel⟩
def w_from_integer (a_trimmed : ASp) (a_from_integer : ASp) : WS :=
  wSeq (wIfS (wTest (wOp fEq (wOp fIx (wVar 0) (wC (.int 0))) (wC (.str "Z"))))
    (wRet (wVar 1))
    (wNext))
    (wSeq (wIfS (wTest (wOp fEq (wOp fIx (wVar 0) (wC (.int 0))) (wC (.str "Q"))))
    (wRet (wTup (wCons (wVar 1) (wCons (wC (.int 1)) (wNil)))))
    (wNext))
    (wSeq (wIfS (wTest (wOp fEq (wOp fIx (wVar 0) (wC (.int 0))) (wC (.str "F"))))
    (wRet (wOp fMod (wVar 1) (wOp fIx (wVar 0) (wC (.int 1)))))
    (wNext))
    (wRet (wCB a_trimmed (wCons (wOp fIx (wVar 0) (wC (.int 1))) (wCons (wLst (wCons (wCB a_from_integer (wCons (wOp fIx (wVar 0) (wC (.int 1))) (wCons (wVar 1) (wNil)))) (wNil))) (wNil)))))))
theorem j_from_integer {P : Program} {w : World} {K : PySem.W.Frag} {mg : Str → Option Value} {base : Heap} {k : Nat} {f : Addr} {cdv : Value} {A : Around} {outer : List Env} {s : Shared} {H : Hp} {E : XK} (hr : Room k (A.deeper (envOfC "from_integer" (defScope s_from_integer) s.heap.objs.size f cdv))) {a_trimmed : ASp} (c_trimmed : Cal P w K mg base k "trimmed" a_trimmed) {a_from_integer : ASp} (c_from_integer : Cal P w K mg base k "from_integer" a_from_integer) :
    ∃ t, JSs (cxOf (L2.CX P w) P w K mg base ["d", "n"] "from_integer" (defScope s_from_integer) f cdv A outer s H E) E (defBody s_from_integer) t (w_from_integer a_trimmed a_from_integer) := by
  have hx : Passes (L2.CX P w) (cxOf (L2.CX P w) P w K mg base ["d", "n"] "from_integer" (defScope s_from_integer) f cdv A outer s H E) E := px_of (x := "from_integer")
  have hp := po_of (P := P) (w := w) (K := K) (mg := mg) (base := base) (x := "from_integer") (qual := "from_integer") (sc := defScope s_from_integer) (f := f) (cdv := cdv) (A := A) (outer := outer) (s := s) (H := H) (E := E) (N := ["d", "n"])
  have hu := Room.units hr
  have nd := sc_from_integer.nd
  exact ⟨_, jss_cons (js_if (jt_eq (K := K) hu (je_ix (K := K) (je_var 0) (je_int)) (je_str))
    (jss_one (js_ret (je_var 1)))
    (jss_nil))
    (jss_cons (js_if (jt_eq (K := K) hu (je_ix (K := K) (je_var 0) (je_int)) (je_str))
    (jss_one (js_ret (je_tup (ja_cons (je_var 1) (ja_cons (je_int) (ja_nil))))))
    (jss_nil))
    (jss_cons (js_if (jt_eq (K := K) hu (je_ix (K := K) (je_var 0) (je_int)) (je_str))
    (jss_one (js_ret (je_mod (je_var 1) (je_ix (K := K) (je_var 0) (je_int)))))
    (jss_nil))
    (jss_one (js_ret (je_call (K := K) c_trimmed hr hx (ja_cons (je_ix (K := K) (je_var 0) (je_int)) (ja_cons (je_lst (ja_cons (je_call (K := K) c_from_integer hr hx (ja_cons (je_ix (K := K) (je_var 0) (je_int)) (ja_cons (je_var 1) (ja_nil)))) (ja_nil))) (ja_nil))))))))⟩
/-! ### trimmed -/
abbrev s_trimmed : Stmt := topS 17
theorem sc_trimmed : FnScope ["f", "coefficients", "many"] ["f", "coefficients"] (defScope s_trimmed) := ⟨rfl, rfl, rfl, by decide +kernel, rfl, by decide +kernel, by decide +kernel⟩
def w_trimmed (a_zero : ASp) : WS :=
  wSeq (wSet 2 (wCB gLen (wCons (wVar 1) (wNil))))
    (wSeq (wWhile (wAnd (wTest (wOp fGt (wVar 2) (wC (.int 0)))) (wTest (wOp fEq (wOp fIx (wVar 1) (wOp fSub (wVar 2) (wC (.int 1)))) (wCB a_zero (wCons (wVar 0) (wNil))))))
    (wAug 2 fSub (wC (.int 1))))
    (wRet (wCB gTuple (wCons (wSl (wVar 1) (wNoPart) (wPart (wVar 2))) (wNil)))))
theorem j_trimmed {P : Program} {w : World} {K : PySem.W.Frag} {mg : Str → Option Value} {base : Heap} {k : Nat} {f : Addr} {cdv : Value} {A : Around} {outer : List Env} {s : Shared} {H : Hp} {E : XK} (hr : Room k (A.deeper (envOfC "trimmed" (defScope s_trimmed) s.heap.objs.size f cdv))) (m_len : mg "len" = none) (m_tuple : mg "tuple" = none) {a_zero : ASp} (c_zero : Cal P w K mg base k "zero" a_zero) :
    ∃ t, JSs (cxOf (L2.CX P w) P w K mg base ["f", "coefficients", "many"] "trimmed" (defScope s_trimmed) f cdv A outer s H E) E (defBody s_trimmed) t (w_trimmed a_zero) := by
  have hx : Passes (L2.CX P w) (cxOf (L2.CX P w) P w K mg base ["f", "coefficients", "many"] "trimmed" (defScope s_trimmed) f cdv A outer s H E) E := px_of (x := "trimmed")
  have hp := po_of (P := P) (w := w) (K := K) (mg := mg) (base := base) (x := "trimmed") (qual := "trimmed") (sc := defScope s_trimmed) (f := f) (cdv := cdv) (A := A) (outer := outer) (s := s) (H := H) (E := E) (N := ["f", "coefficients", "many"])
  have hu := Room.units hr
  have nd := sc_trimmed.nd
  exact ⟨_, jss_cons (js_set (i := 2) nd rfl (Or.inl rfl) (je_len (K := K) m_len (ja_cons (je_var 1) (ja_nil))))
    (jss_cons (js_while hp ((jw_and (jt_gt (je_var 2) (je_int)) (jw_and1 (jt_eq (K := K) hu (je_ix (K := K) (je_var 1) (je_sub (je_var 2) (je_int))) (je_call (K := K) c_zero hr hx (ja_cons (je_var 0) (ja_nil)))))).jt)
    (jss_one (js_aug (i := 2) nd rfl (Or.inl rfl) (je_int) ip_subA abs_sub)))
    (jss_one (js_ret (je_tuple (K := K) m_tuple (ja_cons (je_slice (K := K) (je_var 1) (jo_none) (jo_some (je_var 2))) (ja_nil))))))⟩
/-! ### add -/
abbrev s_add : Stmt := topS 18
theorem sc_add : FnScope ["d", "x", "y", "f", "found", "k", "part"] ["d", "x", "y"] (defScope s_add) := ⟨rfl, rfl, rfl, by decide +kernel, rfl, by decide +kernel, by decide +kernel⟩
def w_add (a_fraction : ASp) (a_add : ASp) (a_trimmed : ASp) : WS :=
  wSeq (wIfS (wTest (wOp fEq (wOp fIx (wVar 0) (wC (.int 0))) (wC (.str "Z"))))
    (wRet (wOp fAdd (wVar 1) (wVar 2)))
    (wNext))
    (wSeq (wIfS (wTest (wOp fEq (wOp fIx (wVar 0) (wC (.int 0))) (wC (.str "F"))))
    (wRet (wOp fMod (wOp fAdd (wVar 1) (wVar 2)) (wOp fIx (wVar 0) (wC (.int 1)))))
    (wNext))
    (wSeq (wIfS (wTest (wOp fEq (wOp fIx (wVar 0) (wC (.int 0))) (wC (.str "Q"))))
    (wRet (wCB a_fraction (wCons (wOp fAdd (wOp fMul (wOp fIx (wVar 1) (wC (.int 0))) (wOp fIx (wVar 2) (wC (.int 1)))) (wOp fMul (wOp fIx (wVar 2) (wC (.int 0))) (wOp fIx (wVar 1) (wC (.int 1))))) (wCons (wOp fMul (wOp fIx (wVar 1) (wC (.int 1))) (wOp fIx (wVar 2) (wC (.int 1)))) (wNil)))))
    (wNext))
    (wSeq (wSet 3 (wOp fIx (wVar 0) (wC (.int 1))))
    (wSeq (wIfS (wTest (wOp fLt (wCB gLen (wCons (wVar 1) (wNil))) (wCB gLen (wCons (wVar 2) (wNil)))))
    (wPar 1 2 (wCons (wVar 2) (wCons (wVar 1) (wNil))))
    (wNext))
    (wSeq (wSet 4 (wCB gListR (wCons (wVar 1) (wNil))))
    (wSeq (wFor (wiEnum (wCons (wVar 2) (wNil))) (wgTup 2 (wgCons (wgName 5) (wgCons (wgName 6) (wgNil))))
    (wAsg (wCB a_add (wCons (wVar 3) (wCons (wOp fIx (wVar 4) (wVar 5)) (wCons (wVar 6) (wNil))))) (wgSub (wVar 4) (wVar 5))))
    (wRet (wCB a_trimmed (wCons (wVar 3) (wCons (wVar 4) (wNil)))))))))))
theorem j_add {P : Program} {w : World} {K : PySem.W.Frag} {mg : Str → Option Value} {base : Heap} {k : Nat} {f : Addr} {cdv : Value} {A : Around} {outer : List Env} {s : Shared} {H : Hp} {E : XK} (hr : Room k (A.deeper (envOfC "add" (defScope s_add) s.heap.objs.size f cdv))) (m_len : mg "len" = none) (m_list : mg "list" = none) (m_enumerate : mg "enumerate" = none) {a_fraction : ASp} (c_fraction : Cal P w K mg base k "fraction" a_fraction) {a_add : ASp} (c_add : Cal P w K mg base k "add" a_add) {a_trimmed : ASp} (c_trimmed : Cal P w K mg base k "trimmed" a_trimmed) :
    ∃ t, JSs (cxOf (L2.CX P w) P w K mg base ["d", "x", "y", "f", "found", "k", "part"] "add" (defScope s_add) f cdv A outer s H E) E (defBody s_add) t (w_add a_fraction a_add a_trimmed) := by
  have hx : Passes (L2.CX P w) (cxOf (L2.CX P w) P w K mg base ["d", "x", "y", "f", "found", "k", "part"] "add" (defScope s_add) f cdv A outer s H E) E := px_of (x := "add")
  have hp := po_of (P := P) (w := w) (K := K) (mg := mg) (base := base) (x := "add") (qual := "add") (sc := defScope s_add) (f := f) (cdv := cdv) (A := A) (outer := outer) (s := s) (H := H) (E := E) (N := ["d", "x", "y", "f", "found", "k", "part"])
  have hu := Room.units hr
  have nd := sc_add.nd
  exact ⟨_, jss_cons (js_if (jt_eq (K := K) hu (je_ix (K := K) (je_var 0) (je_int)) (je_str))
    (jss_one (js_ret (je_add (K := K) (je_var 1) (je_var 2))))
    (jss_nil))
    (jss_cons (js_if (jt_eq (K := K) hu (je_ix (K := K) (je_var 0) (je_int)) (je_str))
    (jss_one (js_ret (je_mod (je_add (K := K) (je_var 1) (je_var 2)) (je_ix (K := K) (je_var 0) (je_int)))))
    (jss_nil))
    (jss_cons (js_if (jt_eq (K := K) hu (je_ix (K := K) (je_var 0) (je_int)) (je_str))
    (jss_one (js_ret (je_call (K := K) c_fraction hr hx (ja_cons (je_add (K := K) (je_mul (je_ix (K := K) (je_var 1) (je_int)) (je_ix (K := K) (je_var 2) (je_int))) (je_mul (je_ix (K := K) (je_var 2) (je_int)) (je_ix (K := K) (je_var 1) (je_int)))) (ja_cons (je_mul (je_ix (K := K) (je_var 1) (je_int)) (je_ix (K := K) (je_var 2) (je_int))) (ja_nil))))))
    (jss_nil))
    (jss_cons (js_set (i := 3) nd rfl (Or.inl rfl) (je_ix (K := K) (je_var 0) (je_int)))
    (jss_cons (js_if (jt_lt (je_len (K := K) m_len (ja_cons (je_var 1) (ja_nil))) (je_len (K := K) m_len (ja_cons (je_var 2) (ja_nil))))
    (jss_one (js_par (i := 1) (j := 2) rfl nd rfl rfl (by decide) rfl rfl (ja_cons (je_var 2) (ja_cons (je_var 1) (ja_nil)))))
    (jss_nil))
    (jss_cons (js_set (i := 4) nd rfl (Or.inl rfl) (je_listR (K := K) m_list (ja_cons (je_var 1) (ja_nil))))
    (jss_cons (js_for (vs := [5, 6]) hp rfl (ji_enum (K := K) m_enumerate (ja_cons (je_var 2) (ja_nil))) (jg_tup (K := K) rfl (jgs_cons (jg_name 5 nd rfl (by first | exact Or.inl rfl | exact Or.inr rfl)) (jgs_cons (jg_name 6 nd rfl (by first | exact Or.inl rfl | exact Or.inr rfl)) (jgs_nil))))
    (jss_one (js_asg (vs := []) (je_call (K := K) c_add hr hx (ja_cons (je_var 3) (ja_cons (je_ix (K := K) (je_var 4) (je_var 5)) (ja_cons (je_var 6) (ja_nil))))) (jg_sub (je_var 4) (je_var 5)))))
    (jss_one (js_ret (je_call (K := K) c_trimmed hr hx (ja_cons (je_var 3) (ja_cons (je_var 4) (ja_nil))))))))))))⟩
/-! ### multiply -/
abbrev s_multiply : Stmt := topS 19
theorem sc_multiply : FnScope ["d", "x", "y", "f", "found", "i", "left", "j", "right", "k"] ["d", "x", "y"] (defScope s_multiply) := ⟨rfl, rfl, rfl, by decide +kernel, rfl, by decide +kernel, by decide +kernel⟩
def w_multiply (a_fraction : ASp) (a_zero : ASp) (a_add : ASp) (a_multiply : ASp) (a_trimmed : ASp) : WS :=
  wSeq (wIfS (wTest (wOp fEq (wOp fIx (wVar 0) (wC (.int 0))) (wC (.str "Z"))))
    (wRet (wOp fMul (wVar 1) (wVar 2)))
    (wNext))
    (wSeq (wIfS (wTest (wOp fEq (wOp fIx (wVar 0) (wC (.int 0))) (wC (.str "F"))))
    (wRet (wOp fMod (wOp fMul (wVar 1) (wVar 2)) (wOp fIx (wVar 0) (wC (.int 1)))))
    (wNext))
    (wSeq (wIfS (wTest (wOp fEq (wOp fIx (wVar 0) (wC (.int 0))) (wC (.str "Q"))))
    (wRet (wCB a_fraction (wCons (wOp fMul (wOp fIx (wVar 1) (wC (.int 0))) (wOp fIx (wVar 2) (wC (.int 0)))) (wCons (wOp fMul (wOp fIx (wVar 1) (wC (.int 1))) (wOp fIx (wVar 2) (wC (.int 1)))) (wNil)))))
    (wNext))
    (wSeq (wIfS (wOr (wTest (wOp fEq (wCB gLen (wCons (wVar 1) (wNil))) (wC (.int 0)))) (wTest (wOp fEq (wCB gLen (wCons (wVar 2) (wNil))) (wC (.int 0)))))
    (wRet (wTup (wNil)))
    (wNext))
    (wSeq (wSet 3 (wOp fIx (wVar 0) (wC (.int 1))))
    (wSeq (wSet 4 (wLcA (wiRange1 (wCons (wOp fSub (wOp fAdd (wCB gLen (wCons (wVar 1) (wNil))) (wCB gLen (wCons (wVar 2) (wNil)))) (wC (.int 1))) (wNil))) (wgName 9) (wYes) (wCB a_zero (wCons (wVar 3) (wNil))) [9] finR))
    (wSeq (wFor (wiEnum (wCons (wVar 1) (wNil))) (wgTup 2 (wgCons (wgName 5) (wgCons (wgName 6) (wgNil))))
    (wFor (wiEnum (wCons (wVar 2) (wNil))) (wgTup 2 (wgCons (wgName 7) (wgCons (wgName 8) (wgNil))))
    (wAsg (wCB a_add (wCons (wVar 3) (wCons (wOp fIx (wVar 4) (wOp fAdd (wVar 5) (wVar 7))) (wCons (wCB a_multiply (wCons (wVar 3) (wCons (wVar 6) (wCons (wVar 8) (wNil))))) (wNil))))) (wgSub (wVar 4) (wOp fAdd (wVar 5) (wVar 7))))))
    (wRet (wCB a_trimmed (wCons (wVar 3) (wCons (wVar 4) (wNil)))))))))))
theorem j_multiply {P : Program} {w : World} {K : PySem.W.Frag} {mg : Str → Option Value} {base : Heap} {k : Nat} {f : Addr} {cdv : Value} {A : Around} {outer : List Env} {s : Shared} {H : Hp} {E : XK} (hr : Room k (A.deeper (envOfC "multiply" (defScope s_multiply) s.heap.objs.size f cdv))) (m_len : mg "len" = none) (m_range : mg "range" = none) (m_enumerate : mg "enumerate" = none) {a_fraction : ASp} (c_fraction : Cal P w K mg base k "fraction" a_fraction) {a_zero : ASp} (c_zero : Cal P w K mg base k "zero" a_zero) {a_add : ASp} (c_add : Cal P w K mg base k "add" a_add) {a_multiply : ASp} (c_multiply : Cal P w K mg base k "multiply" a_multiply) {a_trimmed : ASp} (c_trimmed : Cal P w K mg base k "trimmed" a_trimmed) :
    ∃ t, JSs (cxOf (L2.CX P w) P w K mg base ["d", "x", "y", "f", "found", "i", "left", "j", "right", "k"] "multiply" (defScope s_multiply) f cdv A outer s H E) E (defBody s_multiply) t (w_multiply a_fraction a_zero a_add a_multiply a_trimmed) := by
  have hx : Passes (L2.CX P w) (cxOf (L2.CX P w) P w K mg base ["d", "x", "y", "f", "found", "i", "left", "j", "right", "k"] "multiply" (defScope s_multiply) f cdv A outer s H E) E := px_of (x := "multiply")
  have hp := po_of (P := P) (w := w) (K := K) (mg := mg) (base := base) (x := "multiply") (qual := "multiply") (sc := defScope s_multiply) (f := f) (cdv := cdv) (A := A) (outer := outer) (s := s) (H := H) (E := E) (N := ["d", "x", "y", "f", "found", "i", "left", "j", "right", "k"])
  have hu := Room.units hr
  have nd := sc_multiply.nd
  exact ⟨_, jss_cons (js_if (jt_eq (K := K) hu (je_ix (K := K) (je_var 0) (je_int)) (je_str))
    (jss_one (js_ret (je_mul (je_var 1) (je_var 2))))
    (jss_nil))
    (jss_cons (js_if (jt_eq (K := K) hu (je_ix (K := K) (je_var 0) (je_int)) (je_str))
    (jss_one (js_ret (je_mod (je_mul (je_var 1) (je_var 2)) (je_ix (K := K) (je_var 0) (je_int)))))
    (jss_nil))
    (jss_cons (js_if (jt_eq (K := K) hu (je_ix (K := K) (je_var 0) (je_int)) (je_str))
    (jss_one (js_ret (je_call (K := K) c_fraction hr hx (ja_cons (je_mul (je_ix (K := K) (je_var 1) (je_int)) (je_ix (K := K) (je_var 2) (je_int))) (ja_cons (je_mul (je_ix (K := K) (je_var 1) (je_int)) (je_ix (K := K) (je_var 2) (je_int))) (ja_nil))))))
    (jss_nil))
    (jss_cons (js_if ((jw_or (jt_eq (K := K) hu (je_len (K := K) m_len (ja_cons (je_var 1) (ja_nil))) (je_int)) (jw_or1 (jt_eq (K := K) hu (je_len (K := K) m_len (ja_cons (je_var 2) (ja_nil))) (je_int)))).jt)
    (jss_one (js_ret (je_tup (ja_nil))))
    (jss_nil))
    (jss_cons (js_set (i := 3) nd rfl (Or.inr rfl) (je_ix (K := K) (je_var 0) (je_int)))
    (jss_cons (js_setLcA (own := [("k", 9)]) fin_cell (i := 4) rfl nd rfl rfl (sw_true rfl rfl rfl (by decide +kernel)) (ji_range1 m_range (ja_cons (je_sub (je_add (K := K) (je_len (K := K) m_len (ja_cons (je_var 1) (ja_nil))) (je_len (K := K) m_len (ja_cons (je_var 2) (ja_nil)))) (je_int)) (ja_nil))) (blkOk_by (N := ["d", "x", "y", "f", "found", "i", "left", "j", "right", "k"]) (sc := defScope s_multiply) (own := [("k", 9)]) (by decide +kernel)) (fun _ _ _ _ _ => jg_name 9 nd rfl (by first | exact Or.inl rfl | exact Or.inr rfl)) (fun _ _ _ _ _ => jts_nil) (fun _ _ _ _ _ => je_call (K := K) c_zero hr passL (ja_cons (je_var 3) (ja_nil))) s)
    (jss_cons (js_for (vs := [5, 6]) hp rfl (ji_enum (K := K) m_enumerate (ja_cons (je_var 1) (ja_nil))) (jg_tup (K := K) rfl (jgs_cons (jg_name 5 nd rfl (by first | exact Or.inl rfl | exact Or.inr rfl)) (jgs_cons (jg_name 6 nd rfl (by first | exact Or.inl rfl | exact Or.inr rfl)) (jgs_nil))))
    (jss_one (js_for (vs := [7, 8]) hp rfl (ji_enum (K := K) m_enumerate (ja_cons (je_var 2) (ja_nil))) (jg_tup (K := K) rfl (jgs_cons (jg_name 7 nd rfl (by first | exact Or.inl rfl | exact Or.inr rfl)) (jgs_cons (jg_name 8 nd rfl (by first | exact Or.inl rfl | exact Or.inr rfl)) (jgs_nil))))
    (jss_one (js_asg (vs := []) (je_call (K := K) c_add hr hx (ja_cons (je_var 3) (ja_cons (je_ix (K := K) (je_var 4) (je_add (K := K) (je_var 5) (je_var 7))) (ja_cons (je_call (K := K) c_multiply hr hx (ja_cons (je_var 3) (ja_cons (je_var 6) (ja_cons (je_var 8) (ja_nil))))) (ja_nil))))) (jg_sub (je_var 4) (je_add (K := K) (je_var 5) (je_var 7))))))))
    (jss_one (js_ret (je_call (K := K) c_trimmed hr hx (ja_cons (je_var 3) (ja_cons (je_var 4) (ja_nil))))))))))))⟩
/-! ### inverse -/
abbrev s_inverse : Stmt := topS 20
theorem sc_inverse : FnScope ["f", "x", "g", "s", "t"] ["f", "x"] (defScope s_inverse) := ⟨rfl, rfl, rfl, by decide +kernel, rfl, by decide +kernel, by decide +kernel⟩
def w_inverse (e : XN → Value) (a_need_field : ASp) (a_zero : ASp) (a_fraction : ASp) (a_common : ASp) : WS :=
  wSeq (wDrop (wCB a_need_field (wCons (wVar 0) (wNil))))
    (wSeq (wIfS (wTest (wOp fEq (wVar 1) (wCB a_zero (wCons (wVar 0) (wNil)))))
    (wRaise (e .sing))
    (wNext))
    (wSeq (wIfS (wTest (wOp fEq (wOp fIx (wVar 0) (wC (.int 0))) (wC (.str "Q"))))
    (wRet (wCB a_fraction (wCons (wOp fIx (wVar 1) (wC (.int 1))) (wCons (wOp fIx (wVar 1) (wC (.int 0))) (wNil)))))
    (wNext))
    (wSeq (wAsg (wCB a_common (wCons (wVar 1) (wCons (wOp fIx (wVar 0) (wC (.int 1))) (wNil)))) (wgTup 3 (wgCons (wgName 2) (wgCons (wgName 3) (wgCons (wgName 4) (wgNil))))))
    (wRet (wOp fMod (wVar 3) (wOp fIx (wVar 0) (wC (.int 1))))))))
theorem j_inverse {P : Program} {w : World} {K : PySem.W.Frag} {mg : Str → Option Value} {base : Heap} {k : Nat} {f : Addr} {cdv : Value} {A : Around} {outer : List Env} {s : Shared} {H : Hp} {E : XK} (hr : Room k (A.deeper (envOfC "inverse" (defScope s_inverse) s.heap.objs.size f cdv))) {a_need_field : ASp} (c_need_field : Cal P w K mg base k "need_field" a_need_field) {a_zero : ASp} (c_zero : Cal P w K mg base k "zero" a_zero) {a_fraction : ASp} (c_fraction : Cal P w K mg base k "fraction" a_fraction) {a_common : ASp} (c_common : Cal P w K mg base k "common" a_common) {e : XN → Value} (xo : XOk K mg xns e) :
    ∃ t, JSs (cxOf (L2.CX P w) P w K mg base ["f", "x", "g", "s", "t"] "inverse" (defScope s_inverse) f cdv A outer s H E) E (defBody s_inverse) t (w_inverse e a_need_field a_zero a_fraction a_common) := by
  have hx : Passes (L2.CX P w) (cxOf (L2.CX P w) P w K mg base ["f", "x", "g", "s", "t"] "inverse" (defScope s_inverse) f cdv A outer s H E) E := px_of (x := "inverse")
  have hp := po_of (P := P) (w := w) (K := K) (mg := mg) (base := base) (x := "inverse") (qual := "inverse") (sc := defScope s_inverse) (f := f) (cdv := cdv) (A := A) (outer := outer) (s := s) (H := H) (E := E) (N := ["f", "x", "g", "s", "t"])
  have hu := Room.units hr
  have nd := sc_inverse.nd
  exact ⟨_, jss_cons (js_expr (je_call (K := K) c_need_field hr hx (ja_cons (je_var 0) (ja_nil))))
    (jss_cons (js_if (jt_eq (K := K) hu (je_var 1) (je_call (K := K) c_zero hr hx (ja_cons (je_var 0) (ja_nil))))
    (jss_one (js_raise (xo.cls .sing (by decide)) (takes_of rfl rfl rfl rfl)))
    (jss_nil))
    (jss_cons (js_if (jt_eq (K := K) hu (je_ix (K := K) (je_var 0) (je_int)) (je_str))
    (jss_one (js_ret (je_call (K := K) c_fraction hr hx (ja_cons (je_ix (K := K) (je_var 1) (je_int)) (ja_cons (je_ix (K := K) (je_var 1) (je_int)) (ja_nil))))))
    (jss_nil))
    (jss_cons (js_asg (vs := [2, 3, 4]) (je_call (K := K) c_common hr hx (ja_cons (je_var 1) (ja_cons (je_ix (K := K) (je_var 0) (je_int)) (ja_nil)))) (jg_tup (K := K) rfl (jgs_cons (jg_name 2 nd rfl (by first | exact Or.inl rfl | exact Or.inr rfl)) (jgs_cons (jg_name 3 nd rfl (by first | exact Or.inl rfl | exact Or.inr rfl)) (jgs_cons (jg_name 4 nd rfl (by first | exact Or.inl rfl | exact Or.inr rfl)) (jgs_nil))))))
    (jss_one (js_ret (je_mod (je_var 3) (je_ix (K := K) (je_var 0) (je_int))))))))⟩
/-! ### quotient -/
abbrev s_quotient : Stmt := topS 21
theorem sc_quotient : FnScope ["f", "x", "y"] ["f", "x", "y"] (defScope s_quotient) := ⟨rfl, rfl, rfl, by decide +kernel, rfl, by decide +kernel, by decide +kernel⟩
def w_quotient (a_multiply : ASp) (a_inverse : ASp) : WS :=
  wRet (wCB a_multiply (wCons (wVar 0) (wCons (wVar 1) (wCons (wCB a_inverse (wCons (wVar 0) (wCons (wVar 2) (wNil)))) (wNil)))))
theorem j_quotient {P : Program} {w : World} {K : PySem.W.Frag} {mg : Str → Option Value} {base : Heap} {k : Nat} {f : Addr} {cdv : Value} {A : Around} {outer : List Env} {s : Shared} {H : Hp} {E : XK} (hr : Room k (A.deeper (envOfC "quotient" (defScope s_quotient) s.heap.objs.size f cdv))) {a_multiply : ASp} (c_multiply : Cal P w K mg base k "multiply" a_multiply) {a_inverse : ASp} (c_inverse : Cal P w K mg base k "inverse" a_inverse) :
    ∃ t, JSs (cxOf (L2.CX P w) P w K mg base ["f", "x", "y"] "quotient" (defScope s_quotient) f cdv A outer s H E) E (defBody s_quotient) t (w_quotient a_multiply a_inverse) := by
  have hx : Passes (L2.CX P w) (cxOf (L2.CX P w) P w K mg base ["f", "x", "y"] "quotient" (defScope s_quotient) f cdv A outer s H E) E := px_of (x := "quotient")
  have hp := po_of (P := P) (w := w) (K := K) (mg := mg) (base := base) (x := "quotient") (qual := "quotient") (sc := defScope s_quotient) (f := f) (cdv := cdv) (A := A) (outer := outer) (s := s) (H := H) (E := E) (N := ["f", "x", "y"])
  have hu := Room.units hr
  have nd := sc_quotient.nd
  exact ⟨_, jss_one (js_ret (je_call (K := K) c_multiply hr hx (ja_cons (je_var 0) (ja_cons (je_var 1) (ja_cons (je_call (K := K) c_inverse hr hx (ja_cons (je_var 0) (ja_cons (je_var 2) (ja_nil)))) (ja_nil))))))⟩
/-! ### may_change -/
abbrev s_may_change : Stmt := topS 23
theorem sc_may_change : FnScope ["d", "e"] ["d", "e"] (defScope s_may_change) := ⟨rfl, rfl, rfl, by decide +kernel, rfl, by decide +kernel, by decide +kernel⟩
def w_may_change (a_is_field : ASp) : WS :=
  wSeq (wIfS (wTest (wOp fEq (wOp fIx (wVar 0) (wC (.int 0))) (wC (.str "Z"))))
    (wRet (wCB a_is_field (wCons (wVar 1) (wNil))))
    (wNext))
    (wRet (wOrV (wAndV (wOp fEq (wOp fIx (wVar 0) (wC (.int 0))) (wC (.str "Q"))) (wOp (fInB false) (wOp fIx (wVar 1) (wC (.int 0))) (wTup (wCons (wC (.str "Z")) (wCons (wC (.str "F")) (wNil)))))) (wOp fEq (wVar 1) (wTup (wCons (wC (.str "P")) (wCons (wVar 0) (wNil)))))))
theorem j_may_change {P : Program} {w : World} {K : PySem.W.Frag} {mg : Str → Option Value} {base : Heap} {k : Nat} {f : Addr} {cdv : Value} {A : Around} {outer : List Env} {s : Shared} {H : Hp} {E : XK} (hr : Room k (A.deeper (envOfC "may_change" (defScope s_may_change) s.heap.objs.size f cdv))) {a_is_field : ASp} (c_is_field : Cal P w K mg base k "is_field" a_is_field) :
    ∃ t, JSs (cxOf (L2.CX P w) P w K mg base ["d", "e"] "may_change" (defScope s_may_change) f cdv A outer s H E) E (defBody s_may_change) t (w_may_change a_is_field) := by
  have hx : Passes (L2.CX P w) (cxOf (L2.CX P w) P w K mg base ["d", "e"] "may_change" (defScope s_may_change) f cdv A outer s H E) E := px_of (x := "may_change")
  have hp := po_of (P := P) (w := w) (K := K) (mg := mg) (base := base) (x := "may_change") (qual := "may_change") (sc := defScope s_may_change) (f := f) (cdv := cdv) (A := A) (outer := outer) (s := s) (H := H) (E := E) (N := ["d", "e"])
  have hu := Room.units hr
  have nd := sc_may_change.nd
  exact ⟨_, jss_cons (js_if (jt_eq (K := K) hu (je_ix (K := K) (je_var 0) (je_int)) (je_str))
    (jss_one (js_ret (je_call (K := K) c_is_field hr hx (ja_cons (je_var 1) (ja_nil)))))
    (jss_nil))
    (jss_one (js_ret (je_or (K := K) (je_and (K := K) (je_eq (K := K) hu (je_ix (K := K) (je_var 0) (je_int)) (je_str)) (je_one (je_in (K := K) rfl (je_ix (K := K) (je_var 1) (je_int)) (je_tup (ja_cons (je_str) (ja_cons (je_str) (ja_nil))))))) (je_one (je_eq (K := K) hu (je_var 1) (je_tup (ja_cons (je_str) (ja_cons (je_var 0) (ja_nil)))))))))⟩
/-! ### changed -/
abbrev s_changed : Stmt := topS 24
theorem sc_changed : FnScope ["d", "e", "x"] ["d", "e", "x"] (defScope s_changed) := ⟨rfl, rfl, rfl, by decide +kernel, rfl, by decide +kernel, by decide +kernel⟩
def w_changed (e : XN → Value) (a_is_field : ASp) (a_from_integer : ASp) (a_quotient : ASp) (a_trimmed : ASp) : WS :=
  wSeq (wIfS (wTest (wOp fEq (wVar 0) (wVar 1)))
    (wRet (wVar 2))
    (wNext))
    (wSeq (wIfS (wAnd (wTest (wOp fEq (wOp fIx (wVar 0) (wC (.int 0))) (wC (.str "Z")))) (wTruA (wCB a_is_field (wCons (wVar 1) (wNil)))))
    (wRet (wCB a_from_integer (wCons (wVar 1) (wCons (wVar 2) (wNil)))))
    (wNext))
    (wSeq (wIfS (wAnd (wTest (wOp fEq (wOp fIx (wVar 0) (wC (.int 0))) (wC (.str "Q")))) (wAnd (wTest (wOp fEq (wOp fIx (wVar 1) (wC (.int 0))) (wC (.str "Z")))) (wTest (wOp fEq (wOp fIx (wVar 2) (wC (.int 1))) (wC (.int 1))))))
    (wRet (wOp fIx (wVar 2) (wC (.int 0))))
    (wNext))
    (wSeq (wIfS (wAnd (wTest (wOp fEq (wOp fIx (wVar 0) (wC (.int 0))) (wC (.str "Q")))) (wAnd (wTest (wOp fEq (wOp fIx (wVar 1) (wC (.int 0))) (wC (.str "F")))) (wTest (wOp fNe (wOp fMod (wOp fIx (wVar 2) (wC (.int 1))) (wOp fIx (wVar 1) (wC (.int 1)))) (wC (.int 0))))))
    (wRet (wCB a_quotient (wCons (wVar 1) (wCons (wOp fMod (wOp fIx (wVar 2) (wC (.int 0))) (wOp fIx (wVar 1) (wC (.int 1)))) (wCons (wOp fMod (wOp fIx (wVar 2) (wC (.int 1))) (wOp fIx (wVar 1) (wC (.int 1)))) (wNil))))))
    (wNext))
    (wSeq (wIfS (wTest (wOp fEq (wVar 1) (wTup (wCons (wC (.str "P")) (wCons (wVar 0) (wNil))))))
    (wRet (wCB a_trimmed (wCons (wVar 0) (wCons (wLst (wCons (wVar 2) (wNil))) (wNil)))))
    (wNext))
    (wRaise (e .dom))))))
theorem j_changed {P : Program} {w : World} {K : PySem.W.Frag} {mg : Str → Option Value} {base : Heap} {k : Nat} {f : Addr} {cdv : Value} {A : Around} {outer : List Env} {s : Shared} {H : Hp} {E : XK} (hr : Room k (A.deeper (envOfC "changed" (defScope s_changed) s.heap.objs.size f cdv))) {a_is_field : ASp} (c_is_field : Cal P w K mg base k "is_field" a_is_field) {a_from_integer : ASp} (c_from_integer : Cal P w K mg base k "from_integer" a_from_integer) {a_quotient : ASp} (c_quotient : Cal P w K mg base k "quotient" a_quotient) {a_trimmed : ASp} (c_trimmed : Cal P w K mg base k "trimmed" a_trimmed) {e : XN → Value} (xo : XOk K mg xns e) :
    ∃ t, JSs (cxOf (L2.CX P w) P w K mg base ["d", "e", "x"] "changed" (defScope s_changed) f cdv A outer s H E) E (defBody s_changed) t (w_changed e a_is_field a_from_integer a_quotient a_trimmed) := by
  have hx : Passes (L2.CX P w) (cxOf (L2.CX P w) P w K mg base ["d", "e", "x"] "changed" (defScope s_changed) f cdv A outer s H E) E := px_of (x := "changed")
  have hp := po_of (P := P) (w := w) (K := K) (mg := mg) (base := base) (x := "changed") (qual := "changed") (sc := defScope s_changed) (f := f) (cdv := cdv) (A := A) (outer := outer) (s := s) (H := H) (E := E) (N := ["d", "e", "x"])
  have hu := Room.units hr
  have nd := sc_changed.nd
  exact ⟨_, jss_cons (js_if (jt_eq (K := K) hu (je_var 0) (je_var 1))
    (jss_one (js_ret (je_var 2)))
    (jss_nil))
    (jss_cons (js_if ((jw_and (jt_eq (K := K) hu (je_ix (K := K) (je_var 0) (je_int)) (je_str)) (jw_and1 (jt_tru (K := K) (je_call (K := K) c_is_field hr hx (ja_cons (je_var 1) (ja_nil)))))).jt)
    (jss_one (js_ret (je_call (K := K) c_from_integer hr hx (ja_cons (je_var 1) (ja_cons (je_var 2) (ja_nil))))))
    (jss_nil))
    (jss_cons (js_if ((jw_and (jt_eq (K := K) hu (je_ix (K := K) (je_var 0) (je_int)) (je_str)) (jw_and (jt_eq (K := K) hu (je_ix (K := K) (je_var 1) (je_int)) (je_str)) (jw_and1 (jt_eq (K := K) hu (je_ix (K := K) (je_var 2) (je_int)) (je_int))))).jt)
    (jss_one (js_ret (je_ix (K := K) (je_var 2) (je_int))))
    (jss_nil))
    (jss_cons (js_if ((jw_and (jt_eq (K := K) hu (je_ix (K := K) (je_var 0) (je_int)) (je_str)) (jw_and (jt_eq (K := K) hu (je_ix (K := K) (je_var 1) (je_int)) (je_str)) (jw_and1 (jt_ne (K := K) hu (je_mod (je_ix (K := K) (je_var 2) (je_int)) (je_ix (K := K) (je_var 1) (je_int))) (je_int))))).jt)
    (jss_one (js_ret (je_call (K := K) c_quotient hr hx (ja_cons (je_var 1) (ja_cons (je_mod (je_ix (K := K) (je_var 2) (je_int)) (je_ix (K := K) (je_var 1) (je_int))) (ja_cons (je_mod (je_ix (K := K) (je_var 2) (je_int)) (je_ix (K := K) (je_var 1) (je_int))) (ja_nil)))))))
    (jss_nil))
    (jss_cons (js_if (jt_eq (K := K) hu (je_var 1) (je_tup (ja_cons (je_str) (ja_cons (je_var 0) (ja_nil)))))
    (jss_one (js_ret (je_call (K := K) c_trimmed hr hx (ja_cons (je_var 0) (ja_cons (je_lst (ja_cons (je_var 2) (ja_nil))) (ja_nil))))))
    (jss_nil))
    (jss_one (js_raise (xo.cls .dom (by decide)) (takes_of rfl rfl rfl rfl)))))))⟩
/-! ### change -/
abbrev s_change : Stmt := topS 25
theorem sc_change : FnScope ["d", "e", "a", "row", "x"] ["d", "e", "a"] (defScope s_change) := ⟨rfl, rfl, rfl, by decide +kernel, rfl, by decide +kernel, by decide +kernel⟩
def w_change (e : XN → Value) (a_is_domain : ASp) (a_may_change : ASp) (a_changed : ASp) : WS :=
  wSeq (wIfS (wOr (wNotA (wTruA (wCB a_is_domain (wCons (wVar 0) (wNil))))) (wOr (wNotA (wTruA (wCB a_is_domain (wCons (wVar 1) (wNil))))) (wAnd (wTest (wOp fNe (wVar 0) (wVar 1))) (wNotA (wTruA (wCB a_may_change (wCons (wVar 0) (wCons (wVar 1) (wNil)))))))))
    (wRaise (e .dom))
    (wNext))
    (wRet (wTup (wCons (wOp fIx (wVar 2) (wC (.int 0))) (wCons (wOp fIx (wVar 2) (wC (.int 1))) (wCons (wCB gTuple (wCons (wLcX (wiItems (wOp fIx (wVar 2) (wC (.int 2)))) (wgName 3) (wYes) (wCB gTuple (wCons (wLcX (wiItems (wVar 3)) (wgName 4) (wYes) (wCB a_changed (wCons (wVar 0) (wCons (wVar 1) (wCons (wVar 4) (wNil))))) [4] finF) (wNil))) [3] finF) (wNil))) (wNil))))))
theorem j_change {P : Program} {w : World} {K : PySem.W.Frag} {mg : Str → Option Value} {base : Heap} {k : Nat} {f : Addr} {cdv : Value} {A : Around} {outer : List Env} {s : Shared} {H : Hp} {E : XK} (hr : Room k (A.deeper (envOfC "change" (defScope s_change) s.heap.objs.size f cdv))) (m_tuple : mg "tuple" = none) {a_is_domain : ASp} (c_is_domain : Cal P w K mg base k "is_domain" a_is_domain) {a_may_change : ASp} (c_may_change : Cal P w K mg base k "may_change" a_may_change) {a_changed : ASp} (c_changed : Cal P w K mg base k "changed" a_changed) {e : XN → Value} (xo : XOk K mg xns e) :
    ∃ t, JSs (cxOf (L2.CX P w) P w K mg base ["d", "e", "a", "row", "x"] "change" (defScope s_change) f cdv A outer s H E) E (defBody s_change) t (w_change e a_is_domain a_may_change a_changed) := by
  have hx : Passes (L2.CX P w) (cxOf (L2.CX P w) P w K mg base ["d", "e", "a", "row", "x"] "change" (defScope s_change) f cdv A outer s H E) E := px_of (x := "change")
  have hp := po_of (P := P) (w := w) (K := K) (mg := mg) (base := base) (x := "change") (qual := "change") (sc := defScope s_change) (f := f) (cdv := cdv) (A := A) (outer := outer) (s := s) (H := H) (E := E) (N := ["d", "e", "a", "row", "x"])
  have tb := tb_of (E := E) (X := (cxOf (L2.CX P w) P w K mg base ["d", "e", "a", "row", "x"] "change" (defScope s_change) f cdv A outer s H E)) rfl rfl (takes_of rfl rfl rfl rfl)
  have hu := Room.units hr
  have nd := sc_change.nd
  exact ⟨_, jss_cons (js_if ((jw_or (jt_not (jt_tru (K := K) (je_call (K := K) c_is_domain hr hx (ja_cons (je_var 0) (ja_nil))))) (jw_or (jt_not (jt_tru (K := K) (je_call (K := K) c_is_domain hr hx (ja_cons (je_var 1) (ja_nil))))) (jw_or1 ((jw_and (jt_ne (K := K) hu (je_var 0) (je_var 1)) (jw_and1 (jt_not (jt_tru (K := K) (je_call (K := K) c_may_change hr hx (ja_cons (je_var 0) (ja_cons (je_var 1) (ja_nil)))))))).jt)))).jt)
    (jss_one (js_raise (xo.cls .dom (by decide)) (takes_of rfl rfl rfl rfl)))
    (jss_nil))
    (jss_one (js_ret (je_tup (ja_cons (je_ix (K := K) (je_var 2) (je_int)) (ja_cons (je_ix (K := K) (je_var 2) (je_int)) (ja_cons (je_tuple (K := K) m_tuple (ja_cons (je_lcX (own := [("row", 3)]) tb fin_fl rfl nd (ji_items (K := K) (je_ix (K := K) (je_var 2) (je_int))) (blkOk_by (N := ["d", "e", "a", "row", "x"]) (sc := defScope s_change) (own := [("row", 3)]) (by decide +kernel)) (fun _ _ _ _ _ => jg_name 3 nd rfl (by first | exact Or.inl rfl | exact Or.inr rfl)) (fun _ _ _ _ _ => jts_nil) (fun _ _ _ _ _ _ _ tb hx => je_tuple (K := K) m_tuple (ja_cons (je_lcX (own := [("x", 4)]) tb fin_fl rfl nd (ji_items (K := K) (je_var 3)) (blkOk_by (N := ["d", "e", "a", "row", "x"]) (own := [("x", 4)]) (by show blkC _ (relS _ (defScope s_change)) _ _ = true; decide +kernel)) (fun _ _ _ _ _ => jg_name 4 nd rfl (by first | exact Or.inl rfl | exact Or.inr rfl)) (fun _ _ _ _ _ => jts_nil) (fun _ _ _ _ _ _ _ tb hx => je_call (K := K) c_changed hr hx (ja_cons (je_var 0) (ja_cons (je_var 1) (ja_cons (je_var 4) (ja_nil))))) s) (ja_nil))) s) (ja_nil))) (ja_nil)))))))⟩
/-! ### _law_start -/
abbrev s__law_start : Stmt := topS 27
theorem sc__law_start : FnScope ["script", "cell"] ["script"] (defScope s__law_start) := ⟨rfl, rfl, rfl, by decide +kernel, rfl, by decide +kernel, by decide +kernel⟩
def w__law_start : WS :=
  wRet (wLstR (wCons (wLcA (wiItems (wSl (wVar 0) (wNoPart) (wPart (wC (.int 63))))) (wgName 1) (wYes) (wCB gInt (wCons (wVar 1) (wNil))) [1] finF) (wCons (wC (.int 0)) (wCons (wC (.int 0)) (wCons (wC (.int 0)) (wNil))))))
theorem j__law_start {P : Program} {w : World} {K : PySem.W.Frag} {mg : Str → Option Value} {base : Heap} {k : Nat} {f : Addr} {cdv : Value} {A : Around} {outer : List Env} {s : Shared} {H : Hp} {E : XK} (hr : Room k (A.deeper (envOfC "_law_start" (defScope s__law_start) s.heap.objs.size f cdv))) (m_int : mg "int" = none) :
    ∃ t, JSs (cxOf (L2.CX P w) P w K mg base ["script", "cell"] "_law_start" (defScope s__law_start) f cdv A outer s H E) E (defBody s__law_start) t (w__law_start) := by
  have hx : Passes (L2.CX P w) (cxOf (L2.CX P w) P w K mg base ["script", "cell"] "_law_start" (defScope s__law_start) f cdv A outer s H E) E := px_of (x := "_law_start")
  have hp := po_of (P := P) (w := w) (K := K) (mg := mg) (base := base) (x := "_law_start") (qual := "_law_start") (sc := defScope s__law_start) (f := f) (cdv := cdv) (A := A) (outer := outer) (s := s) (H := H) (E := E) (N := ["script", "cell"])
  have hu := Room.units hr
  have nd := sc__law_start.nd
  exact ⟨_, jss_one (js_ret (je_lstR (ja_cons (je_lcA (own := [("cell", 1)]) fin_fl rfl nd (ji_items (K := K) (je_slice (K := K) (je_var 0) (jo_none) (jo_some (je_int)))) (blkOk_by (N := ["script", "cell"]) (sc := defScope s__law_start) (own := [("cell", 1)]) (by decide +kernel)) (fun _ _ _ _ _ => jg_name 1 nd rfl (by first | exact Or.inl rfl | exact Or.inr rfl)) (fun _ _ _ _ _ => jts_nil) (fun _ _ _ _ _ => je_intC m_int (ja_cons (je_var 1) (ja_nil))) s) (ja_cons (je_int) (ja_cons (je_int) (ja_cons (je_int) (ja_nil)))))))⟩
/-! ### _law_fill -/
abbrev s__law_fill : Stmt := topS 28
theorem sc__law_fill : FnScope ["c", "number"] ["c"] (defScope s__law_fill) := ⟨rfl, rfl, rfl, by decide +kernel, rfl, by decide +kernel, by decide +kernel⟩
def w__law_fill : WS :=
  wSeq (wAsg (wOp fAdd (wOp fIx (wVar 0) (wC (.int 3))) (wC (.int 1))) (wgSub (wVar 0) (wC (.int 3))))
    (wSeq (wSet 1 (wOp fAdd (wOp fMul (wOp fIx (wVar 0) (wC (.int 3))) (wC (.int 69621))) (wC (.int 12345))))
    (wSeq (wIfS (wTest (wOp fLt (wOp fIx (wVar 0) (wC (.int 1))) (wCB gLen (wCons (wOp fIx (wVar 0) (wC (.int 0))) (wNil)))))
    (wSeq (wSet 1 (wOp fIx (wOp fIx (wVar 0) (wC (.int 0))) (wOp fIx (wVar 0) (wC (.int 1)))))
    (wSeq (wAsg (wOp fAdd (wOp fIx (wVar 0) (wC (.int 1))) (wC (.int 1))) (wgSub (wVar 0) (wC (.int 1))))
    (wSeq (wIfS (wTest (wOp fLt (wVar 1) (wC (.int 0))))
    (wSet 1 (wOp fSub (wOp fSub (wC (.int 0)) (wC (.int 1))) (wVar 1)))
    (wNext))
    (wIfS (wTest (wOp fGe (wVar 1) (wOp fPow (wC (.int 10)) (wC (.int 18)))))
    (wRet (wVar 1))
    (wNext)))))
    (wNext))
    (wSeq (wIfS (wAnd (wTruA (wOp fIx (wVar 0) (wC (.int 0)))) (wTest (wOp fGe (wOp fIx (wVar 0) (wC (.int 1))) (wCB gLen (wCons (wOp fIx (wVar 0) (wC (.int 0))) (wNil))))))
    (wSet 1 (wOp fAdd (wVar 1) (wOp fMod (wCB gInt (wCons (wOp fIx (wOp fIx (wVar 0) (wC (.int 0))) (wNeg (wC (.int 1)))) (wNil))) (wC (.int 1000003)))))
    (wNext))
    (wSeq (wSet 1 (wOp fMod (wCB gInt (wCons (wOp fAdd (wOp fMul (wVar 1) (wC (.int 48271))) (wOp fMul (wOp fIx (wVar 0) (wC (.int 3))) (wC (.int 69621)))) (wNil))) (wC (.int 2147483647))))
    (wRet (wOp fAdd (wOp fMod (wCB gInt (wCons (wOp fAdd (wOp fAdd (wOp fMul (wVar 1) (wVar 1)) (wOp fMul (wOp fIx (wVar 0) (wC (.int 3))) (wC (.int 7919)))) (wC (.int 11))) (wNil))) (wC (.int 2305843009213693951))) (wC (.int 2305843009213693951))))))))
theorem j__law_fill {P : Program} {w : World} {K : PySem.W.Frag} {mg : Str → Option Value} {base : Heap} {k : Nat} {f : Addr} {cdv : Value} {A : Around} {outer : List Env} {s : Shared} {H : Hp} {E : XK} (hr : Room k (A.deeper (envOfC "_law_fill" (defScope s__law_fill) s.heap.objs.size f cdv))) (m_len : mg "len" = none) (m_int : mg "int" = none) :
    ∃ t, JSs (cxOf (L2.CX P w) P w K mg base ["c", "number"] "_law_fill" (defScope s__law_fill) f cdv A outer s H E) E (defBody s__law_fill) t (w__law_fill) := by
  have hx : Passes (L2.CX P w) (cxOf (L2.CX P w) P w K mg base ["c", "number"] "_law_fill" (defScope s__law_fill) f cdv A outer s H E) E := px_of (x := "_law_fill")
  have hp := po_of (P := P) (w := w) (K := K) (mg := mg) (base := base) (x := "_law_fill") (qual := "_law_fill") (sc := defScope s__law_fill) (f := f) (cdv := cdv) (A := A) (outer := outer) (s := s) (H := H) (E := E) (N := ["c", "number"])
  have hu := Room.units hr
  have nd := sc__law_fill.nd
  exact ⟨_, jss_cons (js_asg (vs := []) (je_add (K := K) (je_ix (K := K) (je_var 0) (je_int)) (je_int)) (jg_sub (je_var 0) (je_int)))
    (jss_cons (js_set (i := 1) nd rfl (Or.inl rfl) (je_add (K := K) (je_mul (je_ix (K := K) (je_var 0) (je_int)) (je_int)) (je_int)))
    (jss_cons (js_if (jt_lt (je_ix (K := K) (je_var 0) (je_int)) (je_len (K := K) m_len (ja_cons (je_ix (K := K) (je_var 0) (je_int)) (ja_nil))))
    (jss_cons (js_set (i := 1) nd rfl (Or.inl rfl) (je_ix (K := K) (je_ix (K := K) (je_var 0) (je_int)) (je_ix (K := K) (je_var 0) (je_int))))
    (jss_cons (js_asg (vs := []) (je_add (K := K) (je_ix (K := K) (je_var 0) (je_int)) (je_int)) (jg_sub (je_var 0) (je_int)))
    (jss_cons (js_if (jt_lt (je_var 1) (je_int))
    (jss_one (js_set (i := 1) nd rfl (Or.inl rfl) (je_sub (je_sub (je_int) (je_int)) (je_var 1))))
    (jss_nil))
    (jss_one (js_if (jt_ge (je_var 1) (je_pow (je_int) (je_int)))
    (jss_one (js_ret (je_var 1)))
    (jss_nil))))))
    (jss_nil))
    (jss_cons (js_if ((jw_and (jt_tru (K := K) (je_ix (K := K) (je_var 0) (je_int))) (jw_and1 (jt_ge (je_ix (K := K) (je_var 0) (je_int)) (je_len (K := K) m_len (ja_cons (je_ix (K := K) (je_var 0) (je_int)) (ja_nil)))))).jt)
    (jss_one (js_set (i := 1) nd rfl (Or.inl rfl) (je_add (K := K) (je_var 1) (je_mod (je_intC m_int (ja_cons (je_ix (K := K) (je_ix (K := K) (je_var 0) (je_int)) (je_neg (je_int))) (ja_nil))) (je_int)))))
    (jss_nil))
    (jss_cons (js_set (i := 1) nd rfl (Or.inl rfl) (je_mod (je_intC m_int (ja_cons (je_add (K := K) (je_mul (je_var 1) (je_int)) (je_mul (je_ix (K := K) (je_var 0) (je_int)) (je_int))) (ja_nil))) (je_int)))
    (jss_one (js_ret (je_add (K := K) (je_mod (je_intC m_int (ja_cons (je_add (K := K) (je_add (K := K) (je_mul (je_var 1) (je_var 1)) (je_mul (je_ix (K := K) (je_var 0) (je_int)) (je_int))) (je_int)) (ja_nil))) (je_int)) (je_int))))))))⟩
/-! ### _law_take -/
abbrev s__law_take : Stmt := topS 29
theorem sc__law_take : FnScope ["c", "many", "digit"] ["c", "many"] (defScope s__law_take) := ⟨rfl, rfl, rfl, by decide +kernel, rfl, by decide +kernel, by decide +kernel⟩
def w__law_take (a__law_fill : ASp) : WS :=
  wSeq (wIfS (wTest (wOp fLt (wOp fIx (wVar 0) (wC (.int 2))) (wVar 1)))
    (wAsg (wCB a__law_fill (wCons (wVar 0) (wNil))) (wgSub (wVar 0) (wC (.int 2))))
    (wNext))
    (wSeq (wSet 2 (wOp fMod (wCB gInt (wCons (wOp fIx (wVar 0) (wC (.int 2))) (wNil))) (wVar 1)))
    (wSeq (wAsg (wOp fDiv (wOp fIx (wVar 0) (wC (.int 2))) (wVar 1)) (wgSub (wVar 0) (wC (.int 2))))
    (wRet (wVar 2))))
theorem j__law_take {P : Program} {w : World} {K : PySem.W.Frag} {mg : Str → Option Value} {base : Heap} {k : Nat} {f : Addr} {cdv : Value} {A : Around} {outer : List Env} {s : Shared} {H : Hp} {E : XK} (hr : Room k (A.deeper (envOfC "_law_take" (defScope s__law_take) s.heap.objs.size f cdv))) (m_int : mg "int" = none) {a__law_fill : ASp} (c__law_fill : Cal P w K mg base k "_law_fill" a__law_fill) :
    ∃ t, JSs (cxOf (L2.CX P w) P w K mg base ["c", "many", "digit"] "_law_take" (defScope s__law_take) f cdv A outer s H E) E (defBody s__law_take) t (w__law_take a__law_fill) := by
  have hx : Passes (L2.CX P w) (cxOf (L2.CX P w) P w K mg base ["c", "many", "digit"] "_law_take" (defScope s__law_take) f cdv A outer s H E) E := px_of (x := "_law_take")
  have hp := po_of (P := P) (w := w) (K := K) (mg := mg) (base := base) (x := "_law_take") (qual := "_law_take") (sc := defScope s__law_take) (f := f) (cdv := cdv) (A := A) (outer := outer) (s := s) (H := H) (E := E) (N := ["c", "many", "digit"])
  have hu := Room.units hr
  have nd := sc__law_take.nd
  exact ⟨_, jss_cons (js_if (jt_lt (je_ix (K := K) (je_var 0) (je_int)) (je_var 1))
    (jss_one (js_asg (vs := []) (je_call (K := K) c__law_fill hr hx (ja_cons (je_var 0) (ja_nil))) (jg_sub (je_var 0) (je_int))))
    (jss_nil))
    (jss_cons (js_set (i := 2) nd rfl (Or.inl rfl) (je_mod (je_intC m_int (ja_cons (je_ix (K := K) (je_var 0) (je_int)) (ja_nil))) (je_var 1)))
    (jss_cons (js_asg (vs := []) (je_div (je_ix (K := K) (je_var 0) (je_int)) (je_var 1)) (jg_sub (je_var 0) (je_int)))
    (jss_one (js_ret (je_var 2)))))⟩
/-! ### _law_raised -/
abbrev s__law_raised : Stmt := topS 30
theorem sc__law_raised : FnScope ["b", "k", "found", "j"] ["b", "k"] (defScope s__law_raised) := ⟨rfl, rfl, rfl, by decide +kernel, rfl, by decide +kernel, by decide +kernel⟩
def w__law_raised : WS :=
  wSeq (wSet 2 (wC (.int 1)))
    (wSeq (wFor (wiRange1 (wCons (wVar 1) (wNil))) (wgName 3)
    (wSet 2 (wOp fMul (wVar 2) (wVar 0))))
    (wRet (wVar 2)))
theorem j__law_raised {P : Program} {w : World} {K : PySem.W.Frag} {mg : Str → Option Value} {base : Heap} {k : Nat} {f : Addr} {cdv : Value} {A : Around} {outer : List Env} {s : Shared} {H : Hp} {E : XK} (hr : Room k (A.deeper (envOfC "_law_raised" (defScope s__law_raised) s.heap.objs.size f cdv))) (m_range : mg "range" = none) :
    ∃ t, JSs (cxOf (L2.CX P w) P w K mg base ["b", "k", "found", "j"] "_law_raised" (defScope s__law_raised) f cdv A outer s H E) E (defBody s__law_raised) t (w__law_raised) := by
  have hx : Passes (L2.CX P w) (cxOf (L2.CX P w) P w K mg base ["b", "k", "found", "j"] "_law_raised" (defScope s__law_raised) f cdv A outer s H E) E := px_of (x := "_law_raised")
  have hp := po_of (P := P) (w := w) (K := K) (mg := mg) (base := base) (x := "_law_raised") (qual := "_law_raised") (sc := defScope s__law_raised) (f := f) (cdv := cdv) (A := A) (outer := outer) (s := s) (H := H) (E := E) (N := ["b", "k", "found", "j"])
  have hu := Room.units hr
  have nd := sc__law_raised.nd
  exact ⟨_, jss_cons (js_set (i := 2) nd rfl (Or.inl rfl) (je_int))
    (jss_cons (js_for (vs := [3]) hp rfl (ji_range1 m_range (ja_cons (je_var 1) (ja_nil))) (jg_name 3 nd rfl (by first | exact Or.inl rfl | exact Or.inr rfl))
    (jss_one (js_set (i := 2) nd rfl (Or.inl rfl) (je_mul (je_var 2) (je_var 0)))))
    (jss_one (js_ret (je_var 2))))⟩
/-! ### _law_common -/
abbrev s__law_common : Stmt := topS 31
theorem sc__law_common : FnScope ["a", "b", "rest"] ["a", "b"] (defScope s__law_common) := ⟨rfl, rfl, rfl, by decide +kernel, rfl, by decide +kernel, by decide +kernel⟩
def w__law_common : WS :=
  wSeq (wSet 0 (wCB gAbs (wCons (wVar 0) (wNil))))
    (wSeq (wSet 1 (wCB gAbs (wCons (wVar 1) (wNil))))
    (wSeq (wWhile (wTest (wOp fNe (wVar 1) (wC (.int 0))))
    (wSeq (wSet 2 (wOp fMod (wCB gInt (wCons (wVar 0) (wNil))) (wVar 1)))
    (wSeq (wSet 0 (wVar 1))
    (wSet 1 (wVar 2)))))
    (wRet (wVar 0))))
theorem j__law_common {P : Program} {w : World} {K : PySem.W.Frag} {mg : Str → Option Value} {base : Heap} {k : Nat} {f : Addr} {cdv : Value} {A : Around} {outer : List Env} {s : Shared} {H : Hp} {E : XK} (hr : Room k (A.deeper (envOfC "_law_common" (defScope s__law_common) s.heap.objs.size f cdv))) (m_abs : mg "abs" = none) (m_int : mg "int" = none) :
    ∃ t, JSs (cxOf (L2.CX P w) P w K mg base ["a", "b", "rest"] "_law_common" (defScope s__law_common) f cdv A outer s H E) E (defBody s__law_common) t (w__law_common) := by
  have hx : Passes (L2.CX P w) (cxOf (L2.CX P w) P w K mg base ["a", "b", "rest"] "_law_common" (defScope s__law_common) f cdv A outer s H E) E := px_of (x := "_law_common")
  have hp := po_of (P := P) (w := w) (K := K) (mg := mg) (base := base) (x := "_law_common") (qual := "_law_common") (sc := defScope s__law_common) (f := f) (cdv := cdv) (A := A) (outer := outer) (s := s) (H := H) (E := E) (N := ["a", "b", "rest"])
  have hu := Room.units hr
  have nd := sc__law_common.nd
  exact ⟨_, jss_cons (js_set (i := 0) nd rfl (Or.inl rfl) (je_abs m_abs (ja_cons (je_var 0) (ja_nil))))
    (jss_cons (js_set (i := 1) nd rfl (Or.inl rfl) (je_abs m_abs (ja_cons (je_var 1) (ja_nil))))
    (jss_cons (js_while hp (jt_ne (K := K) hu (je_var 1) (je_int))
    (jss_cons (js_set (i := 2) nd rfl (Or.inl rfl) (je_mod (je_intC m_int (ja_cons (je_var 0) (ja_nil))) (je_var 1)))
    (jss_cons (js_set (i := 0) nd rfl (Or.inl rfl) (je_var 1))
    (jss_one (js_set (i := 1) nd rfl (Or.inl rfl) (je_var 2))))))
    (jss_one (js_ret (je_var 0)))))⟩
/-! ### _law_fraction -/
abbrev s__law_fraction : Stmt := topS 32
theorem sc__law_fraction : FnScope ["n", "m", "g"] ["n", "m"] (defScope s__law_fraction) := ⟨rfl, rfl, rfl, by decide +kernel, rfl, by decide +kernel, by decide +kernel⟩
def w__law_fraction (a__law_common : ASp) : WS :=
  wSeq (wSet 2 (wCB a__law_common (wCons (wVar 0) (wCons (wVar 1) (wNil)))))
    (wSeq (wIfS (wTest (wOp fLt (wVar 1) (wC (.int 0))))
    (wSet 2 (wOp fSub (wC (.int 0)) (wVar 2)))
    (wNext))
    (wRet (wTup (wCons (wOp fDivX (wVar 0) (wVar 2)) (wCons (wOp fDivX (wVar 1) (wVar 2)) (wNil))))))
theorem j__law_fraction {P : Program} {w : World} {K : PySem.W.Frag} {mg : Str → Option Value} {base : Heap} {k : Nat} {f : Addr} {cdv : Value} {A : Around} {outer : List Env} {s : Shared} {H : Hp} {E : XK} (hr : Room k (A.deeper (envOfC "_law_fraction" (defScope s__law_fraction) s.heap.objs.size f cdv))) {a__law_common : ASp} (c__law_common : Cal P w K mg base k "_law_common" a__law_common) (sb : base.NoSeer) (tr : P.given.tree = none) (kb : 33 ≤ k) :
    ∃ t, JSs (cxOf (L2.CX P w) P w K mg base ["n", "m", "g"] "_law_fraction" (defScope s__law_fraction) f cdv A outer s H E) E (defBody s__law_fraction) t (w__law_fraction a__law_common) := by
  have hx : Passes (L2.CX P w) (cxOf (L2.CX P w) P w K mg base ["n", "m", "g"] "_law_fraction" (defScope s__law_fraction) f cdv A outer s H E) E := px_of (x := "_law_fraction")
  have hp := po_of (P := P) (w := w) (K := K) (mg := mg) (base := base) (x := "_law_fraction") (qual := "_law_fraction") (sc := defScope s__law_fraction) (f := f) (cdv := cdv) (A := A) (outer := outer) (s := s) (H := H) (E := E) (N := ["n", "m", "g"])
  have hu := Room.units hr
  have nd := sc__law_fraction.nd
  have bo := big_of (w := w) (K := K) (mg := mg) (N := ["n", "m", "g"]) (cdv := cdv) (outer := outer) (H := H) (E := E) sb tr hr kb rfl rfl
  exact ⟨_, jss_cons (js_set (i := 2) nd rfl (Or.inl rfl) (je_call (K := K) c__law_common hr hx (ja_cons (je_var 0) (ja_cons (je_var 1) (ja_nil)))))
    (jss_cons (js_if (jt_lt (je_var 1) (je_int))
    (jss_one (js_set (i := 2) nd rfl (Or.inl rfl) (je_sub (je_int) (je_var 2))))
    (jss_nil))
    (jss_one (js_ret (je_tup (ja_cons (je_divX bo (je_var 0) (je_var 2)) (ja_cons (je_divX bo (je_var 1) (je_var 2)) (ja_nil)))))))⟩
/-! ### _law_zero -/
abbrev s__law_zero : Stmt := topS 33
theorem sc__law_zero : FnScope ["d"] ["d"] (defScope s__law_zero) := ⟨rfl, rfl, rfl, by decide +kernel, rfl, by decide +kernel, by decide +kernel⟩
def w__law_zero : WS :=
  wSeq (wIfS (wTest (wOp fEq (wOp fIx (wVar 0) (wC (.int 0))) (wC (.str "Q"))))
    (wRet (wTup (wCons (wC (.int 0)) (wCons (wC (.int 1)) (wNil)))))
    (wNext))
    (wSeq (wIfS (wTest (wOp fEq (wOp fIx (wVar 0) (wC (.int 0))) (wC (.str "P"))))
    (wRet (wTup (wNil)))
    (wNext))
    (wRet (wC (.int 0))))
theorem j__law_zero {P : Program} {w : World} {K : PySem.W.Frag} {mg : Str → Option Value} {base : Heap} {k : Nat} {f : Addr} {cdv : Value} {A : Around} {outer : List Env} {s : Shared} {H : Hp} {E : XK} (hr : Room k (A.deeper (envOfC "_law_zero" (defScope s__law_zero) s.heap.objs.size f cdv))) :
    ∃ t, JSs (cxOf (L2.CX P w) P w K mg base ["d"] "_law_zero" (defScope s__law_zero) f cdv A outer s H E) E (defBody s__law_zero) t (w__law_zero) := by
  have hx : Passes (L2.CX P w) (cxOf (L2.CX P w) P w K mg base ["d"] "_law_zero" (defScope s__law_zero) f cdv A outer s H E) E := px_of (x := "_law_zero")
  have hp := po_of (P := P) (w := w) (K := K) (mg := mg) (base := base) (x := "_law_zero") (qual := "_law_zero") (sc := defScope s__law_zero) (f := f) (cdv := cdv) (A := A) (outer := outer) (s := s) (H := H) (E := E) (N := ["d"])
  have hu := Room.units hr
  have nd := sc__law_zero.nd
  exact ⟨_, jss_cons (js_if (jt_eq (K := K) hu (je_ix (K := K) (je_var 0) (je_int)) (je_str))
    (jss_one (js_ret (je_tup (ja_cons (je_int) (ja_cons (je_int) (ja_nil))))))
    (jss_nil))
    (jss_cons (js_if (jt_eq (K := K) hu (je_ix (K := K) (je_var 0) (je_int)) (je_str))
    (jss_one (js_ret (je_tup (ja_nil))))
    (jss_nil))
    (jss_one (js_ret (je_int))))⟩
/-! ### _law_strip -/
abbrev s__law_strip : Stmt := topS 34
theorem sc__law_strip : FnScope ["f", "parts", "many"] ["f", "parts"] (defScope s__law_strip) := ⟨rfl, rfl, rfl, by decide +kernel, rfl, by decide +kernel, by decide +kernel⟩
def w__law_strip (a__law_zero : ASp) : WS :=
  wSeq (wSet 2 (wCB gLen (wCons (wVar 1) (wNil))))
    (wSeq (wWhile (wAnd (wTest (wOp fGt (wVar 2) (wC (.int 0)))) (wTest (wOp fEq (wOp fIx (wVar 1) (wOp fSub (wVar 2) (wC (.int 1)))) (wCB a__law_zero (wCons (wVar 0) (wNil))))))
    (wSet 2 (wOp fSub (wVar 2) (wC (.int 1)))))
    (wRet (wCB gTuple (wCons (wSl (wVar 1) (wNoPart) (wPart (wVar 2))) (wNil)))))
theorem j__law_strip {P : Program} {w : World} {K : PySem.W.Frag} {mg : Str → Option Value} {base : Heap} {k : Nat} {f : Addr} {cdv : Value} {A : Around} {outer : List Env} {s : Shared} {H : Hp} {E : XK} (hr : Room k (A.deeper (envOfC "_law_strip" (defScope s__law_strip) s.heap.objs.size f cdv))) (m_len : mg "len" = none) (m_tuple : mg "tuple" = none) {a__law_zero : ASp} (c__law_zero : Cal P w K mg base k "_law_zero" a__law_zero) :
    ∃ t, JSs (cxOf (L2.CX P w) P w K mg base ["f", "parts", "many"] "_law_strip" (defScope s__law_strip) f cdv A outer s H E) E (defBody s__law_strip) t (w__law_strip a__law_zero) := by
  have hx : Passes (L2.CX P w) (cxOf (L2.CX P w) P w K mg base ["f", "parts", "many"] "_law_strip" (defScope s__law_strip) f cdv A outer s H E) E := px_of (x := "_law_strip")
  have hp := po_of (P := P) (w := w) (K := K) (mg := mg) (base := base) (x := "_law_strip") (qual := "_law_strip") (sc := defScope s__law_strip) (f := f) (cdv := cdv) (A := A) (outer := outer) (s := s) (H := H) (E := E) (N := ["f", "parts", "many"])
  have hu := Room.units hr
  have nd := sc__law_strip.nd
  exact ⟨_, jss_cons (js_set (i := 2) nd rfl (Or.inl rfl) (je_len (K := K) m_len (ja_cons (je_var 1) (ja_nil))))
    (jss_cons (js_while hp ((jw_and (jt_gt (je_var 2) (je_int)) (jw_and1 (jt_eq (K := K) hu (je_ix (K := K) (je_var 1) (je_sub (je_var 2) (je_int))) (je_call (K := K) c__law_zero hr hx (ja_cons (je_var 0) (ja_nil)))))).jt)
    (jss_one (js_set (i := 2) nd rfl (Or.inl rfl) (je_sub (je_var 2) (je_int)))))
    (jss_one (js_ret (je_tuple (K := K) m_tuple (ja_cons (je_slice (K := K) (je_var 1) (jo_none) (jo_some (je_var 2))) (ja_nil))))))⟩
/-! ### _law_number -/
abbrev s__law_number : Stmt := topS 35
theorem sc__law_number : FnScope ["d", "n"] ["d", "n"] (defScope s__law_number) := ⟨rfl, rfl, rfl, by decide +kernel, rfl, by decide +kernel, by decide +kernel⟩
def w__law_number (a__law_strip : ASp) (a__law_number : ASp) : WS :=
  wSeq (wIfS (wTest (wOp fEq (wOp fIx (wVar 0) (wC (.int 0))) (wC (.str "Q"))))
    (wRet (wTup (wCons (wVar 1) (wCons (wC (.int 1)) (wNil)))))
    (wNext))
    (wSeq (wIfS (wTest (wOp fEq (wOp fIx (wVar 0) (wC (.int 0))) (wC (.str "F"))))
    (wRet (wOp fMod (wCB gInt (wCons (wVar 1) (wNil))) (wOp fIx (wVar 0) (wC (.int 1)))))
    (wNext))
    (wSeq (wIfS (wTest (wOp fEq (wOp fIx (wVar 0) (wC (.int 0))) (wC (.str "P"))))
    (wRet (wCB a__law_strip (wCons (wOp fIx (wVar 0) (wC (.int 1))) (wCons (wLst (wCons (wCB a__law_number (wCons (wOp fIx (wVar 0) (wC (.int 1))) (wCons (wVar 1) (wNil)))) (wNil))) (wNil)))))
    (wNext))
    (wRet (wVar 1))))
theorem j__law_number {P : Program} {w : World} {K : PySem.W.Frag} {mg : Str → Option Value} {base : Heap} {k : Nat} {f : Addr} {cdv : Value} {A : Around} {outer : List Env} {s : Shared} {H : Hp} {E : XK} (hr : Room k (A.deeper (envOfC "_law_number" (defScope s__law_number) s.heap.objs.size f cdv))) (m_int : mg "int" = none) {a__law_strip : ASp} (c__law_strip : Cal P w K mg base k "_law_strip" a__law_strip) {a__law_number : ASp} (c__law_number : Cal P w K mg base k "_law_number" a__law_number) :
    ∃ t, JSs (cxOf (L2.CX P w) P w K mg base ["d", "n"] "_law_number" (defScope s__law_number) f cdv A outer s H E) E (defBody s__law_number) t (w__law_number a__law_strip a__law_number) := by
  have hx : Passes (L2.CX P w) (cxOf (L2.CX P w) P w K mg base ["d", "n"] "_law_number" (defScope s__law_number) f cdv A outer s H E) E := px_of (x := "_law_number")
  have hp := po_of (P := P) (w := w) (K := K) (mg := mg) (base := base) (x := "_law_number") (qual := "_law_number") (sc := defScope s__law_number) (f := f) (cdv := cdv) (A := A) (outer := outer) (s := s) (H := H) (E := E) (N := ["d", "n"])
  have hu := Room.units hr
  have nd := sc__law_number.nd
  exact ⟨_, jss_cons (js_if (jt_eq (K := K) hu (je_ix (K := K) (je_var 0) (je_int)) (je_str))
    (jss_one (js_ret (je_tup (ja_cons (je_var 1) (ja_cons (je_int) (ja_nil))))))
    (jss_nil))
    (jss_cons (js_if (jt_eq (K := K) hu (je_ix (K := K) (je_var 0) (je_int)) (je_str))
    (jss_one (js_ret (je_mod (je_intC m_int (ja_cons (je_var 1) (ja_nil))) (je_ix (K := K) (je_var 0) (je_int)))))
    (jss_nil))
    (jss_cons (js_if (jt_eq (K := K) hu (je_ix (K := K) (je_var 0) (je_int)) (je_str))
    (jss_one (js_ret (je_call (K := K) c__law_strip hr hx (ja_cons (je_ix (K := K) (je_var 0) (je_int)) (ja_cons (je_lst (ja_cons (je_call (K := K) c__law_number hr hx (ja_cons (je_ix (K := K) (je_var 0) (je_int)) (ja_cons (je_var 1) (ja_nil)))) (ja_nil))) (ja_nil))))))
    (jss_nil))
    (jss_one (js_ret (je_var 1)))))⟩
/-! ### _law_part -/
abbrev s__law_part : Stmt := topS 36
theorem sc__law_part : FnScope ["d", "x", "k"] ["d", "x", "k"] (defScope s__law_part) := ⟨rfl, rfl, rfl, by decide +kernel, rfl, by decide +kernel, by decide +kernel⟩
def w__law_part (a__law_zero : ASp) : WS :=
  wSeq (wIfS (wTest (wOp fLt (wVar 2) (wCB gLen (wCons (wVar 1) (wNil)))))
    (wRet (wOp fIx (wVar 1) (wVar 2)))
    (wNext))
    (wRet (wCB a__law_zero (wCons (wVar 0) (wNil))))
theorem j__law_part {P : Program} {w : World} {K : PySem.W.Frag} {mg : Str → Option Value} {base : Heap} {k : Nat} {f : Addr} {cdv : Value} {A : Around} {outer : List Env} {s : Shared} {H : Hp} {E : XK} (hr : Room k (A.deeper (envOfC "_law_part" (defScope s__law_part) s.heap.objs.size f cdv))) (m_len : mg "len" = none) {a__law_zero : ASp} (c__law_zero : Cal P w K mg base k "_law_zero" a__law_zero) :
    ∃ t, JSs (cxOf (L2.CX P w) P w K mg base ["d", "x", "k"] "_law_part" (defScope s__law_part) f cdv A outer s H E) E (defBody s__law_part) t (w__law_part a__law_zero) := by
  have hx : Passes (L2.CX P w) (cxOf (L2.CX P w) P w K mg base ["d", "x", "k"] "_law_part" (defScope s__law_part) f cdv A outer s H E) E := px_of (x := "_law_part")
  have hp := po_of (P := P) (w := w) (K := K) (mg := mg) (base := base) (x := "_law_part") (qual := "_law_part") (sc := defScope s__law_part) (f := f) (cdv := cdv) (A := A) (outer := outer) (s := s) (H := H) (E := E) (N := ["d", "x", "k"])
  have hu := Room.units hr
  have nd := sc__law_part.nd
  exact ⟨_, jss_cons (js_if (jt_lt (je_var 2) (je_len (K := K) m_len (ja_cons (je_var 1) (ja_nil))))
    (jss_one (js_ret (je_ix (K := K) (je_var 1) (je_var 2))))
    (jss_nil))
    (jss_one (js_ret (je_call (K := K) c__law_zero hr hx (ja_cons (je_var 0) (ja_nil)))))⟩
/-! ### _law_add -/
abbrev s__law_add : Stmt := topS 37
theorem sc__law_add : FnScope ["d", "x", "y", "long", "k"] ["d", "x", "y"] (defScope s__law_add) := ⟨rfl, rfl, rfl, by decide +kernel, rfl, by decide +kernel, by decide +kernel⟩
def w__law_add (a__law_fraction : ASp) (a__law_strip : ASp) (a__law_add : ASp) (a__law_part : ASp) : WS :=
  wSeq (wIfS (wTest (wOp fEq (wOp fIx (wVar 0) (wC (.int 0))) (wC (.str "Q"))))
    (wRet (wCB a__law_fraction (wCons (wOp fAdd (wOp fMul (wOp fIx (wVar 1) (wC (.int 0))) (wOp fIx (wVar 2) (wC (.int 1)))) (wOp fMul (wOp fIx (wVar 2) (wC (.int 0))) (wOp fIx (wVar 1) (wC (.int 1))))) (wCons (wOp fMul (wOp fIx (wVar 1) (wC (.int 1))) (wOp fIx (wVar 2) (wC (.int 1)))) (wNil)))))
    (wNext))
    (wSeq (wIfS (wTest (wOp fEq (wOp fIx (wVar 0) (wC (.int 0))) (wC (.str "F"))))
    (wRet (wOp fMod (wCB gInt (wCons (wOp fAdd (wVar 1) (wVar 2)) (wNil))) (wOp fIx (wVar 0) (wC (.int 1)))))
    (wNext))
    (wSeq (wIfS (wTest (wOp fEq (wOp fIx (wVar 0) (wC (.int 0))) (wC (.str "P"))))
    (wSeq (wSet 3 (wCB gMax (wCons (wCB gLen (wCons (wVar 1) (wNil))) (wCons (wCB gLen (wCons (wVar 2) (wNil))) (wNil)))))
    (wRet (wCB a__law_strip (wCons (wOp fIx (wVar 0) (wC (.int 1))) (wCons (wLcA (wiRange1 (wCons (wVar 3) (wNil))) (wgName 4) (wYes) (wCB a__law_add (wCons (wOp fIx (wVar 0) (wC (.int 1))) (wCons (wCB a__law_part (wCons (wOp fIx (wVar 0) (wC (.int 1))) (wCons (wVar 1) (wCons (wVar 4) (wNil))))) (wCons (wCB a__law_part (wCons (wOp fIx (wVar 0) (wC (.int 1))) (wCons (wVar 2) (wCons (wVar 4) (wNil))))) (wNil))))) [4] finF) (wNil))))))
    (wNext))
    (wRet (wOp fAdd (wVar 1) (wVar 2)))))
theorem j__law_add {P : Program} {w : World} {K : PySem.W.Frag} {mg : Str → Option Value} {base : Heap} {k : Nat} {f : Addr} {cdv : Value} {A : Around} {outer : List Env} {s : Shared} {H : Hp} {E : XK} (hr : Room k (A.deeper (envOfC "_law_add" (defScope s__law_add) s.heap.objs.size f cdv))) (m_int : mg "int" = none) (m_max : mg "max" = none) (m_len : mg "len" = none) (m_range : mg "range" = none) {a__law_fraction : ASp} (c__law_fraction : Cal P w K mg base k "_law_fraction" a__law_fraction) {a__law_strip : ASp} (c__law_strip : Cal P w K mg base k "_law_strip" a__law_strip) {a__law_add : ASp} (c__law_add : Cal P w K mg base k "_law_add" a__law_add) {a__law_part : ASp} (c__law_part : Cal P w K mg base k "_law_part" a__law_part) :
    ∃ t, JSs (cxOf (L2.CX P w) P w K mg base ["d", "x", "y", "long", "k"] "_law_add" (defScope s__law_add) f cdv A outer s H E) E (defBody s__law_add) t (w__law_add a__law_fraction a__law_strip a__law_add a__law_part) := by
  have hx : Passes (L2.CX P w) (cxOf (L2.CX P w) P w K mg base ["d", "x", "y", "long", "k"] "_law_add" (defScope s__law_add) f cdv A outer s H E) E := px_of (x := "_law_add")
  have hp := po_of (P := P) (w := w) (K := K) (mg := mg) (base := base) (x := "_law_add") (qual := "_law_add") (sc := defScope s__law_add) (f := f) (cdv := cdv) (A := A) (outer := outer) (s := s) (H := H) (E := E) (N := ["d", "x", "y", "long", "k"])
  have hu := Room.units hr
  have nd := sc__law_add.nd
  exact ⟨_, jss_cons (js_if (jt_eq (K := K) hu (je_ix (K := K) (je_var 0) (je_int)) (je_str))
    (jss_one (js_ret (je_call (K := K) c__law_fraction hr hx (ja_cons (je_add (K := K) (je_mul (je_ix (K := K) (je_var 1) (je_int)) (je_ix (K := K) (je_var 2) (je_int))) (je_mul (je_ix (K := K) (je_var 2) (je_int)) (je_ix (K := K) (je_var 1) (je_int)))) (ja_cons (je_mul (je_ix (K := K) (je_var 1) (je_int)) (je_ix (K := K) (je_var 2) (je_int))) (ja_nil))))))
    (jss_nil))
    (jss_cons (js_if (jt_eq (K := K) hu (je_ix (K := K) (je_var 0) (je_int)) (je_str))
    (jss_one (js_ret (je_mod (je_intC m_int (ja_cons (je_add (K := K) (je_var 1) (je_var 2)) (ja_nil))) (je_ix (K := K) (je_var 0) (je_int)))))
    (jss_nil))
    (jss_cons (js_if (jt_eq (K := K) hu (je_ix (K := K) (je_var 0) (je_int)) (je_str))
    (jss_cons (js_set (i := 3) nd rfl (Or.inl rfl) (je_max (K := K) rfl m_max (ja_cons (je_len (K := K) m_len (ja_cons (je_var 1) (ja_nil))) (ja_cons (je_len (K := K) m_len (ja_cons (je_var 2) (ja_nil))) (ja_nil)))))
    (jss_one (js_ret (je_call (K := K) c__law_strip hr hx (ja_cons (je_ix (K := K) (je_var 0) (je_int)) (ja_cons (je_lcA (own := [("k", 4)]) fin_fl rfl nd (ji_range1 m_range (ja_cons (je_var 3) (ja_nil))) (blkOk_by (N := ["d", "x", "y", "long", "k"]) (sc := defScope s__law_add) (own := [("k", 4)]) (by decide +kernel)) (fun _ _ _ _ _ => jg_name 4 nd rfl (by first | exact Or.inl rfl | exact Or.inr rfl)) (fun _ _ _ _ _ => jts_nil) (fun _ _ _ _ _ => je_call (K := K) c__law_add hr passL (ja_cons (je_ix (K := K) (je_var 0) (je_int)) (ja_cons (je_call (K := K) c__law_part hr passL (ja_cons (je_ix (K := K) (je_var 0) (je_int)) (ja_cons (je_var 1) (ja_cons (je_var 4) (ja_nil))))) (ja_cons (je_call (K := K) c__law_part hr passL (ja_cons (je_ix (K := K) (je_var 0) (je_int)) (ja_cons (je_var 2) (ja_cons (je_var 4) (ja_nil))))) (ja_nil))))) s) (ja_nil)))))))
    (jss_nil))
    (jss_one (js_ret (je_add (K := K) (je_var 1) (je_var 2))))))⟩
/-! ### _law_multiply -/
abbrev s__law_multiply : Stmt := topS 38
theorem sc__law_multiply : FnScope ["d", "x", "y", "parts", "i", "j"] ["d", "x", "y"] (defScope s__law_multiply) := ⟨rfl, rfl, rfl, by decide +kernel, rfl, by decide +kernel, by decide +kernel⟩
def w__law_multiply (a__law_fraction : ASp) (a__law_zero : ASp) (a__law_add : ASp) (a__law_multiply : ASp) (a__law_strip : ASp) : WS :=
  wSeq (wIfS (wTest (wOp fEq (wOp fIx (wVar 0) (wC (.int 0))) (wC (.str "Q"))))
    (wRet (wCB a__law_fraction (wCons (wOp fMul (wOp fIx (wVar 1) (wC (.int 0))) (wOp fIx (wVar 2) (wC (.int 0)))) (wCons (wOp fMul (wOp fIx (wVar 1) (wC (.int 1))) (wOp fIx (wVar 2) (wC (.int 1)))) (wNil)))))
    (wNext))
    (wSeq (wIfS (wTest (wOp fEq (wOp fIx (wVar 0) (wC (.int 0))) (wC (.str "F"))))
    (wRet (wOp fMod (wCB gInt (wCons (wOp fMul (wVar 1) (wVar 2)) (wNil))) (wOp fIx (wVar 0) (wC (.int 1)))))
    (wNext))
    (wSeq (wIfS (wTest (wOp fEq (wOp fIx (wVar 0) (wC (.int 0))) (wC (.str "P"))))
    (wSeq (wSet 3 (wOp fMulR (wLst (wCons (wCB a__law_zero (wCons (wOp fIx (wVar 0) (wC (.int 1))) (wNil))) (wNil))) (wOp fAdd (wCB gLen (wCons (wVar 1) (wNil))) (wCB gLen (wCons (wVar 2) (wNil))))))
    (wSeq (wFor (wiRange1 (wCons (wCB gLen (wCons (wVar 1) (wNil))) (wNil))) (wgName 4)
    (wFor (wiRange1 (wCons (wCB gLen (wCons (wVar 2) (wNil))) (wNil))) (wgName 5)
    (wAsg (wCB a__law_add (wCons (wOp fIx (wVar 0) (wC (.int 1))) (wCons (wOp fIx (wVar 3) (wOp fAdd (wVar 4) (wVar 5))) (wCons (wCB a__law_multiply (wCons (wOp fIx (wVar 0) (wC (.int 1))) (wCons (wOp fIx (wVar 1) (wVar 4)) (wCons (wOp fIx (wVar 2) (wVar 5)) (wNil))))) (wNil))))) (wgSub (wVar 3) (wOp fAdd (wVar 4) (wVar 5))))))
    (wRet (wCB a__law_strip (wCons (wOp fIx (wVar 0) (wC (.int 1))) (wCons (wVar 3) (wNil)))))))
    (wNext))
    (wRet (wOp fMul (wVar 1) (wVar 2)))))
theorem j__law_multiply {P : Program} {w : World} {K : PySem.W.Frag} {mg : Str → Option Value} {base : Heap} {k : Nat} {f : Addr} {cdv : Value} {A : Around} {outer : List Env} {s : Shared} {H : Hp} {E : XK} (hr : Room k (A.deeper (envOfC "_law_multiply" (defScope s__law_multiply) s.heap.objs.size f cdv))) (m_int : mg "int" = none) (m_len : mg "len" = none) (m_range : mg "range" = none) {a__law_fraction : ASp} (c__law_fraction : Cal P w K mg base k "_law_fraction" a__law_fraction) {a__law_zero : ASp} (c__law_zero : Cal P w K mg base k "_law_zero" a__law_zero) {a__law_add : ASp} (c__law_add : Cal P w K mg base k "_law_add" a__law_add) {a__law_multiply : ASp} (c__law_multiply : Cal P w K mg base k "_law_multiply" a__law_multiply) {a__law_strip : ASp} (c__law_strip : Cal P w K mg base k "_law_strip" a__law_strip) :
    ∃ t, JSs (cxOf (L2.CX P w) P w K mg base ["d", "x", "y", "parts", "i", "j"] "_law_multiply" (defScope s__law_multiply) f cdv A outer s H E) E (defBody s__law_multiply) t (w__law_multiply a__law_fraction a__law_zero a__law_add a__law_multiply a__law_strip) := by
  have hx : Passes (L2.CX P w) (cxOf (L2.CX P w) P w K mg base ["d", "x", "y", "parts", "i", "j"] "_law_multiply" (defScope s__law_multiply) f cdv A outer s H E) E := px_of (x := "_law_multiply")
  have hp := po_of (P := P) (w := w) (K := K) (mg := mg) (base := base) (x := "_law_multiply") (qual := "_law_multiply") (sc := defScope s__law_multiply) (f := f) (cdv := cdv) (A := A) (outer := outer) (s := s) (H := H) (E := E) (N := ["d", "x", "y", "parts", "i", "j"])
  have hu := Room.units hr
  have nd := sc__law_multiply.nd
  exact ⟨_, jss_cons (js_if (jt_eq (K := K) hu (je_ix (K := K) (je_var 0) (je_int)) (je_str))
    (jss_one (js_ret (je_call (K := K) c__law_fraction hr hx (ja_cons (je_mul (je_ix (K := K) (je_var 1) (je_int)) (je_ix (K := K) (je_var 2) (je_int))) (ja_cons (je_mul (je_ix (K := K) (je_var 1) (je_int)) (je_ix (K := K) (je_var 2) (je_int))) (ja_nil))))))
    (jss_nil))
    (jss_cons (js_if (jt_eq (K := K) hu (je_ix (K := K) (je_var 0) (je_int)) (je_str))
    (jss_one (js_ret (je_mod (je_intC m_int (ja_cons (je_mul (je_var 1) (je_var 2)) (ja_nil))) (je_ix (K := K) (je_var 0) (je_int)))))
    (jss_nil))
    (jss_cons (js_if (jt_eq (K := K) hu (je_ix (K := K) (je_var 0) (je_int)) (je_str))
    (jss_cons (js_set (i := 3) nd rfl (Or.inl rfl) (je_mulR (je_lst (ja_cons (je_call (K := K) c__law_zero hr hx (ja_cons (je_ix (K := K) (je_var 0) (je_int)) (ja_nil))) (ja_nil))) (je_add (K := K) (je_len (K := K) m_len (ja_cons (je_var 1) (ja_nil))) (je_len (K := K) m_len (ja_cons (je_var 2) (ja_nil))))))
    (jss_cons (js_for (vs := [4]) hp rfl (ji_range1 m_range (ja_cons (je_len (K := K) m_len (ja_cons (je_var 1) (ja_nil))) (ja_nil))) (jg_name 4 nd rfl (by first | exact Or.inl rfl | exact Or.inr rfl))
    (jss_one (js_for (vs := [5]) hp rfl (ji_range1 m_range (ja_cons (je_len (K := K) m_len (ja_cons (je_var 2) (ja_nil))) (ja_nil))) (jg_name 5 nd rfl (by first | exact Or.inl rfl | exact Or.inr rfl))
    (jss_one (js_asg (vs := []) (je_call (K := K) c__law_add hr hx (ja_cons (je_ix (K := K) (je_var 0) (je_int)) (ja_cons (je_ix (K := K) (je_var 3) (je_add (K := K) (je_var 4) (je_var 5))) (ja_cons (je_call (K := K) c__law_multiply hr hx (ja_cons (je_ix (K := K) (je_var 0) (je_int)) (ja_cons (je_ix (K := K) (je_var 1) (je_var 4)) (ja_cons (je_ix (K := K) (je_var 2) (je_var 5)) (ja_nil))))) (ja_nil))))) (jg_sub (je_var 3) (je_add (K := K) (je_var 4) (je_var 5))))))))
    (jss_one (js_ret (je_call (K := K) c__law_strip hr hx (ja_cons (je_ix (K := K) (je_var 0) (je_int)) (ja_cons (je_var 3) (ja_nil))))))))
    (jss_nil))
    (jss_one (js_ret (je_mul (je_var 1) (je_var 2))))))⟩
/-! ### _law_subtract -/
abbrev s__law_subtract : Stmt := topS 39
theorem sc__law_subtract : FnScope ["d", "x", "y"] ["d", "x", "y"] (defScope s__law_subtract) := ⟨rfl, rfl, rfl, by decide +kernel, rfl, by decide +kernel, by decide +kernel⟩
def w__law_subtract (a__law_add : ASp) (a__law_multiply : ASp) (a__law_number : ASp) : WS :=
  wRet (wCB a__law_add (wCons (wVar 0) (wCons (wVar 1) (wCons (wCB a__law_multiply (wCons (wVar 0) (wCons (wCB a__law_number (wCons (wVar 0) (wCons (wOp fSub (wC (.int 0)) (wC (.int 1))) (wNil)))) (wCons (wVar 2) (wNil))))) (wNil)))))
theorem j__law_subtract {P : Program} {w : World} {K : PySem.W.Frag} {mg : Str → Option Value} {base : Heap} {k : Nat} {f : Addr} {cdv : Value} {A : Around} {outer : List Env} {s : Shared} {H : Hp} {E : XK} (hr : Room k (A.deeper (envOfC "_law_subtract" (defScope s__law_subtract) s.heap.objs.size f cdv))) {a__law_add : ASp} (c__law_add : Cal P w K mg base k "_law_add" a__law_add) {a__law_multiply : ASp} (c__law_multiply : Cal P w K mg base k "_law_multiply" a__law_multiply) {a__law_number : ASp} (c__law_number : Cal P w K mg base k "_law_number" a__law_number) :
    ∃ t, JSs (cxOf (L2.CX P w) P w K mg base ["d", "x", "y"] "_law_subtract" (defScope s__law_subtract) f cdv A outer s H E) E (defBody s__law_subtract) t (w__law_subtract a__law_add a__law_multiply a__law_number) := by
  have hx : Passes (L2.CX P w) (cxOf (L2.CX P w) P w K mg base ["d", "x", "y"] "_law_subtract" (defScope s__law_subtract) f cdv A outer s H E) E := px_of (x := "_law_subtract")
  have hp := po_of (P := P) (w := w) (K := K) (mg := mg) (base := base) (x := "_law_subtract") (qual := "_law_subtract") (sc := defScope s__law_subtract) (f := f) (cdv := cdv) (A := A) (outer := outer) (s := s) (H := H) (E := E) (N := ["d", "x", "y"])
  have hu := Room.units hr
  have nd := sc__law_subtract.nd
  exact ⟨_, jss_one (js_ret (je_call (K := K) c__law_add hr hx (ja_cons (je_var 0) (ja_cons (je_var 1) (ja_cons (je_call (K := K) c__law_multiply hr hx (ja_cons (je_var 0) (ja_cons (je_call (K := K) c__law_number hr hx (ja_cons (je_var 0) (ja_cons (je_sub (je_int) (je_int)) (ja_nil)))) (ja_cons (je_var 2) (ja_nil))))) (ja_nil))))))⟩
/-! ### _law_power -/
abbrev s__law_power : Stmt := topS 40
theorem sc__law_power : FnScope ["d", "x", "k", "result"] ["d", "x", "k"] (defScope s__law_power) := ⟨rfl, rfl, rfl, by decide +kernel, rfl, by decide +kernel, by decide +kernel⟩
def w__law_power (a__law_number : ASp) (a__law_multiply : ASp) : WS :=
  wSeq (wSet 3 (wCB a__law_number (wCons (wVar 0) (wCons (wC (.int 1)) (wNil)))))
    (wSeq (wWhile (wTest (wOp fGt (wVar 2) (wC (.int 0))))
    (wSeq (wIfS (wTest (wOp fEq (wOp fMod (wCB gInt (wCons (wVar 2) (wNil))) (wC (.int 2))) (wC (.int 1))))
    (wSet 3 (wCB a__law_multiply (wCons (wVar 0) (wCons (wVar 3) (wCons (wVar 1) (wNil))))))
    (wNext))
    (wSeq (wSet 1 (wCB a__law_multiply (wCons (wVar 0) (wCons (wVar 1) (wCons (wVar 1) (wNil))))))
    (wSet 2 (wOp fDiv (wVar 2) (wC (.int 2)))))))
    (wRet (wVar 3)))
theorem j__law_power {P : Program} {w : World} {K : PySem.W.Frag} {mg : Str → Option Value} {base : Heap} {k : Nat} {f : Addr} {cdv : Value} {A : Around} {outer : List Env} {s : Shared} {H : Hp} {E : XK} (hr : Room k (A.deeper (envOfC "_law_power" (defScope s__law_power) s.heap.objs.size f cdv))) (m_int : mg "int" = none) {a__law_number : ASp} (c__law_number : Cal P w K mg base k "_law_number" a__law_number) {a__law_multiply : ASp} (c__law_multiply : Cal P w K mg base k "_law_multiply" a__law_multiply) :
    ∃ t, JSs (cxOf (L2.CX P w) P w K mg base ["d", "x", "k", "result"] "_law_power" (defScope s__law_power) f cdv A outer s H E) E (defBody s__law_power) t (w__law_power a__law_number a__law_multiply) := by
  have hx : Passes (L2.CX P w) (cxOf (L2.CX P w) P w K mg base ["d", "x", "k", "result"] "_law_power" (defScope s__law_power) f cdv A outer s H E) E := px_of (x := "_law_power")
  have hp := po_of (P := P) (w := w) (K := K) (mg := mg) (base := base) (x := "_law_power") (qual := "_law_power") (sc := defScope s__law_power) (f := f) (cdv := cdv) (A := A) (outer := outer) (s := s) (H := H) (E := E) (N := ["d", "x", "k", "result"])
  have hu := Room.units hr
  have nd := sc__law_power.nd
  exact ⟨_, jss_cons (js_set (i := 3) nd rfl (Or.inl rfl) (je_call (K := K) c__law_number hr hx (ja_cons (je_var 0) (ja_cons (je_int) (ja_nil)))))
    (jss_cons (js_while hp (jt_gt (je_var 2) (je_int))
    (jss_cons (js_if (jt_eq (K := K) hu (je_mod (je_intC m_int (ja_cons (je_var 2) (ja_nil))) (je_int)) (je_int))
    (jss_one (js_set (i := 3) nd rfl (Or.inl rfl) (je_call (K := K) c__law_multiply hr hx (ja_cons (je_var 0) (ja_cons (je_var 3) (ja_cons (je_var 1) (ja_nil)))))))
    (jss_nil))
    (jss_cons (js_set (i := 1) nd rfl (Or.inl rfl) (je_call (K := K) c__law_multiply hr hx (ja_cons (je_var 0) (ja_cons (je_var 1) (ja_cons (je_var 1) (ja_nil))))))
    (jss_one (js_set (i := 2) nd rfl (Or.inl rfl) (je_div (je_var 2) (je_int)))))))
    (jss_one (js_ret (je_var 3))))⟩
/-! ### _law_inverse -/
abbrev s__law_inverse : Stmt := topS 41
theorem sc__law_inverse : FnScope ["f", "x"] ["f", "x"] (defScope s__law_inverse) := ⟨rfl, rfl, rfl, by decide +kernel, rfl, by decide +kernel, by decide +kernel⟩
def w__law_inverse (a__law_fraction : ASp) (a__law_power : ASp) : WS :=
  wSeq (wIfS (wTest (wOp fEq (wOp fIx (wVar 0) (wC (.int 0))) (wC (.str "Q"))))
    (wRet (wCB a__law_fraction (wCons (wOp fIx (wVar 1) (wC (.int 1))) (wCons (wOp fIx (wVar 1) (wC (.int 0))) (wNil)))))
    (wNext))
    (wRet (wCB a__law_power (wCons (wVar 0) (wCons (wVar 1) (wCons (wOp fSub (wOp fIx (wVar 0) (wC (.int 1))) (wC (.int 2))) (wNil))))))
theorem j__law_inverse {P : Program} {w : World} {K : PySem.W.Frag} {mg : Str → Option Value} {base : Heap} {k : Nat} {f : Addr} {cdv : Value} {A : Around} {outer : List Env} {s : Shared} {H : Hp} {E : XK} (hr : Room k (A.deeper (envOfC "_law_inverse" (defScope s__law_inverse) s.heap.objs.size f cdv))) {a__law_fraction : ASp} (c__law_fraction : Cal P w K mg base k "_law_fraction" a__law_fraction) {a__law_power : ASp} (c__law_power : Cal P w K mg base k "_law_power" a__law_power) :
    ∃ t, JSs (cxOf (L2.CX P w) P w K mg base ["f", "x"] "_law_inverse" (defScope s__law_inverse) f cdv A outer s H E) E (defBody s__law_inverse) t (w__law_inverse a__law_fraction a__law_power) := by
  have hx : Passes (L2.CX P w) (cxOf (L2.CX P w) P w K mg base ["f", "x"] "_law_inverse" (defScope s__law_inverse) f cdv A outer s H E) E := px_of (x := "_law_inverse")
  have hp := po_of (P := P) (w := w) (K := K) (mg := mg) (base := base) (x := "_law_inverse") (qual := "_law_inverse") (sc := defScope s__law_inverse) (f := f) (cdv := cdv) (A := A) (outer := outer) (s := s) (H := H) (E := E) (N := ["f", "x"])
  have hu := Room.units hr
  have nd := sc__law_inverse.nd
  exact ⟨_, jss_cons (js_if (jt_eq (K := K) hu (je_ix (K := K) (je_var 0) (je_int)) (je_str))
    (jss_one (js_ret (je_call (K := K) c__law_fraction hr hx (ja_cons (je_ix (K := K) (je_var 1) (je_int)) (ja_cons (je_ix (K := K) (je_var 1) (je_int)) (ja_nil))))))
    (jss_nil))
    (jss_one (js_ret (je_call (K := K) c__law_power hr hx (ja_cons (je_var 0) (ja_cons (je_var 1) (ja_cons (je_sub (je_ix (K := K) (je_var 0) (je_int)) (je_int)) (ja_nil)))))))⟩
/-! ### _law_some_prime -/
abbrev s__law_some_prime : Stmt := topS 42
theorem sc__law_some_prime : FnScope ["c", "p", "k"] ["c"] (defScope s__law_some_prime) := ⟨rfl, rfl, rfl, by decide +kernel, rfl, by decide +kernel, by decide +kernel⟩
def w__law_some_prime (a__law_take : ASp) : WS :=
  wSeq (wSet 1 (wOp fAdd (wC (.int 2)) (wCB a__law_take (wCons (wVar 0) (wCons (wC (.int 65520)) (wNil))))))
    (wSeq (wWhile (wTruA (wCB gAny (wCons (wLcA (wiRange2 (wCons (wC (.int 2)) (wCons (wC (.int 257)) (wNil)))) (wgName 2) (wTest (wOp fLe (wOp fMul (wVar 2) (wVar 2)) (wVar 1))) (wOp fEq (wOp fMod (wCB gInt (wCons (wVar 1) (wNil))) (wVar 2)) (wC (.int 0))) [2] finF) (wNil))))
    (wSet 1 (wOp fAdd (wVar 1) (wC (.int 1)))))
    (wRet (wVar 1)))
theorem j__law_some_prime {P : Program} {w : World} {K : PySem.W.Frag} {mg : Str → Option Value} {base : Heap} {k : Nat} {f : Addr} {cdv : Value} {A : Around} {outer : List Env} {s : Shared} {H : Hp} {E : XK} (hr : Room k (A.deeper (envOfC "_law_some_prime" (defScope s__law_some_prime) s.heap.objs.size f cdv))) (m_any : mg "any" = none) (m_range : mg "range" = none) (m_int : mg "int" = none) {a__law_take : ASp} (c__law_take : Cal P w K mg base k "_law_take" a__law_take) :
    ∃ t, JSs (cxOf (L2.CX P w) P w K mg base ["c", "p", "k"] "_law_some_prime" (defScope s__law_some_prime) f cdv A outer s H E) E (defBody s__law_some_prime) t (w__law_some_prime a__law_take) := by
  have hx : Passes (L2.CX P w) (cxOf (L2.CX P w) P w K mg base ["c", "p", "k"] "_law_some_prime" (defScope s__law_some_prime) f cdv A outer s H E) E := px_of (x := "_law_some_prime")
  have hp := po_of (P := P) (w := w) (K := K) (mg := mg) (base := base) (x := "_law_some_prime") (qual := "_law_some_prime") (sc := defScope s__law_some_prime) (f := f) (cdv := cdv) (A := A) (outer := outer) (s := s) (H := H) (E := E) (N := ["c", "p", "k"])
  have hu := Room.units hr
  have nd := sc__law_some_prime.nd
  exact ⟨_, jss_cons (js_set (i := 1) nd rfl (Or.inr rfl) (je_add (K := K) (je_int) (je_call (K := K) c__law_take hr hx (ja_cons (je_var 0) (ja_cons (je_int) (ja_nil))))))
    (jss_cons (js_while hp (jt_tru (K := K) (je_any (K := K) rfl m_any (ja_cons (je_lcA (own := [("k", 2)]) fin_fl rfl nd (ji_range2 m_range (ja_cons (je_int) (ja_cons (je_int) (ja_nil)))) (blkOk_by (N := ["c", "p", "k"]) (sc := defScope s__law_some_prime) (own := [("k", 2)]) (by decide +kernel)) (fun _ _ _ _ _ => jg_name 2 nd rfl (by first | exact Or.inl rfl | exact Or.inr rfl)) (fun _ _ _ _ _ => jts_one (jt_le (je_mul (je_var 2) (je_var 2)) (je_var 1))) (fun _ _ _ _ _ => je_eq (K := K) hu (je_mod (je_intC m_int (ja_cons (je_var 1) (ja_nil))) (je_var 2)) (je_int)) s) (ja_nil))))
    (jss_one (js_set (i := 1) nd rfl (Or.inr rfl) (je_add (K := K) (je_var 1) (je_int)))))
    (jss_one (js_ret (je_var 1))))⟩
/-! ### _law_field -/
abbrev s__law_field : Stmt := topS 43
theorem sc__law_field : FnScope ["c", "primes", "k"] ["c"] (defScope s__law_field) := ⟨rfl, rfl, rfl, by decide +kernel, rfl, by decide +kernel, by decide +kernel⟩
def w__law_field (a__law_take : ASp) (a__law_some_prime : ASp) : WS :=
  wSeq (wSet 1 (wLst (wCons (wC (.int 2)) (wCons (wC (.int 3)) (wCons (wC (.int 5)) (wCons (wC (.int 7)) (wCons (wC (.int 11)) (wCons (wC (.int 101)) (wCons (wC (.int 65521)) (wNil))))))))))
    (wSeq (wSet 2 (wCB a__law_take (wCons (wVar 0) (wCons (wC (.int 14)) (wNil)))))
    (wSeq (wIfS (wTest (wOp fLt (wVar 2) (wC (.int 4))))
    (wRet (wTup (wCons (wC (.str "Q")) (wNil))))
    (wNext))
    (wSeq (wIfS (wTest (wOp fGt (wVar 2) (wC (.int 10))))
    (wRet (wTup (wCons (wC (.str "F")) (wCons (wCB a__law_some_prime (wCons (wVar 0) (wNil))) (wNil)))))
    (wNext))
    (wRet (wTup (wCons (wC (.str "F")) (wCons (wOp fIx (wVar 1) (wOp fSub (wVar 2) (wC (.int 4)))) (wNil))))))))
theorem j__law_field {P : Program} {w : World} {K : PySem.W.Frag} {mg : Str → Option Value} {base : Heap} {k : Nat} {f : Addr} {cdv : Value} {A : Around} {outer : List Env} {s : Shared} {H : Hp} {E : XK} (hr : Room k (A.deeper (envOfC "_law_field" (defScope s__law_field) s.heap.objs.size f cdv))) {a__law_take : ASp} (c__law_take : Cal P w K mg base k "_law_take" a__law_take) {a__law_some_prime : ASp} (c__law_some_prime : Cal P w K mg base k "_law_some_prime" a__law_some_prime) :
    ∃ t, JSs (cxOf (L2.CX P w) P w K mg base ["c", "primes", "k"] "_law_field" (defScope s__law_field) f cdv A outer s H E) E (defBody s__law_field) t (w__law_field a__law_take a__law_some_prime) := by
  have hx : Passes (L2.CX P w) (cxOf (L2.CX P w) P w K mg base ["c", "primes", "k"] "_law_field" (defScope s__law_field) f cdv A outer s H E) E := px_of (x := "_law_field")
  have hp := po_of (P := P) (w := w) (K := K) (mg := mg) (base := base) (x := "_law_field") (qual := "_law_field") (sc := defScope s__law_field) (f := f) (cdv := cdv) (A := A) (outer := outer) (s := s) (H := H) (E := E) (N := ["c", "primes", "k"])
  have hu := Room.units hr
  have nd := sc__law_field.nd
  exact ⟨_, jss_cons (js_set (i := 1) nd rfl (Or.inl rfl) (je_lst (ja_cons (je_int) (ja_cons (je_int) (ja_cons (je_int) (ja_cons (je_int) (ja_cons (je_int) (ja_cons (je_int) (ja_cons (je_int) (ja_nil))))))))))
    (jss_cons (js_set (i := 2) nd rfl (Or.inl rfl) (je_call (K := K) c__law_take hr hx (ja_cons (je_var 0) (ja_cons (je_int) (ja_nil)))))
    (jss_cons (js_if (jt_lt (je_var 2) (je_int))
    (jss_one (js_ret (je_tup (ja_cons (je_str) (ja_nil)))))
    (jss_nil))
    (jss_cons (js_if (jt_gt (je_var 2) (je_int))
    (jss_one (js_ret (je_tup (ja_cons (je_str) (ja_cons (je_call (K := K) c__law_some_prime hr hx (ja_cons (je_var 0) (ja_nil))) (ja_nil))))))
    (jss_nil))
    (jss_one (js_ret (je_tup (ja_cons (je_str) (ja_cons (je_ix (K := K) (je_var 1) (je_sub (je_var 2) (je_int))) (ja_nil)))))))))⟩
/-! ### _law_domain -/
abbrev s__law_domain : Stmt := topS 44
theorem sc__law_domain : FnScope ["c", "k"] ["c"] (defScope s__law_domain) := ⟨rfl, rfl, rfl, by decide +kernel, rfl, by decide +kernel, by decide +kernel⟩
def w__law_domain (a__law_take : ASp) (a__law_field : ASp) : WS :=
  wSeq (wSet 1 (wCB a__law_take (wCons (wVar 0) (wCons (wC (.int 6)) (wNil)))))
    (wSeq (wIfS (wTest (wOp fEq (wVar 1) (wC (.int 0))))
    (wRet (wTup (wCons (wC (.str "Z")) (wNil))))
    (wNext))
    (wSeq (wIfS (wTest (wOp fGt (wVar 1) (wC (.int 3))))
    (wRet (wTup (wCons (wC (.str "P")) (wCons (wCB a__law_field (wCons (wVar 0) (wNil))) (wNil)))))
    (wNext))
    (wRet (wCB a__law_field (wCons (wVar 0) (wNil))))))
theorem j__law_domain {P : Program} {w : World} {K : PySem.W.Frag} {mg : Str → Option Value} {base : Heap} {k : Nat} {f : Addr} {cdv : Value} {A : Around} {outer : List Env} {s : Shared} {H : Hp} {E : XK} (hr : Room k (A.deeper (envOfC "_law_domain" (defScope s__law_domain) s.heap.objs.size f cdv))) {a__law_take : ASp} (c__law_take : Cal P w K mg base k "_law_take" a__law_take) {a__law_field : ASp} (c__law_field : Cal P w K mg base k "_law_field" a__law_field) :
    ∃ t, JSs (cxOf (L2.CX P w) P w K mg base ["c", "k"] "_law_domain" (defScope s__law_domain) f cdv A outer s H E) E (defBody s__law_domain) t (w__law_domain a__law_take a__law_field) := by
  have hx : Passes (L2.CX P w) (cxOf (L2.CX P w) P w K mg base ["c", "k"] "_law_domain" (defScope s__law_domain) f cdv A outer s H E) E := px_of (x := "_law_domain")
  have hp := po_of (P := P) (w := w) (K := K) (mg := mg) (base := base) (x := "_law_domain") (qual := "_law_domain") (sc := defScope s__law_domain) (f := f) (cdv := cdv) (A := A) (outer := outer) (s := s) (H := H) (E := E) (N := ["c", "k"])
  have hu := Room.units hr
  have nd := sc__law_domain.nd
  exact ⟨_, jss_cons (js_set (i := 1) nd rfl (Or.inl rfl) (je_call (K := K) c__law_take hr hx (ja_cons (je_var 0) (ja_cons (je_int) (ja_nil)))))
    (jss_cons (js_if (jt_eq (K := K) hu (je_var 1) (je_int))
    (jss_one (js_ret (je_tup (ja_cons (je_str) (ja_nil)))))
    (jss_nil))
    (jss_cons (js_if (jt_gt (je_var 1) (je_int))
    (jss_one (js_ret (je_tup (ja_cons (je_str) (ja_cons (je_call (K := K) c__law_field hr hx (ja_cons (je_var 0) (ja_nil))) (ja_nil))))))
    (jss_nil))
    (jss_one (js_ret (je_call (K := K) c__law_field hr hx (ja_cons (je_var 0) (ja_nil)))))))⟩
/-! ### _law_integer -/
abbrev s__law_integer : Stmt := topS 45
theorem sc__law_integer : FnScope ["c", "k", "n"] ["c"] (defScope s__law_integer) := ⟨rfl, rfl, rfl, by decide +kernel, rfl, by decide +kernel, by decide +kernel⟩
def w__law_integer (a__law_take : ASp) (a__law_raised : ASp) : WS :=
  wSeq (wSet 1 (wCB a__law_take (wCons (wVar 0) (wCons (wC (.int 8)) (wNil)))))
    (wSeq (wSet 2 (wOp fIx (wLst (wCons (wCB a__law_take (wCons (wVar 0) (wCons (wC (.int 3)) (wNil)))) (wCons (wCB a__law_take (wCons (wVar 0) (wCons (wC (.int 12)) (wNil)))) (wCons (wCB a__law_take (wCons (wVar 0) (wCons (wC (.int 200)) (wNil)))) (wCons (wOp fAdd (wOp fPow (wC (.int 10)) (wC (.int 9))) (wCB a__law_take (wCons (wVar 0) (wCons (wC (.int 99)) (wNil))))) (wCons (wC (.int 0)) (wCons (wC (.int 1)) (wCons (wC (.int 2)) (wCons (wC (.int 5)) (wNil)))))))))) (wVar 1)))
    (wSeq (wIfS (wTest (wOp fEq (wCB a__law_take (wCons (wVar 0) (wCons (wC (.int 40)) (wNil)))) (wC (.int 0))))
    (wSet 2 (wOp fSub (wCB a__law_raised (wCons (wC (.int 10)) (wCons (wOp fAdd (wC (.int 10)) (wCB a__law_take (wCons (wVar 0) (wCons (wC (.int 30)) (wNil))))) (wNil)))) (wCB a__law_take (wCons (wVar 0) (wCons (wC (.int 1000)) (wNil))))))
    (wNext))
    (wSeq (wIfS (wTest (wOp fEq (wCB a__law_take (wCons (wVar 0) (wCons (wC (.int 2)) (wNil)))) (wC (.int 0))))
    (wRet (wOp fSub (wC (.int 0)) (wVar 2)))
    (wNext))
    (wRet (wVar 2)))))
theorem j__law_integer {P : Program} {w : World} {K : PySem.W.Frag} {mg : Str → Option Value} {base : Heap} {k : Nat} {f : Addr} {cdv : Value} {A : Around} {outer : List Env} {s : Shared} {H : Hp} {E : XK} (hr : Room k (A.deeper (envOfC "_law_integer" (defScope s__law_integer) s.heap.objs.size f cdv))) {a__law_take : ASp} (c__law_take : Cal P w K mg base k "_law_take" a__law_take) {a__law_raised : ASp} (c__law_raised : Cal P w K mg base k "_law_raised" a__law_raised) :
    ∃ t, JSs (cxOf (L2.CX P w) P w K mg base ["c", "k", "n"] "_law_integer" (defScope s__law_integer) f cdv A outer s H E) E (defBody s__law_integer) t (w__law_integer a__law_take a__law_raised) := by
  have hx : Passes (L2.CX P w) (cxOf (L2.CX P w) P w K mg base ["c", "k", "n"] "_law_integer" (defScope s__law_integer) f cdv A outer s H E) E := px_of (x := "_law_integer")
  have hp := po_of (P := P) (w := w) (K := K) (mg := mg) (base := base) (x := "_law_integer") (qual := "_law_integer") (sc := defScope s__law_integer) (f := f) (cdv := cdv) (A := A) (outer := outer) (s := s) (H := H) (E := E) (N := ["c", "k", "n"])
  have hu := Room.units hr
  have nd := sc__law_integer.nd
  exact ⟨_, jss_cons (js_set (i := 1) nd rfl (Or.inl rfl) (je_call (K := K) c__law_take hr hx (ja_cons (je_var 0) (ja_cons (je_int) (ja_nil)))))
    (jss_cons (js_set (i := 2) nd rfl (Or.inl rfl) (je_ix (K := K) (je_lst (ja_cons (je_call (K := K) c__law_take hr hx (ja_cons (je_var 0) (ja_cons (je_int) (ja_nil)))) (ja_cons (je_call (K := K) c__law_take hr hx (ja_cons (je_var 0) (ja_cons (je_int) (ja_nil)))) (ja_cons (je_call (K := K) c__law_take hr hx (ja_cons (je_var 0) (ja_cons (je_int) (ja_nil)))) (ja_cons (je_add (K := K) (je_pow (je_int) (je_int)) (je_call (K := K) c__law_take hr hx (ja_cons (je_var 0) (ja_cons (je_int) (ja_nil))))) (ja_cons (je_int) (ja_cons (je_int) (ja_cons (je_int) (ja_cons (je_int) (ja_nil)))))))))) (je_var 1)))
    (jss_cons (js_if (jt_eq (K := K) hu (je_call (K := K) c__law_take hr hx (ja_cons (je_var 0) (ja_cons (je_int) (ja_nil)))) (je_int))
    (jss_one (js_set (i := 2) nd rfl (Or.inl rfl) (je_sub (je_call (K := K) c__law_raised hr hx (ja_cons (je_int) (ja_cons (je_add (K := K) (je_int) (je_call (K := K) c__law_take hr hx (ja_cons (je_var 0) (ja_cons (je_int) (ja_nil))))) (ja_nil)))) (je_call (K := K) c__law_take hr hx (ja_cons (je_var 0) (ja_cons (je_int) (ja_nil)))))))
    (jss_nil))
    (jss_cons (js_if (jt_eq (K := K) hu (je_call (K := K) c__law_take hr hx (ja_cons (je_var 0) (ja_cons (je_int) (ja_nil)))) (je_int))
    (jss_one (js_ret (je_sub (je_int) (je_var 2))))
    (jss_nil))
    (jss_one (js_ret (je_var 2))))))⟩
/-! ### _law_element -/
abbrev s__law_element : Stmt := topS 46
theorem sc__law_element : FnScope ["c", "d", "n", "k"] ["c", "d"] (defScope s__law_element) := ⟨rfl, rfl, rfl, by decide +kernel, rfl, by decide +kernel, by decide +kernel⟩
def w__law_element (a__law_integer : ASp) (a__law_take : ASp) (a__law_fraction : ASp) (a__law_strip : ASp) (a__law_small : ASp) : WS :=
  wSeq (wSet 2 (wCB a__law_integer (wCons (wVar 0) (wNil))))
    (wSeq (wIfS (wTest (wOp fGt (wCB gAbs (wCons (wVar 2) (wNil))) (wOp fPow (wC (.int 10)) (wC (.int 12)))))
    (wSet 2 (wOp fMul (wOp fMod (wCB gInt (wCons (wVar 2) (wNil))) (wOp fPow (wC (.int 10)) (wC (.int 12)))) (wOp fIx (wLst (wCons (wC (.int 1)) (wCons (wOp fSub (wC (.int 0)) (wC (.int 1))) (wNil)))) (wCB a__law_take (wCons (wVar 0) (wCons (wC (.int 2)) (wNil)))))))
    (wNext))
    (wSeq (wIfS (wTest (wOp fEq (wOp fIx (wVar 1) (wC (.int 0))) (wC (.str "F"))))
    (wRet (wOp fMod (wCB gInt (wCons (wCB a__law_take (wCons (wVar 0) (wCons (wC (.int 65536)) (wNil)))) (wNil))) (wOp fIx (wVar 1) (wC (.int 1)))))
    (wNext))
    (wSeq (wIfS (wTest (wOp fEq (wOp fIx (wVar 1) (wC (.int 0))) (wC (.str "Q"))))
    (wRet (wCB a__law_fraction (wCons (wVar 2) (wCons (wOp fIx (wLst (wCons (wC (.int 1)) (wCons (wC (.int 1)) (wCons (wC (.int 2)) (wCons (wC (.int 3)) (wCons (wOp fAdd (wC (.int 1)) (wCB a__law_take (wCons (wVar 0) (wCons (wC (.int 50)) (wNil))))) (wNil))))))) (wCB a__law_take (wCons (wVar 0) (wCons (wC (.int 5)) (wNil))))) (wNil)))))
    (wNext))
    (wSeq (wIfS (wTest (wOp fEq (wOp fIx (wVar 1) (wC (.int 0))) (wC (.str "P"))))
    (wRet (wCB a__law_strip (wCons (wOp fIx (wVar 1) (wC (.int 1))) (wCons (wLcA (wiRange1 (wCons (wCB a__law_take (wCons (wVar 0) (wCons (wC (.int 5)) (wNil)))) (wNil))) (wgName 3) (wYes) (wCB a__law_small (wCons (wVar 0) (wCons (wOp fIx (wVar 1) (wC (.int 1))) (wNil)))) [3] finF) (wNil)))))
    (wNext))
    (wRet (wVar 2))))))
theorem j__law_element {P : Program} {w : World} {K : PySem.W.Frag} {mg : Str → Option Value} {base : Heap} {k : Nat} {f : Addr} {cdv : Value} {A : Around} {outer : List Env} {s : Shared} {H : Hp} {E : XK} (hr : Room k (A.deeper (envOfC "_law_element" (defScope s__law_element) s.heap.objs.size f cdv))) (m_abs : mg "abs" = none) (m_int : mg "int" = none) (m_range : mg "range" = none) {a__law_integer : ASp} (c__law_integer : Cal P w K mg base k "_law_integer" a__law_integer) {a__law_take : ASp} (c__law_take : Cal P w K mg base k "_law_take" a__law_take) {a__law_fraction : ASp} (c__law_fraction : Cal P w K mg base k "_law_fraction" a__law_fraction) {a__law_strip : ASp} (c__law_strip : Cal P w K mg base k "_law_strip" a__law_strip) {a__law_small : ASp} (c__law_small : Cal P w K mg base k "_law_small" a__law_small) :
    ∃ t, JSs (cxOf (L2.CX P w) P w K mg base ["c", "d", "n", "k"] "_law_element" (defScope s__law_element) f cdv A outer s H E) E (defBody s__law_element) t (w__law_element a__law_integer a__law_take a__law_fraction a__law_strip a__law_small) := by
  have hx : Passes (L2.CX P w) (cxOf (L2.CX P w) P w K mg base ["c", "d", "n", "k"] "_law_element" (defScope s__law_element) f cdv A outer s H E) E := px_of (x := "_law_element")
  have hp := po_of (P := P) (w := w) (K := K) (mg := mg) (base := base) (x := "_law_element") (qual := "_law_element") (sc := defScope s__law_element) (f := f) (cdv := cdv) (A := A) (outer := outer) (s := s) (H := H) (E := E) (N := ["c", "d", "n", "k"])
  have hu := Room.units hr
  have nd := sc__law_element.nd
  exact ⟨_, jss_cons (js_set (i := 2) nd rfl (Or.inl rfl) (je_call (K := K) c__law_integer hr hx (ja_cons (je_var 0) (ja_nil))))
    (jss_cons (js_if (jt_gt (je_abs m_abs (ja_cons (je_var 2) (ja_nil))) (je_pow (je_int) (je_int)))
    (jss_one (js_set (i := 2) nd rfl (Or.inl rfl) (je_mul (je_mod (je_intC m_int (ja_cons (je_var 2) (ja_nil))) (je_pow (je_int) (je_int))) (je_ix (K := K) (je_lst (ja_cons (je_int) (ja_cons (je_sub (je_int) (je_int)) (ja_nil)))) (je_call (K := K) c__law_take hr hx (ja_cons (je_var 0) (ja_cons (je_int) (ja_nil))))))))
    (jss_nil))
    (jss_cons (js_if (jt_eq (K := K) hu (je_ix (K := K) (je_var 1) (je_int)) (je_str))
    (jss_one (js_ret (je_mod (je_intC m_int (ja_cons (je_call (K := K) c__law_take hr hx (ja_cons (je_var 0) (ja_cons (je_int) (ja_nil)))) (ja_nil))) (je_ix (K := K) (je_var 1) (je_int)))))
    (jss_nil))
    (jss_cons (js_if (jt_eq (K := K) hu (je_ix (K := K) (je_var 1) (je_int)) (je_str))
    (jss_one (js_ret (je_call (K := K) c__law_fraction hr hx (ja_cons (je_var 2) (ja_cons (je_ix (K := K) (je_lst (ja_cons (je_int) (ja_cons (je_int) (ja_cons (je_int) (ja_cons (je_int) (ja_cons (je_add (K := K) (je_int) (je_call (K := K) c__law_take hr hx (ja_cons (je_var 0) (ja_cons (je_int) (ja_nil))))) (ja_nil))))))) (je_call (K := K) c__law_take hr hx (ja_cons (je_var 0) (ja_cons (je_int) (ja_nil))))) (ja_nil))))))
    (jss_nil))
    (jss_cons (js_if (jt_eq (K := K) hu (je_ix (K := K) (je_var 1) (je_int)) (je_str))
    (jss_one (js_ret (je_call (K := K) c__law_strip hr hx (ja_cons (je_ix (K := K) (je_var 1) (je_int)) (ja_cons (je_lcA (own := [("k", 3)]) fin_fl rfl nd (ji_range1 m_range (ja_cons (je_call (K := K) c__law_take hr hx (ja_cons (je_var 0) (ja_cons (je_int) (ja_nil)))) (ja_nil))) (blkOk_by (N := ["c", "d", "n", "k"]) (sc := defScope s__law_element) (own := [("k", 3)]) (by decide +kernel)) (fun _ _ _ _ _ => jg_name 3 nd rfl (by first | exact Or.inl rfl | exact Or.inr rfl)) (fun _ _ _ _ _ => jts_nil) (fun _ _ _ _ _ => je_call (K := K) c__law_small hr passL (ja_cons (je_var 0) (ja_cons (je_ix (K := K) (je_var 1) (je_int)) (ja_nil)))) s) (ja_nil))))))
    (jss_nil))
    (jss_one (js_ret (je_var 2)))))))⟩
/-! ### _law_small -/
abbrev s__law_small : Stmt := topS 47
theorem sc__law_small : FnScope ["c", "d", "k"] ["c", "d"] (defScope s__law_small) := ⟨rfl, rfl, rfl, by decide +kernel, rfl, by decide +kernel, by decide +kernel⟩
def w__law_small (a__law_take : ASp) (a__law_fraction : ASp) (a__law_strip : ASp) (a__law_small : ASp) : WS :=
  wSeq (wIfS (wTest (wOp fEq (wOp fIx (wVar 1) (wC (.int 0))) (wC (.str "F"))))
    (wRet (wOp fMod (wCB gInt (wCons (wCB a__law_take (wCons (wVar 0) (wCons (wC (.int 65536)) (wNil)))) (wNil))) (wOp fIx (wVar 1) (wC (.int 1)))))
    (wNext))
    (wSeq (wIfS (wTest (wOp fEq (wOp fIx (wVar 1) (wC (.int 0))) (wC (.str "Q"))))
    (wRet (wCB a__law_fraction (wCons (wOp fSub (wCB a__law_take (wCons (wVar 0) (wCons (wC (.int 9)) (wNil)))) (wC (.int 4))) (wCons (wOp fAdd (wC (.int 1)) (wCB a__law_take (wCons (wVar 0) (wCons (wC (.int 3)) (wNil))))) (wNil)))))
    (wNext))
    (wSeq (wIfS (wTest (wOp fEq (wOp fIx (wVar 1) (wC (.int 0))) (wC (.str "P"))))
    (wRet (wCB a__law_strip (wCons (wOp fIx (wVar 1) (wC (.int 1))) (wCons (wLcA (wiRange1 (wCons (wCB a__law_take (wCons (wVar 0) (wCons (wC (.int 3)) (wNil)))) (wNil))) (wgName 2) (wYes) (wCB a__law_small (wCons (wVar 0) (wCons (wOp fIx (wVar 1) (wC (.int 1))) (wNil)))) [2] finF) (wNil)))))
    (wNext))
    (wRet (wOp fIx (wLst (wCons (wOp fSub (wCB a__law_take (wCons (wVar 0) (wCons (wC (.int 9)) (wNil)))) (wC (.int 4))) (wCons (wC (.int 0)) (wCons (wC (.int 0)) (wCons (wC (.int 1)) (wCons (wOp fSub (wCB a__law_take (wCons (wVar 0) (wCons (wC (.int 99)) (wNil)))) (wC (.int 49))) (wNil))))))) (wCB a__law_take (wCons (wVar 0) (wCons (wC (.int 5)) (wNil))))))))
theorem j__law_small {P : Program} {w : World} {K : PySem.W.Frag} {mg : Str → Option Value} {base : Heap} {k : Nat} {f : Addr} {cdv : Value} {A : Around} {outer : List Env} {s : Shared} {H : Hp} {E : XK} (hr : Room k (A.deeper (envOfC "_law_small" (defScope s__law_small) s.heap.objs.size f cdv))) (m_int : mg "int" = none) (m_range : mg "range" = none) {a__law_take : ASp} (c__law_take : Cal P w K mg base k "_law_take" a__law_take) {a__law_fraction : ASp} (c__law_fraction : Cal P w K mg base k "_law_fraction" a__law_fraction) {a__law_strip : ASp} (c__law_strip : Cal P w K mg base k "_law_strip" a__law_strip) {a__law_small : ASp} (c__law_small : Cal P w K mg base k "_law_small" a__law_small) :
    ∃ t, JSs (cxOf (L2.CX P w) P w K mg base ["c", "d", "k"] "_law_small" (defScope s__law_small) f cdv A outer s H E) E (defBody s__law_small) t (w__law_small a__law_take a__law_fraction a__law_strip a__law_small) := by
  have hx : Passes (L2.CX P w) (cxOf (L2.CX P w) P w K mg base ["c", "d", "k"] "_law_small" (defScope s__law_small) f cdv A outer s H E) E := px_of (x := "_law_small")
  have hp := po_of (P := P) (w := w) (K := K) (mg := mg) (base := base) (x := "_law_small") (qual := "_law_small") (sc := defScope s__law_small) (f := f) (cdv := cdv) (A := A) (outer := outer) (s := s) (H := H) (E := E) (N := ["c", "d", "k"])
  have hu := Room.units hr
  have nd := sc__law_small.nd
  exact ⟨_, jss_cons (js_if (jt_eq (K := K) hu (je_ix (K := K) (je_var 1) (je_int)) (je_str))
    (jss_one (js_ret (je_mod (je_intC m_int (ja_cons (je_call (K := K) c__law_take hr hx (ja_cons (je_var 0) (ja_cons (je_int) (ja_nil)))) (ja_nil))) (je_ix (K := K) (je_var 1) (je_int)))))
    (jss_nil))
    (jss_cons (js_if (jt_eq (K := K) hu (je_ix (K := K) (je_var 1) (je_int)) (je_str))
    (jss_one (js_ret (je_call (K := K) c__law_fraction hr hx (ja_cons (je_sub (je_call (K := K) c__law_take hr hx (ja_cons (je_var 0) (ja_cons (je_int) (ja_nil)))) (je_int)) (ja_cons (je_add (K := K) (je_int) (je_call (K := K) c__law_take hr hx (ja_cons (je_var 0) (ja_cons (je_int) (ja_nil))))) (ja_nil))))))
    (jss_nil))
    (jss_cons (js_if (jt_eq (K := K) hu (je_ix (K := K) (je_var 1) (je_int)) (je_str))
    (jss_one (js_ret (je_call (K := K) c__law_strip hr hx (ja_cons (je_ix (K := K) (je_var 1) (je_int)) (ja_cons (je_lcA (own := [("k", 2)]) fin_fl rfl nd (ji_range1 m_range (ja_cons (je_call (K := K) c__law_take hr hx (ja_cons (je_var 0) (ja_cons (je_int) (ja_nil)))) (ja_nil))) (blkOk_by (N := ["c", "d", "k"]) (sc := defScope s__law_small) (own := [("k", 2)]) (by decide +kernel)) (fun _ _ _ _ _ => jg_name 2 nd rfl (by first | exact Or.inl rfl | exact Or.inr rfl)) (fun _ _ _ _ _ => jts_nil) (fun _ _ _ _ _ => je_call (K := K) c__law_small hr passL (ja_cons (je_var 0) (ja_cons (je_ix (K := K) (je_var 1) (je_int)) (ja_nil)))) s) (ja_nil))))))
    (jss_nil))
    (jss_one (js_ret (je_ix (K := K) (je_lst (ja_cons (je_sub (je_call (K := K) c__law_take hr hx (ja_cons (je_var 0) (ja_cons (je_int) (ja_nil)))) (je_int)) (ja_cons (je_int) (ja_cons (je_int) (ja_cons (je_int) (ja_cons (je_sub (je_call (K := K) c__law_take hr hx (ja_cons (je_var 0) (ja_cons (je_int) (ja_nil)))) (je_int)) (ja_nil))))))) (je_call (K := K) c__law_take hr hx (ja_cons (je_var 0) (ja_cons (je_int) (ja_nil)))))))))⟩
/-! ### _law_matrix -/
abbrev s__law_matrix : Stmt := topS 48
theorem sc__law_matrix : FnScope ["c", "d", "m", "n", "i", "j"] ["c", "d", "m", "n"] (defScope s__law_matrix) := ⟨rfl, rfl, rfl, by decide +kernel, rfl, by decide +kernel, by decide +kernel⟩
def w__law_matrix (a__law_small : ASp) : WS :=
  wRet (wTup (wCons (wVar 2) (wCons (wVar 3) (wCons (wCB gTuple (wCons (wLcA (wiRange1 (wCons (wVar 2) (wNil))) (wgName 4) (wYes) (wCB gTuple (wCons (wLcA (wiRange1 (wCons (wVar 3) (wNil))) (wgName 5) (wYes) (wCB a__law_small (wCons (wVar 0) (wCons (wVar 1) (wNil)))) [5] finF) (wNil))) [4] finF) (wNil))) (wNil)))))
theorem j__law_matrix {P : Program} {w : World} {K : PySem.W.Frag} {mg : Str → Option Value} {base : Heap} {k : Nat} {f : Addr} {cdv : Value} {A : Around} {outer : List Env} {s : Shared} {H : Hp} {E : XK} (hr : Room k (A.deeper (envOfC "_law_matrix" (defScope s__law_matrix) s.heap.objs.size f cdv))) (m_tuple : mg "tuple" = none) (m_range : mg "range" = none) {a__law_small : ASp} (c__law_small : Cal P w K mg base k "_law_small" a__law_small) :
    ∃ t, JSs (cxOf (L2.CX P w) P w K mg base ["c", "d", "m", "n", "i", "j"] "_law_matrix" (defScope s__law_matrix) f cdv A outer s H E) E (defBody s__law_matrix) t (w__law_matrix a__law_small) := by
  have hx : Passes (L2.CX P w) (cxOf (L2.CX P w) P w K mg base ["c", "d", "m", "n", "i", "j"] "_law_matrix" (defScope s__law_matrix) f cdv A outer s H E) E := px_of (x := "_law_matrix")
  have hp := po_of (P := P) (w := w) (K := K) (mg := mg) (base := base) (x := "_law_matrix") (qual := "_law_matrix") (sc := defScope s__law_matrix) (f := f) (cdv := cdv) (A := A) (outer := outer) (s := s) (H := H) (E := E) (N := ["c", "d", "m", "n", "i", "j"])
  have hu := Room.units hr
  have nd := sc__law_matrix.nd
  exact ⟨_, jss_one (js_ret (je_tup (ja_cons (je_var 2) (ja_cons (je_var 3) (ja_cons (je_tuple (K := K) m_tuple (ja_cons (je_lcA (own := [("i", 4)]) fin_fl rfl nd (ji_range1 m_range (ja_cons (je_var 2) (ja_nil))) (blkOk_by (N := ["c", "d", "m", "n", "i", "j"]) (sc := defScope s__law_matrix) (own := [("i", 4)]) (by decide +kernel)) (fun _ _ _ _ _ => jg_name 4 nd rfl (by first | exact Or.inl rfl | exact Or.inr rfl)) (fun _ _ _ _ _ => jts_nil) (fun _ _ _ _ _ => je_tuple (K := K) m_tuple (ja_cons (je_lcA (own := [("j", 5)]) fin_fl rfl nd (ji_range1 m_range (ja_cons (je_var 3) (ja_nil))) (blkOk_by (N := ["c", "d", "m", "n", "i", "j"]) (own := [("j", 5)]) (by show blkC _ (relS _ (defScope s__law_matrix)) _ _ = true; decide +kernel)) (fun _ _ _ _ _ => jg_name 5 nd rfl (by first | exact Or.inl rfl | exact Or.inr rfl)) (fun _ _ _ _ _ => jts_nil) (fun _ _ _ _ _ => je_call (K := K) c__law_small hr passL (ja_cons (je_var 0) (ja_cons (je_var 1) (ja_nil)))) s) (ja_nil))) s) (ja_nil))) (ja_nil))))))⟩
/-! ### _law_dot -/
abbrev s__law_dot : Stmt := topS 49
theorem sc__law_dot : FnScope ["d", "u", "v", "total", "k"] ["d", "u", "v"] (defScope s__law_dot) := ⟨rfl, rfl, rfl, by decide +kernel, rfl, by decide +kernel, by decide +kernel⟩
def w__law_dot (a__law_zero : ASp) (a__law_add : ASp) (a__law_multiply : ASp) : WS :=
  wSeq (wSet 3 (wCB a__law_zero (wCons (wVar 0) (wNil))))
    (wSeq (wFor (wiRange1 (wCons (wCB gLen (wCons (wVar 1) (wNil))) (wNil))) (wgName 4)
    (wSet 3 (wCB a__law_add (wCons (wVar 0) (wCons (wVar 3) (wCons (wCB a__law_multiply (wCons (wVar 0) (wCons (wOp fIx (wVar 1) (wVar 4)) (wCons (wOp fIx (wVar 2) (wVar 4)) (wNil))))) (wNil)))))))
    (wRet (wVar 3)))
theorem j__law_dot {P : Program} {w : World} {K : PySem.W.Frag} {mg : Str → Option Value} {base : Heap} {k : Nat} {f : Addr} {cdv : Value} {A : Around} {outer : List Env} {s : Shared} {H : Hp} {E : XK} (hr : Room k (A.deeper (envOfC "_law_dot" (defScope s__law_dot) s.heap.objs.size f cdv))) (m_range : mg "range" = none) (m_len : mg "len" = none) {a__law_zero : ASp} (c__law_zero : Cal P w K mg base k "_law_zero" a__law_zero) {a__law_add : ASp} (c__law_add : Cal P w K mg base k "_law_add" a__law_add) {a__law_multiply : ASp} (c__law_multiply : Cal P w K mg base k "_law_multiply" a__law_multiply) :
    ∃ t, JSs (cxOf (L2.CX P w) P w K mg base ["d", "u", "v", "total", "k"] "_law_dot" (defScope s__law_dot) f cdv A outer s H E) E (defBody s__law_dot) t (w__law_dot a__law_zero a__law_add a__law_multiply) := by
  have hx : Passes (L2.CX P w) (cxOf (L2.CX P w) P w K mg base ["d", "u", "v", "total", "k"] "_law_dot" (defScope s__law_dot) f cdv A outer s H E) E := px_of (x := "_law_dot")
  have hp := po_of (P := P) (w := w) (K := K) (mg := mg) (base := base) (x := "_law_dot") (qual := "_law_dot") (sc := defScope s__law_dot) (f := f) (cdv := cdv) (A := A) (outer := outer) (s := s) (H := H) (E := E) (N := ["d", "u", "v", "total", "k"])
  have hu := Room.units hr
  have nd := sc__law_dot.nd
  exact ⟨_, jss_cons (js_set (i := 3) nd rfl (Or.inl rfl) (je_call (K := K) c__law_zero hr hx (ja_cons (je_var 0) (ja_nil))))
    (jss_cons (js_for (vs := [4]) hp rfl (ji_range1 m_range (ja_cons (je_len (K := K) m_len (ja_cons (je_var 1) (ja_nil))) (ja_nil))) (jg_name 4 nd rfl (by first | exact Or.inl rfl | exact Or.inr rfl))
    (jss_one (js_set (i := 3) nd rfl (Or.inl rfl) (je_call (K := K) c__law_add hr hx (ja_cons (je_var 0) (ja_cons (je_var 3) (ja_cons (je_call (K := K) c__law_multiply hr hx (ja_cons (je_var 0) (ja_cons (je_ix (K := K) (je_var 1) (je_var 4)) (ja_cons (je_ix (K := K) (je_var 2) (je_var 4)) (ja_nil))))) (ja_nil))))))))
    (jss_one (js_ret (je_var 3))))⟩
/-! ### _law_column -/
abbrev s__law_column : Stmt := topS 50
theorem sc__law_column : FnScope ["a", "j", "row"] ["a", "j"] (defScope s__law_column) := ⟨rfl, rfl, rfl, by decide +kernel, rfl, by decide +kernel, by decide +kernel⟩
def w__law_column : WS :=
  wRet (wCB gTuple (wCons (wLcA (wiItems (wOp fIx (wVar 0) (wC (.int 2)))) (wgName 2) (wYes) (wOp fIx (wVar 2) (wVar 1)) [2] finF) (wNil)))
theorem j__law_column {P : Program} {w : World} {K : PySem.W.Frag} {mg : Str → Option Value} {base : Heap} {k : Nat} {f : Addr} {cdv : Value} {A : Around} {outer : List Env} {s : Shared} {H : Hp} {E : XK} (hr : Room k (A.deeper (envOfC "_law_column" (defScope s__law_column) s.heap.objs.size f cdv))) (m_tuple : mg "tuple" = none) :
    ∃ t, JSs (cxOf (L2.CX P w) P w K mg base ["a", "j", "row"] "_law_column" (defScope s__law_column) f cdv A outer s H E) E (defBody s__law_column) t (w__law_column) := by
  have hx : Passes (L2.CX P w) (cxOf (L2.CX P w) P w K mg base ["a", "j", "row"] "_law_column" (defScope s__law_column) f cdv A outer s H E) E := px_of (x := "_law_column")
  have hp := po_of (P := P) (w := w) (K := K) (mg := mg) (base := base) (x := "_law_column") (qual := "_law_column") (sc := defScope s__law_column) (f := f) (cdv := cdv) (A := A) (outer := outer) (s := s) (H := H) (E := E) (N := ["a", "j", "row"])
  have hu := Room.units hr
  have nd := sc__law_column.nd
  exact ⟨_, jss_one (js_ret (je_tuple (K := K) m_tuple (ja_cons (je_lcA (own := [("row", 2)]) fin_fl rfl nd (ji_items (K := K) (je_ix (K := K) (je_var 0) (je_int))) (blkOk_by (N := ["a", "j", "row"]) (sc := defScope s__law_column) (own := [("row", 2)]) (by decide +kernel)) (fun _ _ _ _ _ => jg_name 2 nd rfl (by first | exact Or.inl rfl | exact Or.inr rfl)) (fun _ _ _ _ _ => jts_nil) (fun _ _ _ _ _ => je_ix (K := K) (je_var 2) (je_var 1)) s) (ja_nil))))⟩
/-! ### _law_product -/
abbrev s__law_product : Stmt := topS 51
theorem sc__law_product : FnScope ["d", "a", "b", "columns", "j", "row", "column"] ["d", "a", "b"] (defScope s__law_product) := ⟨rfl, rfl, rfl, by decide +kernel, rfl, by decide +kernel, by decide +kernel⟩
def w__law_product (a__law_column : ASp) (a__law_dot : ASp) : WS :=
  wSeq (wSet 3 (wLcA (wiRange1 (wCons (wOp fIx (wVar 2) (wC (.int 1))) (wNil))) (wgName 4) (wYes) (wCB a__law_column (wCons (wVar 2) (wCons (wVar 4) (wNil)))) [4] finF))
    (wRet (wTup (wCons (wOp fIx (wVar 1) (wC (.int 0))) (wCons (wOp fIx (wVar 2) (wC (.int 1))) (wCons (wCB gTuple (wCons (wLcA (wiItems (wOp fIx (wVar 1) (wC (.int 2)))) (wgName 5) (wYes) (wCB gTuple (wCons (wLcA (wiItems (wVar 3)) (wgName 6) (wYes) (wCB a__law_dot (wCons (wVar 0) (wCons (wVar 5) (wCons (wVar 6) (wNil))))) [6] finF) (wNil))) [5] finF) (wNil))) (wNil))))))
theorem j__law_product {P : Program} {w : World} {K : PySem.W.Frag} {mg : Str → Option Value} {base : Heap} {k : Nat} {f : Addr} {cdv : Value} {A : Around} {outer : List Env} {s : Shared} {H : Hp} {E : XK} (hr : Room k (A.deeper (envOfC "_law_product" (defScope s__law_product) s.heap.objs.size f cdv))) (m_range : mg "range" = none) (m_tuple : mg "tuple" = none) {a__law_column : ASp} (c__law_column : Cal P w K mg base k "_law_column" a__law_column) {a__law_dot : ASp} (c__law_dot : Cal P w K mg base k "_law_dot" a__law_dot) :
    ∃ t, JSs (cxOf (L2.CX P w) P w K mg base ["d", "a", "b", "columns", "j", "row", "column"] "_law_product" (defScope s__law_product) f cdv A outer s H E) E (defBody s__law_product) t (w__law_product a__law_column a__law_dot) := by
  have hx : Passes (L2.CX P w) (cxOf (L2.CX P w) P w K mg base ["d", "a", "b", "columns", "j", "row", "column"] "_law_product" (defScope s__law_product) f cdv A outer s H E) E := px_of (x := "_law_product")
  have hp := po_of (P := P) (w := w) (K := K) (mg := mg) (base := base) (x := "_law_product") (qual := "_law_product") (sc := defScope s__law_product) (f := f) (cdv := cdv) (A := A) (outer := outer) (s := s) (H := H) (E := E) (N := ["d", "a", "b", "columns", "j", "row", "column"])
  have hu := Room.units hr
  have nd := sc__law_product.nd
  exact ⟨_, jss_cons (js_set (i := 3) nd rfl (Or.inr rfl) (je_lcA (own := [("j", 4)]) fin_fl rfl nd (ji_range1 m_range (ja_cons (je_ix (K := K) (je_var 2) (je_int)) (ja_nil))) (blkOk_by (N := ["d", "a", "b", "columns", "j", "row", "column"]) (sc := defScope s__law_product) (own := [("j", 4)]) (by decide +kernel)) (fun _ _ _ _ _ => jg_name 4 nd rfl (by first | exact Or.inl rfl | exact Or.inr rfl)) (fun _ _ _ _ _ => jts_nil) (fun _ _ _ _ _ => je_call (K := K) c__law_column hr passL (ja_cons (je_var 2) (ja_cons (je_var 4) (ja_nil)))) s))
    (jss_one (js_ret (je_tup (ja_cons (je_ix (K := K) (je_var 1) (je_int)) (ja_cons (je_ix (K := K) (je_var 2) (je_int)) (ja_cons (je_tuple (K := K) m_tuple (ja_cons (je_lcA (own := [("row", 5)]) fin_fl rfl nd (ji_items (K := K) (je_ix (K := K) (je_var 1) (je_int))) (blkOk_by (N := ["d", "a", "b", "columns", "j", "row", "column"]) (sc := defScope s__law_product) (own := [("row", 5)]) (by decide +kernel)) (fun _ _ _ _ _ => jg_name 5 nd rfl (by first | exact Or.inl rfl | exact Or.inr rfl)) (fun _ _ _ _ _ => jts_nil) (fun _ _ _ _ _ => je_tuple (K := K) m_tuple (ja_cons (je_lcA (own := [("column", 6)]) fin_fl rfl nd (ji_items (K := K) (je_var 3)) (blkOk_by (N := ["d", "a", "b", "columns", "j", "row", "column"]) (own := [("column", 6)]) (by show blkC _ (relS _ (defScope s__law_product)) _ _ = true; decide +kernel)) (fun _ _ _ _ _ => jg_name 6 nd rfl (by first | exact Or.inl rfl | exact Or.inr rfl)) (fun _ _ _ _ _ => jts_nil) (fun _ _ _ _ _ => je_call (K := K) c__law_dot hr passL (ja_cons (je_var 0) (ja_cons (je_var 5) (ja_cons (je_var 6) (ja_nil))))) s) (ja_nil))) s) (ja_nil))) (ja_nil)))))))⟩
/-! ### _law_identity -/
abbrev s__law_identity : Stmt := topS 52
theorem sc__law_identity : FnScope ["d", "n", "units", "i", "j"] ["d", "n"] (defScope s__law_identity) := ⟨rfl, rfl, rfl, by decide +kernel, rfl, by decide +kernel, by decide +kernel⟩
def w__law_identity (a__law_number : ASp) : WS :=
  wSeq (wSet 2 (wLst (wCons (wCB a__law_number (wCons (wVar 0) (wCons (wC (.int 0)) (wNil)))) (wCons (wCB a__law_number (wCons (wVar 0) (wCons (wC (.int 1)) (wNil)))) (wNil)))))
    (wRet (wTup (wCons (wVar 1) (wCons (wVar 1) (wCons (wCB gTuple (wCons (wLcA (wiRange1 (wCons (wVar 1) (wNil))) (wgName 3) (wYes) (wCB gTuple (wCons (wLcA (wiRange1 (wCons (wVar 1) (wNil))) (wgName 4) (wYes) (wOp fIx (wVar 2) (wCB gInt (wCons (wOp fEq (wVar 3) (wVar 4)) (wNil)))) [4] finF) (wNil))) [3] finF) (wNil))) (wNil))))))
theorem j__law_identity {P : Program} {w : World} {K : PySem.W.Frag} {mg : Str → Option Value} {base : Heap} {k : Nat} {f : Addr} {cdv : Value} {A : Around} {outer : List Env} {s : Shared} {H : Hp} {E : XK} (hr : Room k (A.deeper (envOfC "_law_identity" (defScope s__law_identity) s.heap.objs.size f cdv))) (m_tuple : mg "tuple" = none) (m_range : mg "range" = none) (m_int : mg "int" = none) {a__law_number : ASp} (c__law_number : Cal P w K mg base k "_law_number" a__law_number) :
    ∃ t, JSs (cxOf (L2.CX P w) P w K mg base ["d", "n", "units", "i", "j"] "_law_identity" (defScope s__law_identity) f cdv A outer s H E) E (defBody s__law_identity) t (w__law_identity a__law_number) := by
  have hx : Passes (L2.CX P w) (cxOf (L2.CX P w) P w K mg base ["d", "n", "units", "i", "j"] "_law_identity" (defScope s__law_identity) f cdv A outer s H E) E := px_of (x := "_law_identity")
  have hp := po_of (P := P) (w := w) (K := K) (mg := mg) (base := base) (x := "_law_identity") (qual := "_law_identity") (sc := defScope s__law_identity) (f := f) (cdv := cdv) (A := A) (outer := outer) (s := s) (H := H) (E := E) (N := ["d", "n", "units", "i", "j"])
  have hu := Room.units hr
  have nd := sc__law_identity.nd
  exact ⟨_, jss_cons (js_set (i := 2) nd rfl (Or.inr rfl) (je_lst (ja_cons (je_call (K := K) c__law_number hr hx (ja_cons (je_var 0) (ja_cons (je_int) (ja_nil)))) (ja_cons (je_call (K := K) c__law_number hr hx (ja_cons (je_var 0) (ja_cons (je_int) (ja_nil)))) (ja_nil)))))
    (jss_one (js_ret (je_tup (ja_cons (je_var 1) (ja_cons (je_var 1) (ja_cons (je_tuple (K := K) m_tuple (ja_cons (je_lcA (own := [("i", 3)]) fin_fl rfl nd (ji_range1 m_range (ja_cons (je_var 1) (ja_nil))) (blkOk_by (N := ["d", "n", "units", "i", "j"]) (sc := defScope s__law_identity) (own := [("i", 3)]) (by decide +kernel)) (fun _ _ _ _ _ => jg_name 3 nd rfl (by first | exact Or.inl rfl | exact Or.inr rfl)) (fun _ _ _ _ _ => jts_nil) (fun _ _ _ _ _ => je_tuple (K := K) m_tuple (ja_cons (je_lcA (own := [("j", 4)]) fin_fl rfl nd (ji_range1 m_range (ja_cons (je_var 1) (ja_nil))) (blkOk_by (N := ["d", "n", "units", "i", "j"]) (own := [("j", 4)]) (by show blkC _ (relS _ (defScope s__law_identity)) _ _ = true; decide +kernel)) (fun _ _ _ _ _ => jg_name 4 nd rfl (by first | exact Or.inl rfl | exact Or.inr rfl)) (fun _ _ _ _ _ => jts_nil) (fun _ _ _ _ _ => je_ix (K := K) (je_var 2) (je_intC m_int (ja_cons (je_eq (K := K) hu (je_var 3) (je_var 4)) (ja_nil)))) s) (ja_nil))) s) (ja_nil))) (ja_nil)))))))⟩
/-! ### _law_shape -/
abbrev s__law_shape : Stmt := topS 53
theorem sc__law_shape : FnScope ["c"] ["c"] (defScope s__law_shape) := ⟨rfl, rfl, rfl, by decide +kernel, rfl, by decide +kernel, by decide +kernel⟩
def w__law_shape (a__law_take : ASp) : WS :=
  wRet (wOp fIx (wLst (wCons (wCB a__law_take (wCons (wVar 0) (wCons (wC (.int 4)) (wNil)))) (wCons (wOp fAdd (wC (.int 1)) (wCB a__law_take (wCons (wVar 0) (wCons (wC (.int 4)) (wNil))))) (wCons (wC (.int 0)) (wCons (wC (.int 1)) (wCons (wC (.int 2)) (wCons (wC (.int 3)) (wNil)))))))) (wCB a__law_take (wCons (wVar 0) (wCons (wC (.int 6)) (wNil)))))
theorem j__law_shape {P : Program} {w : World} {K : PySem.W.Frag} {mg : Str → Option Value} {base : Heap} {k : Nat} {f : Addr} {cdv : Value} {A : Around} {outer : List Env} {s : Shared} {H : Hp} {E : XK} (hr : Room k (A.deeper (envOfC "_law_shape" (defScope s__law_shape) s.heap.objs.size f cdv))) {a__law_take : ASp} (c__law_take : Cal P w K mg base k "_law_take" a__law_take) :
    ∃ t, JSs (cxOf (L2.CX P w) P w K mg base ["c"] "_law_shape" (defScope s__law_shape) f cdv A outer s H E) E (defBody s__law_shape) t (w__law_shape a__law_take) := by
  have hx : Passes (L2.CX P w) (cxOf (L2.CX P w) P w K mg base ["c"] "_law_shape" (defScope s__law_shape) f cdv A outer s H E) E := px_of (x := "_law_shape")
  have hp := po_of (P := P) (w := w) (K := K) (mg := mg) (base := base) (x := "_law_shape") (qual := "_law_shape") (sc := defScope s__law_shape) (f := f) (cdv := cdv) (A := A) (outer := outer) (s := s) (H := H) (E := E) (N := ["c"])
  have hu := Room.units hr
  have nd := sc__law_shape.nd
  exact ⟨_, jss_one (js_ret (je_ix (K := K) (je_lst (ja_cons (je_call (K := K) c__law_take hr hx (ja_cons (je_var 0) (ja_cons (je_int) (ja_nil)))) (ja_cons (je_add (K := K) (je_int) (je_call (K := K) c__law_take hr hx (ja_cons (je_var 0) (ja_cons (je_int) (ja_nil))))) (ja_cons (je_int) (ja_cons (je_int) (ja_cons (je_int) (ja_cons (je_int) (ja_nil)))))))) (je_call (K := K) c__law_take hr hx (ja_cons (je_var 0) (ja_cons (je_int) (ja_nil))))))⟩
/-! ### _law_changed -/
abbrev s__law_changed : Stmt := topS 54
theorem sc__law_changed : FnScope ["d", "e", "x"] ["d", "e", "x"] (defScope s__law_changed) := ⟨rfl, rfl, rfl, by decide +kernel, rfl, by decide +kernel, by decide +kernel⟩
def w__law_changed (a__law_number : ASp) (a__law_multiply : ASp) (a__law_inverse : ASp) (a__law_strip : ASp) : WS :=
  wSeq (wIfS (wAnd (wTest (wOp fEq (wOp fIx (wVar 0) (wC (.int 0))) (wC (.str "Z")))) (wTest (wOp (fInB false) (wOp fIx (wVar 1) (wC (.int 0))) (wLst (wCons (wC (.str "Q")) (wCons (wC (.str "F")) (wNil)))))))
    (wRet (wCB a__law_number (wCons (wVar 1) (wCons (wVar 2) (wNil)))))
    (wNext))
    (wSeq (wIfS (wAnd (wTest (wOp fEq (wOp fIx (wVar 0) (wC (.int 0))) (wC (.str "Q")))) (wAnd (wTest (wOp fEq (wOp fIx (wVar 1) (wC (.int 0))) (wC (.str "Z")))) (wTest (wOp fEq (wOp fIx (wVar 2) (wC (.int 1))) (wC (.int 1))))))
    (wRet (wOp fIx (wVar 2) (wC (.int 0))))
    (wNext))
    (wSeq (wIfS (wAnd (wTest (wOp fEq (wOp fIx (wVar 0) (wC (.int 0))) (wC (.str "Q")))) (wAnd (wTest (wOp fEq (wOp fIx (wVar 1) (wC (.int 0))) (wC (.str "F")))) (wTest (wOp fNe (wOp fMod (wCB gInt (wCons (wOp fIx (wVar 2) (wC (.int 1))) (wNil))) (wOp fIx (wVar 1) (wC (.int 1)))) (wC (.int 0))))))
    (wRet (wCB a__law_multiply (wCons (wVar 1) (wCons (wCB a__law_number (wCons (wVar 1) (wCons (wOp fIx (wVar 2) (wC (.int 0))) (wNil)))) (wCons (wCB a__law_inverse (wCons (wVar 1) (wCons (wCB a__law_number (wCons (wVar 1) (wCons (wOp fIx (wVar 2) (wC (.int 1))) (wNil)))) (wNil)))) (wNil))))))
    (wNext))
    (wSeq (wIfS (wAnd (wTest (wOp fEq (wOp fIx (wVar 1) (wC (.int 0))) (wC (.str "P")))) (wTest (wOp fEq (wOp fIx (wVar 1) (wC (.int 1))) (wVar 0))))
    (wRet (wCB a__law_strip (wCons (wVar 0) (wCons (wLst (wCons (wVar 2) (wNil))) (wNil)))))
    (wNext))
    (wRet (wC .non)))))
theorem j__law_changed {P : Program} {w : World} {K : PySem.W.Frag} {mg : Str → Option Value} {base : Heap} {k : Nat} {f : Addr} {cdv : Value} {A : Around} {outer : List Env} {s : Shared} {H : Hp} {E : XK} (hr : Room k (A.deeper (envOfC "_law_changed" (defScope s__law_changed) s.heap.objs.size f cdv))) (m_int : mg "int" = none) {a__law_number : ASp} (c__law_number : Cal P w K mg base k "_law_number" a__law_number) {a__law_multiply : ASp} (c__law_multiply : Cal P w K mg base k "_law_multiply" a__law_multiply) {a__law_inverse : ASp} (c__law_inverse : Cal P w K mg base k "_law_inverse" a__law_inverse) {a__law_strip : ASp} (c__law_strip : Cal P w K mg base k "_law_strip" a__law_strip) :
    ∃ t, JSs (cxOf (L2.CX P w) P w K mg base ["d", "e", "x"] "_law_changed" (defScope s__law_changed) f cdv A outer s H E) E (defBody s__law_changed) t (w__law_changed a__law_number a__law_multiply a__law_inverse a__law_strip) := by
  have hx : Passes (L2.CX P w) (cxOf (L2.CX P w) P w K mg base ["d", "e", "x"] "_law_changed" (defScope s__law_changed) f cdv A outer s H E) E := px_of (x := "_law_changed")
  have hp := po_of (P := P) (w := w) (K := K) (mg := mg) (base := base) (x := "_law_changed") (qual := "_law_changed") (sc := defScope s__law_changed) (f := f) (cdv := cdv) (A := A) (outer := outer) (s := s) (H := H) (E := E) (N := ["d", "e", "x"])
  have hu := Room.units hr
  have nd := sc__law_changed.nd
  exact ⟨_, jss_cons (js_if ((jw_and (jt_eq (K := K) hu (je_ix (K := K) (je_var 0) (je_int)) (je_str)) (jw_and1 (jt_in (K := K) rfl (je_ix (K := K) (je_var 1) (je_int)) (je_lst (ja_cons (je_str) (ja_cons (je_str) (ja_nil))))))).jt)
    (jss_one (js_ret (je_call (K := K) c__law_number hr hx (ja_cons (je_var 1) (ja_cons (je_var 2) (ja_nil))))))
    (jss_nil))
    (jss_cons (js_if ((jw_and (jt_eq (K := K) hu (je_ix (K := K) (je_var 0) (je_int)) (je_str)) (jw_and (jt_eq (K := K) hu (je_ix (K := K) (je_var 1) (je_int)) (je_str)) (jw_and1 (jt_eq (K := K) hu (je_ix (K := K) (je_var 2) (je_int)) (je_int))))).jt)
    (jss_one (js_ret (je_ix (K := K) (je_var 2) (je_int))))
    (jss_nil))
    (jss_cons (js_if ((jw_and (jt_eq (K := K) hu (je_ix (K := K) (je_var 0) (je_int)) (je_str)) (jw_and (jt_eq (K := K) hu (je_ix (K := K) (je_var 1) (je_int)) (je_str)) (jw_and1 (jt_ne (K := K) hu (je_mod (je_intC m_int (ja_cons (je_ix (K := K) (je_var 2) (je_int)) (ja_nil))) (je_ix (K := K) (je_var 1) (je_int))) (je_int))))).jt)
    (jss_one (js_ret (je_call (K := K) c__law_multiply hr hx (ja_cons (je_var 1) (ja_cons (je_call (K := K) c__law_number hr hx (ja_cons (je_var 1) (ja_cons (je_ix (K := K) (je_var 2) (je_int)) (ja_nil)))) (ja_cons (je_call (K := K) c__law_inverse hr hx (ja_cons (je_var 1) (ja_cons (je_call (K := K) c__law_number hr hx (ja_cons (je_var 1) (ja_cons (je_ix (K := K) (je_var 2) (je_int)) (ja_nil)))) (ja_nil)))) (ja_nil)))))))
    (jss_nil))
    (jss_cons (js_if ((jw_and (jt_eq (K := K) hu (je_ix (K := K) (je_var 1) (je_int)) (je_str)) (jw_and1 (jt_eq (K := K) hu (je_ix (K := K) (je_var 1) (je_int)) (je_var 0)))).jt)
    (jss_one (js_ret (je_call (K := K) c__law_strip hr hx (ja_cons (je_var 0) (ja_cons (je_lst (ja_cons (je_var 2) (ja_nil))) (ja_nil))))))
    (jss_nil))
    (jss_one (js_ret (je_non))))))⟩
/-! ### _law_told -/
abbrev s__law_told : Stmt := topS 55
theorem sc__law_told : FnScope ["d", "e", "a"] ["d", "e", "a"] (defScope s__law_told) := ⟨rfl, rfl, rfl, by decide +kernel, rfl, by decide +kernel, by decide +kernel⟩
def w__law_told (e : XN → Value) (a_change : ASp) : WS :=
  wTry xns e 3 (wRet (wCB a_change (wCons (wVar 0) (wCons (wVar 1) (wCons (wVar 2) (wNil)))))) ((.dom, none, fun a n => wRet (wC .non)) :: [])
theorem j__law_told {P : Program} {w : World} {K : PySem.W.Frag} {mg : Str → Option Value} {base : Heap} {k : Nat} {f : Addr} {cdv : Value} {A : Around} {outer : List Env} {s : Shared} {H : Hp} {E : XK} (hr : Room k (A.deeper (envOfC "_law_told" (defScope s__law_told) s.heap.objs.size f cdv))) {a_change : ASp} (c_change : Cal P w K mg base k "change" a_change) {e : XN → Value} (xo : XOk K mg xns e) :
    ∃ t, JSs (cxOf (L2.CX P w) P w K mg base ["d", "e", "a"] "_law_told" (defScope s__law_told) f cdv A outer s H E) E (defBody s__law_told) t (w__law_told e a_change) := by
  have hx : Passes (L2.CX P w) (cxOf (L2.CX P w) P w K mg base ["d", "e", "a"] "_law_told" (defScope s__law_told) f cdv A outer s H E) E := px_of (x := "_law_told")
  have hp := po_of (P := P) (w := w) (K := K) (mg := mg) (base := base) (x := "_law_told") (qual := "_law_told") (sc := defScope s__law_told) (f := f) (cdv := cdv) (A := A) (outer := outer) (s := s) (H := H) (E := E) (N := ["d", "e", "a"])
  have hu := Room.units hr
  have nd := sc__law_told.nd
  exact ⟨_, jss_one (js_try (N := 3) xo nd (takes_of rfl rfl rfl rfl) (fun E pn xe hx => jss_one (js_ret (je_call (K := K) c_change hr hx (ja_cons (je_var 0) (ja_cons (je_var 1) (ja_cons (je_var 2) (ja_nil))))))) (.bare (m := .dom) (by decide) ⟨rfl, by decide, .inl (xo.glob .dom (by decide))⟩ (fun a oe n pn hn hz hf => jss_one (js_ret (je_non))) (.nil)))⟩
/-! ### law -/
abbrev s_law : Stmt := topS 56
theorem sc_law : FnScope ["script", "c", "d", "e", "a", "fits", "rows", "row", "x"] ["script"] (defScope s_law) := ⟨rfl, rfl, rfl, by decide +kernel, rfl, by decide +kernel, by decide +kernel⟩
def w_law (a__law_start : ASp) (a__law_domain : ASp) (a__law_take : ASp) (a__law_matrix : ASp) (a__law_shape : ASp) (a__law_told : ASp) (a__law_changed : ASp) : WS :=
  wSeq (wSet 1 (wCB a__law_start (wCons (wVar 0) (wNil))))
    (wSeq (wSet 2 (wCB a__law_domain (wCons (wVar 1) (wNil))))
    (wSeq (wSet 3 (wOp fIx (wLst (wCons (wCB a__law_domain (wCons (wVar 1) (wNil))) (wCons (wTup (wCons (wC (.str "Q")) (wNil))) (wCons (wTup (wCons (wC (.str "P")) (wCons (wVar 2) (wNil)))) (wCons (wTup (wCons (wC (.str "Z")) (wNil))) (wCons (wTup (wCons (wC (.str "F")) (wCons (wOp fIx (wLst (wCons (wC (.int 2)) (wCons (wC (.int 3)) (wCons (wC (.int 7)) (wNil))))) (wCB a__law_take (wCons (wVar 1) (wCons (wC (.int 3)) (wNil))))) (wNil)))) (wNil))))))) (wCB a__law_take (wCons (wVar 1) (wCons (wC (.int 5)) (wNil))))))
    (wSeq (wIfS (wAnd (wTest (wOp fEq (wOp fIx (wVar 3) (wC (.int 0))) (wC (.str "P")))) (wTest (wOp (fInB false) (wOp fIx (wOp fIx (wVar 3) (wC (.int 1))) (wC (.int 0))) (wLst (wCons (wC (.str "P")) (wCons (wC (.str "Z")) (wNil)))))))
    (wSet 3 (wTup (wCons (wC (.str "Q")) (wNil))))
    (wNext))
    (wSeq (wSet 4 (wCB a__law_matrix (wCons (wVar 1) (wCons (wVar 2) (wCons (wCB a__law_shape (wCons (wVar 1) (wNil))) (wCons (wCB a__law_shape (wCons (wVar 1) (wNil))) (wNil)))))))
    (wSeq (wSet 5 (wOrV (wAndV (wOp fEq (wOp fIx (wVar 2) (wC (.int 0))) (wC (.str "Z"))) (wOp (fInB false) (wOp fIx (wVar 3) (wC (.int 0))) (wLst (wCons (wC (.str "Q")) (wCons (wC (.str "F")) (wNil)))))) (wOrV (wAndV (wOp fEq (wOp fIx (wVar 2) (wC (.int 0))) (wC (.str "Q"))) (wOp (fInB false) (wOp fIx (wVar 3) (wC (.int 0))) (wLst (wCons (wC (.str "Z")) (wCons (wC (.str "F")) (wNil)))))) (wAndV (wOp fEq (wOp fIx (wVar 3) (wC (.int 0))) (wC (.str "P"))) (wOp fEq (wOp fIx (wVar 3) (wC (.int 1))) (wVar 2))))))
    (wSeq (wIfS (wTest (wOp fEq (wVar 2) (wVar 3)))
    (wRet (wOp fEq (wCB a__law_told (wCons (wVar 2) (wCons (wVar 3) (wCons (wVar 4) (wNil))))) (wVar 4)))
    (wNext))
    (wSeq (wIfS (wAnd (wNotA (wTruA (wVar 5))) (wTest (wOp fEq (wOp fMul (wOp fIx (wVar 4) (wC (.int 0))) (wOp fIx (wVar 4) (wC (.int 1)))) (wC (.int 0)))))
    (wRet (wC (.bl true)))
    (wNext))
    (wSeq (wSet 6 (wLstR (wNil)))
    (wSeq (wFor (wiItems (wOp fIx (wVar 4) (wC (.int 2)))) (wgName 7)
    (wSeq (wDrop (wApp (wVar 6) (wCons (wCB gTuple (wCons (wLcA (wiItems (wVar 7)) (wgName 8) (wYes) (wCB a__law_changed (wCons (wVar 2) (wCons (wVar 3) (wCons (wVar 8) (wNil))))) [8] finF) (wNil))) (wNil))))
    (wIfS (wTest (wOp fNoneU (wC .non) (wOp fIx (wVar 6) (wNeg (wC (.int 1))))))
    (wRet (wIsN (fun b => b) (wCB a__law_told (wCons (wVar 2) (wCons (wVar 3) (wCons (wVar 4) (wNil)))))))
    (wNext))))
    (wRet (wOp fEq (wCB a__law_told (wCons (wVar 2) (wCons (wVar 3) (wCons (wVar 4) (wNil))))) (wTup (wCons (wOp fIx (wVar 4) (wC (.int 0))) (wCons (wOp fIx (wVar 4) (wC (.int 1))) (wCons (wCB gTuple (wCons (wVar 6) (wNil))) (wNil))))))))))))))))
theorem j_law {P : Program} {w : World} {K : PySem.W.Frag} {mg : Str → Option Value} {base : Heap} {k : Nat} {f : Addr} {cdv : Value} {A : Around} {outer : List Env} {s : Shared} {H : Hp} {E : XK} (hr : Room k (A.deeper (envOfC "law" (defScope s_law) s.heap.objs.size f cdv))) (m_tuple : mg "tuple" = none) {a__law_start : ASp} (c__law_start : Cal P w K mg base k "_law_start" a__law_start) {a__law_domain : ASp} (c__law_domain : Cal P w K mg base k "_law_domain" a__law_domain) {a__law_take : ASp} (c__law_take : Cal P w K mg base k "_law_take" a__law_take) {a__law_matrix : ASp} (c__law_matrix : Cal P w K mg base k "_law_matrix" a__law_matrix) {a__law_shape : ASp} (c__law_shape : Cal P w K mg base k "_law_shape" a__law_shape) {a__law_told : ASp} (c__law_told : Cal P w K mg base k "_law_told" a__law_told) {a__law_changed : ASp} (c__law_changed : Cal P w K mg base k "_law_changed" a__law_changed) :
    ∃ t, JSs (cxOf (L2.CX P w) P w K mg base ["script", "c", "d", "e", "a", "fits", "rows", "row", "x"] "law" (defScope s_law) f cdv A outer s H E) E (defBody s_law) t (w_law a__law_start a__law_domain a__law_take a__law_matrix a__law_shape a__law_told a__law_changed) := by
  have hx : Passes (L2.CX P w) (cxOf (L2.CX P w) P w K mg base ["script", "c", "d", "e", "a", "fits", "rows", "row", "x"] "law" (defScope s_law) f cdv A outer s H E) E := px_of (x := "law")
  have hp := po_of (P := P) (w := w) (K := K) (mg := mg) (base := base) (x := "law") (qual := "law") (sc := defScope s_law) (f := f) (cdv := cdv) (A := A) (outer := outer) (s := s) (H := H) (E := E) (N := ["script", "c", "d", "e", "a", "fits", "rows", "row", "x"])
  have hu := Room.units hr
  have nd := sc_law.nd
  exact ⟨_, jss_cons (js_set (i := 1) nd rfl (Or.inl rfl) (je_call (K := K) c__law_start hr hx (ja_cons (je_var 0) (ja_nil))))
    (jss_cons (js_set (i := 2) nd rfl (Or.inr rfl) (je_call (K := K) c__law_domain hr hx (ja_cons (je_var 1) (ja_nil))))
    (jss_cons (js_set (i := 3) nd rfl (Or.inr rfl) (je_ix (K := K) (je_lst (ja_cons (je_call (K := K) c__law_domain hr hx (ja_cons (je_var 1) (ja_nil))) (ja_cons (je_tup (ja_cons (je_str) (ja_nil))) (ja_cons (je_tup (ja_cons (je_str) (ja_cons (je_var 2) (ja_nil)))) (ja_cons (je_tup (ja_cons (je_str) (ja_nil))) (ja_cons (je_tup (ja_cons (je_str) (ja_cons (je_ix (K := K) (je_lst (ja_cons (je_int) (ja_cons (je_int) (ja_cons (je_int) (ja_nil))))) (je_call (K := K) c__law_take hr hx (ja_cons (je_var 1) (ja_cons (je_int) (ja_nil))))) (ja_nil)))) (ja_nil))))))) (je_call (K := K) c__law_take hr hx (ja_cons (je_var 1) (ja_cons (je_int) (ja_nil))))))
    (jss_cons (js_if ((jw_and (jt_eq (K := K) hu (je_ix (K := K) (je_var 3) (je_int)) (je_str)) (jw_and1 (jt_in (K := K) rfl (je_ix (K := K) (je_ix (K := K) (je_var 3) (je_int)) (je_int)) (je_lst (ja_cons (je_str) (ja_cons (je_str) (ja_nil))))))).jt)
    (jss_one (js_set (i := 3) nd rfl (Or.inr rfl) (je_tup (ja_cons (je_str) (ja_nil)))))
    (jss_nil))
    (jss_cons (js_set (i := 4) nd rfl (Or.inl rfl) (je_call (K := K) c__law_matrix hr hx (ja_cons (je_var 1) (ja_cons (je_var 2) (ja_cons (je_call (K := K) c__law_shape hr hx (ja_cons (je_var 1) (ja_nil))) (ja_cons (je_call (K := K) c__law_shape hr hx (ja_cons (je_var 1) (ja_nil))) (ja_nil)))))))
    (jss_cons (js_set (i := 5) nd rfl (Or.inl rfl) (je_or (K := K) (je_and (K := K) (je_eq (K := K) hu (je_ix (K := K) (je_var 2) (je_int)) (je_str)) (je_one (je_in (K := K) rfl (je_ix (K := K) (je_var 3) (je_int)) (je_lst (ja_cons (je_str) (ja_cons (je_str) (ja_nil))))))) (je_or (K := K) (je_and (K := K) (je_eq (K := K) hu (je_ix (K := K) (je_var 2) (je_int)) (je_str)) (je_one (je_in (K := K) rfl (je_ix (K := K) (je_var 3) (je_int)) (je_lst (ja_cons (je_str) (ja_cons (je_str) (ja_nil))))))) (je_one (je_and (K := K) (je_eq (K := K) hu (je_ix (K := K) (je_var 3) (je_int)) (je_str)) (je_one (je_eq (K := K) hu (je_ix (K := K) (je_var 3) (je_int)) (je_var 2))))))))
    (jss_cons (js_if (jt_eq (K := K) hu (je_var 2) (je_var 3))
    (jss_one (js_ret (je_eq (K := K) hu (je_call (K := K) c__law_told hr hx (ja_cons (je_var 2) (ja_cons (je_var 3) (ja_cons (je_var 4) (ja_nil))))) (je_var 4))))
    (jss_nil))
    (jss_cons (js_if ((jw_and (jt_not (jt_tru (K := K) (je_var 5))) (jw_and1 (jt_eq (K := K) hu (je_mul (je_ix (K := K) (je_var 4) (je_int)) (je_ix (K := K) (je_var 4) (je_int))) (je_int)))).jt)
    (jss_one (js_ret (je_bl)))
    (jss_nil))
    (jss_cons (js_set (i := 6) nd rfl (Or.inl rfl) (je_lstR (ja_nil)))
    (jss_cons (js_for (vs := [7]) hp rfl (ji_items (K := K) (je_ix (K := K) (je_var 4) (je_int))) (jg_name 7 nd rfl (by first | exact Or.inl rfl | exact Or.inr rfl))
    (jss_cons (js_expr (je_append (K := K) (je_var 6) (ja_cons (je_tuple (K := K) m_tuple (ja_cons (je_lcA (own := [("x", 8)]) fin_fl rfl nd (ji_items (K := K) (je_var 7)) (blkOk_by (N := ["script", "c", "d", "e", "a", "fits", "rows", "row", "x"]) (sc := defScope s_law) (own := [("x", 8)]) (by decide +kernel)) (fun _ _ _ _ _ => jg_name 8 nd rfl (by first | exact Or.inl rfl | exact Or.inr rfl)) (fun _ _ _ _ _ => jts_nil) (fun _ _ _ _ _ => je_call (K := K) c__law_changed hr passL (ja_cons (je_var 2) (ja_cons (je_var 3) (ja_cons (je_var 8) (ja_nil))))) s) (ja_nil))) (ja_nil))))
    (jss_one (js_if (jt_noneInU (K := K) hu rfl (je_non) (je_ix (K := K) (je_var 6) (je_neg (je_int))))
    (jss_one (js_ret (je_isN (je_call (K := K) c__law_told hr hx (ja_cons (je_var 2) (ja_cons (je_var 3) (ja_cons (je_var 4) (ja_nil))))))))
    (jss_nil)))))
    (jss_one (js_ret (je_eq (K := K) hu (je_call (K := K) c__law_told hr hx (ja_cons (je_var 2) (ja_cons (je_var 3) (ja_cons (je_var 4) (ja_nil))))) (je_tup (ja_cons (je_ix (K := K) (je_var 4) (je_int)) (ja_cons (je_ix (K := K) (je_var 4) (je_int)) (ja_cons (je_tuple (K := K) m_tuple (ja_cons (je_var 6) (ja_nil))) (ja_nil)))))))))))))))))⟩
end My
namespace My
open PySem AW
local macro_rules | `(tactic| walk_at "aw") => `(tactic| try simp only [X0, wVar, wC, itemsL, items, wOp, wTest, wChain, fAdd, fSub, fMul, fDiv, fDivX, fMod, fPow, fShl, fCmpI, fLt, fLe, fGt, fGe, wNeg, fEqB, fEq, fNe, fTru, wTruA, wAnd, wOr, wNotA, wAndV, wOrV, wNotV, wIf, isNon, wIsN, wNil, wCons, wTup, wLst, wLstR, fIx, wNoPart, wPart, fSl, wSl, wCB, gAbs, gInt, gLen, gTuple, gList, gListR, gSum, gAny, gAll, gMax, gMin, isTN, wIsi, wNext, wSeq, wBreak, wCont, wDrop, wRet, wRetN, wIfS, wNever, wSet, wPar, wAug, fIAdd, wgName, wgNil, wgCons, wgTup, fPut, wgSub, wAsg, wiItems, wiRange1, wiRange2, wFor, wipeD, wYes, lcTurn, wLcA, finF, finR, endOf, fInB, wBits, fApp, wApp, z_map_cons, z_map_nil, z_len_cons, z_len_nil, z_cons_append, z_nil_append, z_rep0, z_rep, z_get0, z_get, z_set0, z_set, z_set_set, z_len_set, z_true_and, z_and_true, z_if_f, z_if_t, z_not_t, z_not_f, z_if_dec, z_if_ndec, z_some_eq, z_if_T, z_if_F, z_cast0, z_cast1, Int.cast_ofNat_Int, at0, at1, at2, at3, at4, at5, at6, at7, atI_last1, ix41, ix42, ix43, startD, Nat.reduceAdd, Nat.reduceSub, L2.CPow, Int.reduceLE, Int.reduceLT, Int.reduceAbs, Int.reduceToNat, Int.reducePow, Int.reduceSub, Int.reduceAdd, Int.reduceMul, Int.reduceNeg, Int.reduceEq, Nat.reducePow, Nat.reduceLT, Nat.reduceLeDiff, Nat.reduceMul, ne_eq, not_false_eq_true, not_true_eq_false, reduceCtorEq, sizeLine_eq, see_non, see_bl, see_int, see_str, see_tup, see_fl, see_scr])
local macro_rules | `(tactic| walk_at "ax") => `(tactic| ((try (with_reducible refine lz_open ?_)); (try simp (config := { dsimp := false }) only [↓ax_xv0, ↓ax_xv1, ↓ax_xv2, ↓ax_xv3, ↓ax_xv4, ↓ax_xv5, ↓ax_xv6, ↓ax_xv7, ↓ax_xv8, ↓ax_xv9, ↓ax_xv10, ↓ax_xv11, ↓ax_xv12, ↓ax_xv13, ↓ax_xv14, ↓ax_xv15, ↓ax_xv16, ↓ax_xv17, ↓ax_xv18, ↓ax_xv19, ↓ax_xv20, ↓ax_xv21, ↓ax_xv22, ↓ax_xv23, ↓ax_xv24, ↓ax_xv25, ↓ax_xv26, ↓ax_xv27, ↓ax_xv28, ↓ax_xv29, ↓ax_xv30, ↓ax_xv31, ↓ax_xv32, ↓ax_xv33, ↓ax_xv34, ↓ax_xv35, ↓ax_xc, ↓ax_xop, ↓ax_xcb, ↓ax_xnil, ↓ax_xcons, ↓ax_xtup, ↓ax_xlst, ↓ax_xlstr, ↓ax_xtest, ↓ax_xts, ↓ax_xtrua, ↓ax_xand, ↓ax_xor, ↓ax_xnota, ↓ax_xandv, ↓ax_xorv, ↓ax_xnotv, ↓ax_xif, ↓ax_xisn, ↓ax_xin_non, ↓ax_xin_bl, ↓ax_xin_int, ↓ax_xin_str, ↓ax_xin_tup, ↓ax_xin_fl, ↓ax_xin_scr, ↓ax_xin_ref, ↓ax_xtr_non, ↓ax_xtr_bl, ↓ax_xtr_int, ↓ax_xtr_str, ↓ax_xtr_tup, ↓ax_xtr_fl, ↓ax_xtr_scr, ↓ax_xadd_i, ↓ax_xadd_s, ↓ax_xadd_t, ↓ax_xadd_f, ↓ax_xsub, ↓ax_xmul, ↓ax_xmul_f, ↓ax_xdiv, ↓ax_xmod, ↓ax_xpow, ↓ax_xshl, ↓ax_xlt, ↓ax_xle, ↓ax_xgt, ↓ax_xge, ↓ax_xiadd_i, ↓ax_xiadd_s, ↓ax_xneg, ↓ax_xng, ↓ax_xeq_ii, ↓ax_xeq_ss, ↓ax_xeq_non_non, ↓ax_xeq_non_bl, ↓ax_xeq_non_int, ↓ax_xeq_non_str, ↓ax_xeq_non_tup, ↓ax_xeq_non_fl, ↓ax_xeq_non_scr, ↓ax_xeq_bl_non, ↓ax_xeq_bl_bl, ↓ax_xeq_bl_int, ↓ax_xeq_bl_str, ↓ax_xeq_bl_tup, ↓ax_xeq_bl_fl, ↓ax_xeq_bl_scr, ↓ax_xeq_int_non, ↓ax_xeq_int_bl, ↓ax_xeq_int_str, ↓ax_xeq_int_tup, ↓ax_xeq_int_fl, ↓ax_xeq_int_scr, ↓ax_xeq_str_non, ↓ax_xeq_str_bl, ↓ax_xeq_str_int, ↓ax_xeq_str_tup, ↓ax_xeq_str_fl, ↓ax_xeq_str_scr, ↓ax_xeq_tup_non, ↓ax_xeq_tup_bl, ↓ax_xeq_tup_int, ↓ax_xeq_tup_str, ↓ax_xeq_tup_tup, ↓ax_xeq_tup_fl, ↓ax_xeq_tup_scr, ↓ax_xeq_fl_non, ↓ax_xeq_fl_bl, ↓ax_xeq_fl_int, ↓ax_xeq_fl_str, ↓ax_xeq_fl_tup, ↓ax_xeq_fl_fl, ↓ax_xeq_fl_scr, ↓ax_xeq_scr_non, ↓ax_xeq_scr_bl, ↓ax_xeq_scr_int, ↓ax_xeq_scr_str, ↓ax_xeq_scr_tup, ↓ax_xeq_scr_fl, ↓ax_xeq_scr_scr, ↓ax_xne_ii, ↓ax_xne_ss, ↓ax_xne_non_non, ↓ax_xne_non_bl, ↓ax_xne_non_int, ↓ax_xne_non_str, ↓ax_xne_non_tup, ↓ax_xne_non_fl, ↓ax_xne_non_scr, ↓ax_xne_bl_non, ↓ax_xne_bl_bl, ↓ax_xne_bl_int, ↓ax_xne_bl_str, ↓ax_xne_bl_tup, ↓ax_xne_bl_fl, ↓ax_xne_bl_scr, ↓ax_xne_int_non, ↓ax_xne_int_bl, ↓ax_xne_int_str, ↓ax_xne_int_tup, ↓ax_xne_int_fl, ↓ax_xne_int_scr, ↓ax_xne_str_non, ↓ax_xne_str_bl, ↓ax_xne_str_int, ↓ax_xne_str_tup, ↓ax_xne_str_fl, ↓ax_xne_str_scr, ↓ax_xne_tup_non, ↓ax_xne_tup_bl, ↓ax_xne_tup_int, ↓ax_xne_tup_str, ↓ax_xne_tup_tup, ↓ax_xne_tup_fl, ↓ax_xne_tup_scr, ↓ax_xne_fl_non, ↓ax_xne_fl_bl, ↓ax_xne_fl_int, ↓ax_xne_fl_str, ↓ax_xne_fl_tup, ↓ax_xne_fl_fl, ↓ax_xne_fl_scr, ↓ax_xne_scr_non, ↓ax_xne_scr_bl, ↓ax_xne_scr_int, ↓ax_xne_scr_str, ↓ax_xne_scr_tup, ↓ax_xne_scr_fl, ↓ax_xne_scr_scr, ↓ax_xix_tup, ↓ax_xix_fl, ↓ax_xix_scr, ↓ax_xat0, ↓ax_xat1, ↓ax_xat2, ↓ax_xat3, ↓ax_xat4, ↓ax_xat5, ↓ax_xat6, ↓ax_xat7, ↓ax_xat8, ↓ax_xat9, ↓ax_xat10, ↓ax_xat11, ↓ax_xlast1, ↓ax_xlast2, ↓ax_xlast3, ↓ax_xlast4, ↓ax_xlast5, ↓ax_gabs, ↓ax_gint_i, ↓ax_gint_b, ↓ax_glen_s, ↓ax_glen_tup, ↓ax_gtuple_tup, ↓ax_glst_tup, ↓ax_glstr_tup, ↓ax_glen_fl, ↓ax_gtuple_fl, ↓ax_glst_fl, ↓ax_glstr_fl, ↓ax_glen_scr, ↓ax_gtuple_scr, ↓ax_glst_scr, ↓ax_glstr_scr, ↓ax_gall, ↓ax_gany, ↓ax_gsum, ↓ax_gmax, ↓ax_gmin, ↓ax_xisi, ↓ax_xis_int_non, ↓ax_xis_int_bl, ↓ax_xis_int_int, ↓ax_xis_int_str, ↓ax_xis_int_tup, ↓ax_xis_int_fl, ↓ax_xis_int_scr, ↓ax_xis_bool_non, ↓ax_xis_bool_bl, ↓ax_xis_bool_int, ↓ax_xis_bool_str, ↓ax_xis_bool_tup, ↓ax_xis_bool_fl, ↓ax_xis_bool_scr, ↓ax_xis_str_non, ↓ax_xis_str_bl, ↓ax_xis_str_int, ↓ax_xis_str_str, ↓ax_xis_str_tup, ↓ax_xis_str_fl, ↓ax_xis_str_scr, ↓ax_xis_tuple_non, ↓ax_xis_tuple_bl, ↓ax_xis_tuple_int, ↓ax_xis_tuple_str, ↓ax_xis_tuple_tup, ↓ax_xis_tuple_fl, ↓ax_xis_tuple_scr, ↓ax_xis_list_non, ↓ax_xis_list_bl, ↓ax_xis_list_int, ↓ax_xis_list_str, ↓ax_xis_list_tup, ↓ax_xis_list_fl, ↓ax_xis_list_scr, ↓ax_xinb_tup, ↓ax_xinb_fl, ↓ax_xinb_scr, ↓ax_xnop, ↓ax_xpart, ↓ax_xopq, ↓ax_xsl, ↓ax_xsl_t, ↓ax_xsl_f, ↓ax_xsl_s, ↓ax_xchain, ↓ax_xch, ↓ax_xbits, ↓ax_xbi, ↓ax_xapp, ↓ax_xnext, ↓ax_xseq, ↓ax_xbreak, ↓ax_xcont, ↓ax_xdrop, ↓ax_xret, ↓ax_xretn, ↓ax_xifs, ↓ax_xset, ↓ax_xpar, ↓ax_xpa, ↓ax_xaug, ↓ax_xasg, ↓ax_xgname, ↓ax_xgnil, ↓ax_xgcons, ↓ax_xgtup, ↓ax_xgsub, ↓ax_xnx, ↓ax_xrt, ↓ax_xbk, ↓ax_xct, ↓ax_xend_rt, ↓ax_xend_nx, ↓ax_xit, ↓ax_xit_t, ↓ax_xit_f, ↓ax_xr1, ↓ax_xr2, ↓ax_xr1q, ↓ax_xr2q, ↓ax_xfor, ↓ax_xfo_seq, ↓ax_xfo_cel, ↓ax_xfo_enc, ↓ax_xlc, ↓ax_xlc_seq, ↓ax_xlc_cel, ↓ax_xlc_enc, ↓ax_xlcl_nil, ↓ax_xlcl_cons, ↓ax_xyes, ↓ax_xturn, ↓ax_xfinf, ↓ax_xfinr, ↓ax_lz1, ↓ax_lzD, ↓ax_lzB, ↓ax_lzL, ↓ax_lzS, ↓ax_lzO, ↓ax_lzc, ↓ax_lzn, ↓ax_xitt, ↓ax_xitf, ↓ax_xidec, ↓ax_xindec, ↓ax_xinot, ↓ax_xnep, ↓ax_xemp_n, ↓ax_xemp_c, ↓ax_enum, ↓ax_en_t, ↓ax_en_f, ↓ax_mulr, ↓ax_xisb, ↓ax_isb, ↓ax_xr3, ↓ax_xr3q, ↓ax_xrev, ↓ax_rev_t, ↓ax_rev_f, ↓ax_xdivx, ↓ax_mult, ↓ax_addr, ↓ax_xlr1, ↓ax_xlr1r, ↓ax_xlr2, ↓ax_rgq, ↓ax_idx, ↓ax_addc, ↓ax_nonet, ↓ax_fld, ↓ax_setf, ↓ax_meth, ↓ax_make, ↓ax_pop, ↓ax_augf, ↓ax_augs, ↓ax_xlcx, ↓ax_xlcx_seq, ↓ax_xlcx_cel, ↓ax_xturnx, ↓ax_noneu, ax_xv0, ax_xv1, ax_xv2, ax_xv3, ax_xv4, ax_xv5, ax_xv6, ax_xv7, ax_xv8, ax_xv9, ax_xv10, ax_xv11, ax_xv12, ax_xv13, ax_xv14, ax_xv15, ax_xv16, ax_xv17, ax_xv18, ax_xv19, ax_xv20, ax_xv21, ax_xv22, ax_xv23, ax_xv24, ax_xv25, ax_xv26, ax_xv27, ax_xv28, ax_xv29, ax_xv30, ax_xv31, ax_xv32, ax_xv33, ax_xv34, ax_xv35, ax_xat0, ax_xat1, ax_xat2, ax_xat3, ax_xat4, ax_xat5, ax_xat6, ax_xat7, ax_xat8, ax_xat9, ax_xat10, ax_xat11, ax_xlast1, ax_xlast2, ax_xlast3, ax_xlast4, ax_xlast5, ax_xlcl_cons, ax_xwipe0, ax_xwipe1, ax_lzc, ax_lzn, ax_xitt, ax_xitf, ax_xiT, ax_xiF, ax_xidec, ax_xindec, ax_xinot, ax_xnep, ax_xemp_n, ax_xemp_c, z_map_cons, z_map_nil, z_len_cons, z_len_nil, z_cons_append, z_nil_append, z_rep0, z_rep, z_get0, z_get, z_set0, z_set, z_set_set, z_len_set, z_true_and, z_and_true, z_not_t, z_not_f, z_some_eq, z_cast0, z_cast1, Int.cast_ofNat_Int, Nat.reduceAdd, Nat.reduceSub, L2.CPow, Int.reduceLE, Int.reduceLT, Int.reduceAbs, Int.reduceToNat, Int.reducePow, Int.reduceSub, Int.reduceAdd, Int.reduceMul, Int.reduceNeg, Int.reduceEq, Nat.reducePow, Nat.reduceLT, Nat.reduceLeDiff, Nat.reduceMul, ne_eq, not_false_eq_true, not_true_eq_false, reduceCtorEq, sizeLine_eq, startD, List.length_map, decide_true, decide_false, str_eq, String.reduceEq])))

/-! ### the draws: what all laws begin with -/
abbrev dcell (xs : List Int) (i b k : Int) : Cel := .lst [.fl (xs.map .int), .int i, .int b, .int k]
def Dr (S : Sto) (n : Nat) : Prop := ∃ xs i b k, S[n]? = some (dcell xs i b k) ∧ 0 ≤ i ∧ 0 ≤ b ∧ 0 ≤ k
def DrTo (S : Sto) (n : Nat) (S' : Sto) : Prop := ∃ xs i b k, S' = S.set n (dcell xs i b k) ∧ 0 ≤ i ∧ 0 ≤ b ∧ 0 ≤ k
theorem Dr.to {S S' : Sto} {n : Nat} (h : Dr S n) (t : DrTo S n S') : Dr S' n := by
  obtain ⟨xs, i, b, k, e, _⟩ := h
  obtain ⟨xs', i', b', k', rfl, g⟩ := t
  exact ⟨xs', i', b', k', get_set e, g⟩
theorem DrTo.trans {S S1 S2 : Sto} {n : Nat} (a : DrTo S n S1) (b : DrTo S1 n S2) : DrTo S n S2 := by
  obtain ⟨xs, i, c, k, rfl, _⟩ := a
  obtain ⟨xs', i', b', k', rfl, g⟩ := b
  exact ⟨xs', i', b', k', by rw [List.set_set], g⟩
theorem DrTo.len {S S1 : Sto} {n : Nat} (a : DrTo S n S1) : S1.length = S.length := by
  obtain ⟨xs, i, c, k, rfl, _⟩ := a
  rw [List.length_set]
theorem DrTo.other {S S1 : Sto} {n m : Nat} (a : DrTo S n S1) (h : n ≠ m) : S1[m]? = S[m]? := by
  obtain ⟨xs, i, c, k, rfl, _⟩ := a
  rw [List.getElem?_set_ne h]
theorem Dr.app {S : Sto} {n : Nat} (h : Dr S n) (T : Sto) : Dr (S ++ T) n := by
  obtain ⟨xs, i, b, k, e, g⟩ := h
  exact ⟨xs, i, b, k, by rw [List.getElem?_append_left (List.getElem?_eq_some_iff.mp e).1]; exact e, g⟩
theorem Dr.set {S : Sto} {n m : Nat} (h : Dr S n) (hm : m ≠ n) (c : Cel) : Dr (S.set m c) n := by
  obtain ⟨xs, i, b, k, e, g⟩ := h
  exact ⟨xs, i, b, k, by rw [List.getElem?_set_ne hm]; exact e, g⟩
theorem Dr.self {S : Sto} {n : Nat} (h : Dr S n) : DrTo S n S := by
  obtain ⟨xs, i, b, k, e, g⟩ := h
  obtain ⟨hl, e⟩ := List.getElem?_eq_some_iff.mp e
  refine ⟨xs, i, b, k, ?_, g⟩
  rw [← e, List.set_getElem_self]
def a_start : ASp := fun ds S Q _ => ∃ ns : List Int, ns.length ≤ 63 ∧ (ds = [.scr (ns.map .int)] ∨ ds = [.fl (ns.map .int)]) ∧ S = [] ∧ ∀ S', S'.length = 1 → Dr S' 0 → Q (.ref 0) S'
def a_fill : ASp := fun ds S Q _ => ∃ n, ds = [.ref n] ∧ Dr S n ∧ ∀ r S', DrTo S n S' → 0 ≤ r → Q (.int r) S'
def a_take : ASp := fun ds S Q _ => ∃ n many, ds = [.ref n, .int many] ∧ Dr S n ∧ (0 < many ∧ many < 2 ^ 64) ∧ ∀ r S', DrTo S n S' → 0 ≤ r → r < many → Q (.int r) S'
theorem divOk_small {j : Int} (h0 : j ≠ 0) (h : j.natAbs < 2 ^ 64) : DivOk j := by
  refine ⟨h0, ?_⟩
  have hp : j.natAbs ≠ 0 := by omega
  have : j.natAbs.log2 < 64 := (Nat.log2_lt hp).mpr h
  omega
theorem mulOk_small {i j : Int} (h : i.natAbs < 2 ^ 64 ∨ j.natAbs < 2 ^ 64) : MulOk i j := intMulOk_small h
theorem len_start : ∀ ds S Q XX, a_start ds S Q XX → ds.length = 1 := by rintro ds S Q XX ⟨ns, _, h | h, _⟩ <;> (rw [h]; rfl)
theorem len_fill : ∀ ds S Q XX, a_fill ds S Q XX → ds.length = 1 := by rintro ds S Q XX ⟨n, rfl, _⟩; rfl
theorem len_take : ∀ ds S Q XX, a_take ds S Q XX → ds.length = 2 := by rintro ds S Q XX ⟨n, m, rfl, _⟩; rfl
theorem take_map {α β : Type} (f : α → β) (xs : List α) (lo hi : Option Int) : cutL (xs.map f) lo hi = (cutL xs lo hi).map f := by
  unfold cutL; rw [List.length_map, ← List.map_drop, ← List.map_take]
theorem cutL_len {α : Type} (xs : List α) (lo hi : Option Int) : (cutL xs lo hi).length ≤ xs.length := by
  unfold cutL; rw [List.length_take, List.length_drop]; omega
theorem small_line {n : Nat} (h : n ≤ 1000000) : n ≤ sizeLine := by rw [sizeLine_eq]; omega
/-- a comprehension of int(cell) -/
theorem lc_ints (σ : ASt) (Q : List D → Sto → Prop) (i : Nat) (hi : i < σ.length) : ∀ (ns : List Int) (acc : List D) (S : Sto), Q (acc ++ ns.map .int) S → lcL (wgName i) wYes (wCB gInt (wCons (wVar i) wNil)) σ Q (ns.map .int) acc S
  | [], acc, S, h => by
    unfold lcL
    simpa using h
  | n :: ns, acc, S, h => by
    rw [List.map_cons]
    unfold lcL lcTurn
    simp only [wgName, wYes, wCB, wCons, wVar, wNil, gInt, if_true, List.getElem?_set_self hi]
    refine lc_ints σ Q i hi ns _ S ?_
    rw [List.append_assoc]
    exact h
theorem p_start : ∀ ds S Q XX, Closed S → a_start ds S Q XX → w__law_start (endOf Q S.length) (startD ["script", "cell"] ds) S (GivesX XX S.length) := by
  rintro ds S Q XX hC ⟨ns, hl, hd, rfl, q⟩
  have fin : ∀ xs : List Int, AW.Gives Q 0 (.ref 0) [dcell xs 0 0 0] := fun xs => gives_now (q _ rfl ⟨xs, 0, 0, 0, rfl, by omega, by omega, by omega⟩)
  unfold w__law_start
  have step : (cutL (ns.map D.int) none (some 63)).length ≤ sizeLine ∧
      lcL (wgName 1) wYes (wCB gInt (wCons (wVar 1) wNil)) [some (ds.headD .non), none] (fun acc S2 => [D.fl acc, .int 0, .int 0, .int 0].length ≤ sizeLine ∧ AW.Gives Q 0 (.ref S2.length) (S2 ++ [.lst [D.fl acc, .int 0, .int 0, .int 0]])) (cutL (ns.map D.int) none (some 63)) [] [] := by
    rw [take_map]
    refine ⟨by rw [List.length_map]; exact small_line (by have := cutL_len ns none (some 63); omega), lc_ints _ _ _ (Nat.lt_succ_self 1) _ _ _ ⟨small_line (show 4 ≤ 1000000 by decide), fin _⟩⟩
  rcases hd with rfl | rfl <;> exact step
theorem p_take : ∀ ds S Q XX, Closed S → a_take ds S Q XX → w__law_take a_fill (endOf Q S.length) (startD ["c", "many", "digit"] ds) S (GivesX XX S.length) := by
  rintro ds S Q XX hC ⟨n, many, rfl, ⟨xs, i, b, k, hS, h1, h2, h3⟩, hm, q⟩
  have hn : n < S.length := (List.getElem?_eq_some_iff.mp hS).1
  have h0 : many ≠ 0 := by omega
  have hd : DivOk many := divOk_small h0 (by omega)
  have fin : ∀ (xs : List Int) (i b k : Int), 0 ≤ i → 0 ≤ b → 0 ≤ k → AW.Gives Q S.length (D.int (b.fmod many)) (S.set n (dcell xs i (b.fdiv many) k)) := by
    intro xs i b k h1 h2 h3
    refine gives_now (q _ _ ⟨xs, i, b.fdiv many, k, rfl, h1, ?_, h3⟩ ?_ ?_)
    · rw [Int.fdiv_eq_ediv_of_nonneg _ (by omega)]; exact Int.ediv_nonneg h2 (by omega)
    · rw [Int.fmod_eq_emod_of_nonneg _ (by omega)]; exact Int.emod_nonneg _ (by omega)
    · rw [Int.fmod_eq_emod_of_nonneg _ (by omega)]; exact Int.emod_lt_of_pos _ (by omega)
  unfold w__law_take
  walk_at "aw"
  simp only [hS]
  walk_at "aw"
  split
  · refine ⟨n, rfl, ⟨xs, i, b, k, hS, h1, h2, h3⟩, ?_⟩
    rintro r S' ⟨xs', i', b', k', rfl, g1, g2, g3⟩ hr
    simp only [gss hn]
    walk_at "aw"
    simp only [gss hn]
    walk_at "aw"
    exact ⟨h0, hd, fin xs' i' r k' g1 hr g3⟩
  · exact ⟨h0, hd, fin xs i b k h1 h2 h3⟩
theorem p_fill : ∀ ds S Q XX, Closed S → a_fill ds S Q XX → w__law_fill (endOf Q S.length) (startD ["c", "number"] ds) S (GivesX XX S.length) := by
  rintro ds S Q XX hC ⟨n, rfl, ⟨xs, i, b, k, hS, h1, h2, h3⟩, q⟩
  have hn : n < S.length := (List.getElem?_eq_some_iff.mp hS).1
  have m1 : ∀ x : Int, MulOk x 69621 := fun x => mulOk_small (.inr (by decide))
  have m2 : ∀ x : Int, MulOk x 48271 := fun x => mulOk_small (.inr (by decide))
  have m3 : ∀ x : Int, MulOk x 7919 := fun x => mulOk_small (.inr (by decide))
  have hp : L2.CPow 10 18 := ⟨by decide, by decide, by decide⟩
  have z1 : (2147483647 : Int) ≠ 0 := by decide
  have z2 : (2305843009213693951 : Int) ≠ 0 := by decide
  have z3 : (1000003 : Int) ≠ 0 := by decide
  -- the state between the statements: number may be missing
  let P : ASt → Sto → Prop := fun σ' S' => ∃ num i', σ' = [some (.ref n), some (.int num)] ∧ S' = S.set n (dcell xs i' b (k + 1)) ∧ 0 ≤ num ∧ 0 ≤ i'
  unfold w__law_fill
  refine seq_cut (fun σ' S' => σ' = [some (.ref n), none] ∧ S' = S.set n (dcell xs i b (k + 1))) ?_ ?_
  rotate_left
  · intro R hR
    walk_at "aw"
    simp only [hS]
    walk_at "aw"
    walk_at "aw"
    exact hR _ _ ⟨rfl, rfl⟩
  rintro _ _ ⟨rfl, rfl⟩
  refine seq_cut P ?_ ?_
  rotate_left
  · intro R hR
    walk_at "aw"
    simp only [gss hn]
    walk_at "aw"
    exact ⟨m1 _, hR _ _ ⟨_, i, rfl, rfl, by omega, h1⟩⟩
  rintro _ _ ⟨num, i', rfl, rfl, hnum, hi'⟩
  refine seq_cut P ?_ ?_
  rotate_left
  · intro R hR
    walk_at "aw"
    simp only [gss hn]
    walk_at "aw"
    split
    · rename_i hlt
      rw [List.length_map] at hlt
      have e : L2.atI (xs.map D.int) i' = some (.int xs[i'.toNat]) := atI_of hi' (by rw [List.getElem?_map, List.getElem?_eq_getElem (by omega)]; rfl)
      have fin : ∀ v : Int, 0 ≤ v → (if (1000000000000000000 : Int) ≤ v then AW.Gives Q S.length (.int v) (S.set n (dcell xs (i' + 1) b (k + 1))) else R [some (.ref n), some (.int v)] (S.set n (dcell xs (i' + 1) b (k + 1)))) := by
        intro v hv
        split
        · exact gives_now (q _ _ ⟨xs, i' + 1, b, k + 1, rfl, by omega, h2, by omega⟩ hv)
        · exact hR _ _ ⟨v, i' + 1, rfl, rfl, hv, by omega⟩
      walk_at "aw"
      simp only [e]
      walk_at "aw"
      split
      · exact fin _ (by omega)
      · exact fin _ (by omega)
    · exact hR _ _ ⟨num, i', rfl, rfl, hnum, hi'⟩
  clear hnum hi'
  rintro _ _ ⟨num, i', rfl, rfl, hnum, hi'⟩
  refine seq_cut P ?_ ?_
  rotate_left
  · intro R hR
    walk_at "aw"
    simp only [gss hn]
    walk_at "aw"
    have same := hR _ _ ⟨num, i', rfl, rfl, hnum, hi'⟩
    split
    · split
      · rename_i hne _
        rcases List.eq_nil_or_concat xs with hx | ⟨ys, y, hx⟩
        · rw [hx] at hne; cases hne
        · have e : (xs.map D.int).getLast? = some (.int y) := by rw [hx]; simp
          walk_at "aw"
          simp only [e]
          walk_at "aw"
          refine hR _ _ ⟨_, i', rfl, rfl, ?_, hi'⟩
          rw [Int.fmod_eq_emod_of_nonneg _ (by decide)]
          have := Int.emod_nonneg y (show (1000003 : Int) ≠ 0 by decide)
          omega
      · exact same
    · exact same
  rintro _ _ ⟨num, i', rfl, rfl, hnum, hi'⟩
  walk_at "aw"
  simp only [gss hn]
  walk_at "aw"
  refine ⟨m2 _, m1 _, ?_, m3 _, gives_now (q _ _ ⟨xs, i', b, k + 1, rfl, hi', h2, by omega⟩ ?_)⟩
  · refine mulOk_small (.inl ?_)
    rw [Int.fmod_eq_emod_of_nonneg _ (by decide)]
    have a := Int.emod_nonneg (num * 48271 + (k + 1) * 69621) (show (2147483647 : Int) ≠ 0 by decide)
    have b := Int.emod_lt_of_pos (num * 48271 + (k + 1) * 69621) (show (0 : Int) < 2147483647 by decide)
    omega
  · rw [Int.fmod_eq_emod_of_nonneg _ (by decide : (0 : Int) ≤ 2305843009213693951)]
    have a := Int.emod_nonneg ((num * 48271 + (k + 1) * 69621).fmod 2147483647 * (num * 48271 + (k + 1) * 69621).fmod 2147483647 + (k + 1) * 7919 + 11) (show (2305843009213693951 : Int) ≠ 0 by decide)
    omega
/-! ### powers and drawn integers -/
def a_raised : ASp := fun ds S Q _ => ∃ b k : Int, ds = [.int b, .int k] ∧ b.natAbs < 2 ^ 64 ∧ 0 ≤ k ∧ k < 2 ^ 62 ∧ Q (.int (b ^ k.toNat)) S
theorem len_raised : ∀ ds S Q XX, a_raised ds S Q XX → ds.length = 2 := by rintro ds S Q XX ⟨b, k, rfl, _⟩; rfl
theorem p_raised : ∀ ds S Q XX, Closed S → a_raised ds S Q XX → w__law_raised (endOf Q S.length) (startD ["b", "k", "found", "j"] ds) S (GivesX XX S.length) := by
  rintro ds S Q XX hC ⟨b, k, rfl, hb, h0, h1, q⟩
  unfold w__law_raised
  walk_at "aw"
  refine ⟨⟨by omega, h1⟩, ?_⟩
  refine range_cut 0 k.toNat (fun i σ S' => S' = S ∧ ∃ y, σ = [some (.int b), some (.int k), some (.int (b ^ i)), y]) ⟨rfl, none, by rw [Int.pow_zero]⟩ ?_ ?_
  · rintro i σ S' R hi ⟨rfl, y, rfl⟩ hR
    walk_at "aw"
    refine ⟨mulOk_small (.inr hb), hR _ _ ⟨rfl, some (.int (0 + (i : Nat))), ?_⟩⟩
    rw [Int.pow_succ]
  · rintro σ S' ⟨rfl, y, rfl⟩
    walk_at "aw"
    exact gives_now q
def a_integer : ASp := fun ds S Q _ => ∃ n, ds = [.ref n] ∧ Dr S n ∧ ∀ r S', DrTo S n S' → (-(10 ^ 40) < r ∧ r < 10 ^ 40) → Q (.int r) S'
theorem len_integer : ∀ ds S Q XX, a_integer ds S Q XX → ds.length = 1 := by rintro ds S Q XX ⟨n, rfl, _⟩; rfl
theorem pow10_le {k : Nat} (h : k ≤ 39) : (0 : Int) < 10 ^ k ∧ (10 : Int) ^ k ≤ 10 ^ 39 := by
  have e : ((10 : Nat) ^ k : Nat) ≤ 10 ^ 39 := Nat.pow_le_pow_right (by decide) h
  have p : 0 < (10 : Nat) ^ k := Nat.pow_pos (by decide)
  have c : ((10 : Int) ^ k) = (((10 : Nat) ^ k : Nat) : Int) := by rw [Int.natCast_pow]; rfl
  have c2 : ((10 : Int) ^ 39) = (((10 : Nat) ^ 39 : Nat) : Int) := by decide
  rw [c, c2]
  omega
theorem p_integer : ∀ ds S Q XX, Closed S → a_integer ds S Q XX → w__law_integer a_take a_raised (endOf Q S.length) (startD ["c", "k", "n"] ds) S (GivesX XX S.length) := by
  rintro ds S Q XX hC ⟨n, rfl, hS, q⟩
  unfold w__law_integer
  let P : ASt → Sto → Prop := fun σ' S' => DrTo S n S' ∧ ∃ k num, σ' = [some (.ref n), some (.int k), some (.int num)] ∧ (-(10 ^ 40) < num ∧ num < 10 ^ 40)
  refine seq_cut (fun σ' S' => DrTo S n S' ∧ ∃ k, σ' = [some (.ref n), some (.int k), none] ∧ 0 ≤ k ∧ k < 8) ?_ ?_
  rotate_left
  · intro R hR
    walk_at "aw"
    refine ⟨n, 8, rfl, hS, by omega, fun r S' t h0 h1 => ?_⟩
    exact hR _ _ ⟨t, r, rfl, h0, h1⟩
  rintro σ S1 ⟨t1, k, rfl, hk0, hk1⟩
  refine seq_cut P ?_ ?_
  rotate_left
  · intro R hR
    walk_at "aw"
    refine ⟨n, 3, rfl, hS.to t1, by omega, fun r1 S2 t2 a0 a1 => ?_⟩
    refine ⟨n, 12, rfl, (hS.to t1).to t2, by omega, fun r2 S3 t3 b0 b1 => ?_⟩
    refine ⟨n, 200, rfl, ((hS.to t1).to t2).to t3, by omega, fun r3 S4 t4 c0 c1 => ?_⟩
    refine ⟨n, 99, rfl, (((hS.to t1).to t2).to t3).to t4, by omega, fun r4 S5 t5 d0 d1 => ?_⟩
    obtain ⟨m, hm, e⟩ := at_ints [r1, r2, r3, 1000000000 + r4, 0, 1, 2, 5] hk0 hk1
    simp only [List.map_cons, List.map_nil] at e
    simp only [e]
    refine hR _ _ ⟨(((t1.trans t2).trans t3).trans t4).trans t5, k, m, rfl, ?_⟩
    simp only [List.mem_cons, List.not_mem_nil, or_false] at hm
    omega
  rintro σ S2 ⟨t2, k, num, rfl, hn⟩
  refine seq_cut P ?_ ?_
  rotate_left
  · intro R hR
    walk_at "aw"
    refine ⟨n, 40, rfl, hS.to t2, by omega, fun r1 S3 t3 a0 a1 => ?_⟩
    walk_at "aw"
    split
    · refine ⟨n, 30, rfl, (hS.to t2).to t3, by omega, fun r2 S4 t4 b0 b1 => ?_⟩
      refine ⟨10, 10 + r2, rfl, by decide, by omega, by omega, ?_⟩
      refine ⟨n, 1000, rfl, ((hS.to t2).to t3).to t4, by omega, fun r3 S5 t5 c0 c1 => ?_⟩
      have := pow10_le (k := (10 + r2).toNat) (by omega)
      exact hR _ _ ⟨((t2.trans t3).trans t4).trans t5, k, _, rfl, by omega⟩
    · exact hR _ _ ⟨t2.trans t3, k, num, rfl, hn⟩
  rintro σ S3 ⟨t3, k, num, rfl, hn⟩
  walk_at "aw"
  refine ⟨n, 2, rfl, hS.to t3, by omega, fun r1 S4 t4 a0 a1 => ?_⟩
  walk_at "aw"
  split
  · exact gives_now (q _ _ (t3.trans t4) (by omega))
  · exact gives_now (q _ _ (t3.trans t4) hn)
/-! ### numbers -/
theorem len_law : ∀ ds S Q XX, aspLaw ds S Q XX → ds.length = 1 := by rintro ds S Q XX ⟨ns, _, h | h, _⟩ <;> (rw [h]; rfl)
theorem abs_lt {a : Int} {n : Nat} (h : -(2 ^ n : Nat) < a) (h2 : a < (2 ^ n : Nat)) : a.natAbs < 2 ^ n := by
  generalize (2 : Nat) ^ n = z at *
  omega
theorem mul_lt {x y : Int} {m n : Nat} (hx : x.natAbs < 2 ^ m) (hy : y.natAbs < 2 ^ n) : (x * y).natAbs < 2 ^ (m + n) := by
  rw [Int.natAbs_mul, Nat.pow_add]
  exact Nat.mul_lt_mul'' hx hy
theorem lt_big {x : Int} {m n : Nat} (hx : x.natAbs < 2 ^ m) (h : m ≤ n := by decide) : x.natAbs < 2 ^ n := Nat.lt_of_lt_of_le hx (Nat.pow_le_pow_right (by decide) h)
theorem mod19 (r : Int) : (r.fmod 10000000000000000000).natAbs < 2 ^ 64 ∧ 0 ≤ r.fmod 10000000000000000000 := by
  rw [fmod_pos (by decide)]
  have := Int.emod_nonneg r (show (10000000000000000000 : Int) ≠ 0 by decide)
  have := Int.emod_lt_of_pos r (show (0 : Int) < 10000000000000000000 by decide)
  omega
/-! ### greatest common divisors and fractions -/
def a_gcd : ASp := fun ds S Q _ => match ds with
  | [.int a, .int b] => Q (.int (Int.gcd a b : Nat)) S
  | _ => False
theorem gcd_args {ds S Q XX} (q : a_gcd ds S Q XX) : ∃ a b : Int, ds = [.int a, .int b] ∧ Q (.int (Int.gcd a b : Nat)) S := by
  unfold a_gcd at q
  split at q
  · exact ⟨_, _, rfl, q⟩
  · exact q.elim
theorem len_divisor : ∀ ds S Q XX, a_gcd ds S Q XX → ds.length = 2 := by
  intro ds S Q XX h
  obtain ⟨a, b, rfl, _⟩ := gcd_args h
  rfl
theorem len_lcommon : ∀ ds S Q XX, a_gcd ds S Q XX → ds.length = 2 := len_divisor
theorem gcd_turn (a b : Int) : Int.gcd b (a % b) = Int.gcd a b := by
  rw [Int.gcd_comm b, Int.gcd_comm a]
  have h := Int.emod_add_mul_ediv a b
  have e : a = (a / b) * b + a % b := by rw [Int.mul_comm]; omega
  conv => rhs; rw [e]
  rw [Int.gcd_mul_right_add_right, Int.gcd_comm]
theorem p_lcommon : ∀ ds S Q XX, Closed S → a_gcd ds S Q XX → w__law_common (endOf Q S.length) (startD ["a", "b", "rest"] ds) S (GivesX XX S.length) := by
  intro ds S Q XX hC q0
  obtain ⟨a, b, rfl, q⟩ := gcd_args q0
  unfold w__law_common
  walk_at "aw"
  let P : Nat → ASt → Sto → Prop := fun m σ S' => S = S' ∧ ∃ x y : Int, ∃ z, 0 ≤ x ∧ 0 ≤ y ∧ Int.gcd x y = Int.gcd a b ∧ m = y.toNat ∧ σ = [some (.int x), some (.int y), z]
  refine while_cut P b.natAbs ⟨rfl, a.natAbs, b.natAbs, none, by omega, by omega, rfl, by omega, rfl⟩ ?_
  rintro m σ S' R2 ⟨rfl, x, y, z, hx, hy, hg, rfl, rfl⟩ hR2
  walk_at "aw"
  by_cases e : y = 0
  · subst e
    rw [if_pos rfl]
    rw [Int.gcd_zero_right] at hg
    rw [← hg] at q
    rw [show x = (x.natAbs : Int) by omega]
    exact gives_now q
  · rw [if_neg e]
    rw [fmod_pos hy]
    have m0 := Int.emod_nonneg x e
    have m1 := Int.emod_lt_of_pos x (show 0 < y by omega)
    exact ⟨e, hR2 _ _ _ (by omega) ⟨rfl, y, x % y, _, hy, m0, by rw [gcd_turn, hg], rfl, rfl⟩⟩
theorem p_divisor : ∀ ds S Q XX, Closed S → a_gcd ds S Q XX → w_divisor (endOf Q S.length) (startD ["a", "b"] ds) S (GivesX XX S.length) := by
  intro ds S Q XX hC q0
  obtain ⟨a, b, rfl, q⟩ := gcd_args q0
  unfold w_divisor
  walk_at "aw"
  let P : Nat → ASt → Sto → Prop := fun m σ S' => S = S' ∧ ∃ x y : Int, 0 ≤ x ∧ 0 ≤ y ∧ Int.gcd x y = Int.gcd a b ∧ m = y.toNat ∧ σ = [some (.int x), some (.int y)]
  refine while_cut P b.natAbs ⟨rfl, a.natAbs, b.natAbs, by omega, by omega, rfl, by omega, rfl⟩ ?_
  rintro m σ S' R2 ⟨rfl, x, y, hx, hy, hg, rfl, rfl⟩ hR2
  walk_at "aw"
  by_cases e : y = 0
  · subst e
    rw [if_pos rfl]
    rw [Int.gcd_zero_right] at hg
    rw [← hg] at q
    rw [show x = (x.natAbs : Int) by omega]
    exact gives_now q
  · rw [if_neg e]
    rw [fmod_pos hy]
    have m0 := Int.emod_nonneg x e
    have m1 := Int.emod_lt_of_pos x (show 0 < y by omega)
    exact ⟨e, hR2 _ _ _ (by omega) ⟨rfl, y, x % y, hy, m0, by rw [gcd_turn, hg], rfl, rfl⟩⟩
/-! ### power series: what polynomials are counted in -/
structure Ser (T : Type) where
  c : Nat → T
namespace Ser
open Lean.Grind
variable {T : Type}
theorem ext {f g : Ser T} (h : ∀ i, f.c i = g.c i) : f = g := by
  cases f; cases g
  congr
  funext i
  exact h i
variable [CommRing T]
def const (a : T) : Ser T := ⟨fun i => match i with
  | 0 => a
  | _ + 1 => 0⟩
def add (f g : Ser T) : Ser T := ⟨fun i => f.c i + g.c i⟩
def neg (f : Ser T) : Ser T := ⟨fun i => -f.c i⟩
def tl (f : Ser T) : Ser T := ⟨fun i => f.c (i + 1)⟩
def mulc : Nat → Ser T → Ser T → T
  | 0, f, g => f.c 0 * g.c 0
  | n + 1, f, g => f.c 0 * g.c (n + 1) + mulc n f.tl g
def mul (f g : Ser T) : Ser T := ⟨fun n => mulc n f g⟩
theorem mulc_add_left : ∀ (n : Nat) (f f' g : Ser T), mulc n (f.add f') g = mulc n f g + mulc n f' g
  | 0, f, f', g => by simp only [mulc, add]; grind
  | n + 1, f, f', g => by
    have e : (f.add f').tl = f.tl.add f'.tl := rfl
    simp only [mulc]
    rw [e, mulc_add_left n]
    simp only [add]
    grind
theorem mulc_add_right : ∀ (n : Nat) (f g g' : Ser T), mulc n f (g.add g') = mulc n f g + mulc n f g'
  | 0, f, g, g' => by simp only [mulc, add]; grind
  | n + 1, f, g, g' => by
    simp only [mulc]
    rw [mulc_add_right n]
    simp only [add]
    grind
theorem mulc_last : ∀ (n : Nat) (f g : Ser T), mulc (n + 1) f g = f.c (n + 1) * g.c 0 + mulc n f g.tl
  | 0, f, g => by simp only [mulc, tl]; grind
  | n + 1, f, g => by
    rw [mulc, mulc_last n f.tl g]
    simp only [mulc, tl]
    grind
theorem mulc_comm : ∀ (n : Nat) (f g : Ser T), mulc n f g = mulc n g f
  | 0, f, g => by simp only [mulc]; grind
  | n + 1, f, g => by
    rw [mulc_last, mulc, mulc_comm n f g.tl]
    grind
def smul (a : T) (f : Ser T) : Ser T := ⟨fun i => a * f.c i⟩
theorem mulc_smul : ∀ (n : Nat) (a : T) (f g : Ser T), mulc n (smul a f) g = a * mulc n f g
  | 0, a, f, g => by simp only [mulc, smul]; grind
  | n + 1, a, f, g => by
    have e : (smul a f).tl = smul a f.tl := rfl
    simp only [mulc]
    rw [e, mulc_smul n]
    simp only [smul]
    grind
theorem tl_mul (f g : Ser T) : (mul f g).tl = (smul (f.c 0) g.tl).add (mul f.tl g) := rfl
theorem mulc_assoc : ∀ (n : Nat) (f g h : Ser T), mulc n (mul f g) h = mulc n f (mul g h)
  | 0, f, g, h => by simp only [mulc, mul]; grind
  | n + 1, f, g, h => by
    have e : (mul f g).c 0 = f.c 0 * g.c 0 := rfl
    have e2 : (mul g h).c (n + 1) = g.c 0 * h.c (n + 1) + mulc n g.tl h := rfl
    rw [mulc, mulc, tl_mul, mulc_add_left, mulc_smul, mulc_assoc n, e, e2]
    grind
theorem mulc_const : ∀ (n : Nat) (a : T) (g : Ser T), mulc n (const a) g = a * g.c n
  | 0, a, g => rfl
  | n + 1, a, g => by
    have e : (const a : Ser T).tl = smul 0 (const 0) := by
      apply ext; intro i; simp only [tl, const, smul]; grind
    rw [mulc, e, mulc_smul]
    simp only [const]
    grind
def pw (f : Ser T) : Nat → Ser T
  | 0 => const 1
  | n + 1 => mul (pw f n) f
instance : CommRing (Ser T) where
  add := add
  mul := mul
  neg := neg
  sub f g := add f (neg g)
  natCast := ⟨fun n => const (OfNat.ofNat n)⟩
  ofNat n := ⟨const (OfNat.ofNat n)⟩
  nsmul := ⟨fun n f => mul (const (OfNat.ofNat n)) f⟩
  npow := ⟨pw⟩
  intCast := ⟨fun i => const (Ring.intCast.intCast i)⟩
  zsmul := ⟨fun i f => mul (const (Ring.intCast.intCast i)) f⟩
  add_zero f := ext fun i => by
    show f.c i + (const (OfNat.ofNat 0)).c i = f.c i
    cases i <;> simp only [const] <;> grind
  add_comm f g := ext fun i => by
    show f.c i + g.c i = g.c i + f.c i
    grind
  add_assoc f g h := ext fun i => by
    show f.c i + g.c i + h.c i = f.c i + (g.c i + h.c i)
    grind
  mul_assoc f g h := ext fun i => mulc_assoc i f g h
  mul_one f := ext fun i => by
    show mulc i f (const (OfNat.ofNat 1)) = f.c i
    rw [mulc_comm, mulc_const]
    grind
  one_mul f := ext fun i => by
    show mulc i (const (OfNat.ofNat 1)) f = f.c i
    rw [mulc_const]
    grind
  left_distrib f g h := ext fun i => mulc_add_right i f g h
  right_distrib f g h := ext fun i => mulc_add_left i f g h
  zero_mul f := ext fun i => by
    show mulc i (const (OfNat.ofNat 0)) f = (const (OfNat.ofNat 0)).c i
    rw [mulc_const]
    cases i <;> simp only [const] <;> grind
  mul_zero f := ext fun i => by
    show mulc i f (const (OfNat.ofNat 0)) = (const (OfNat.ofNat 0)).c i
    rw [mulc_comm, mulc_const]
    cases i <;> simp only [const] <;> grind
  pow_zero f := rfl
  pow_succ f n := rfl
  ofNat_succ n := ext fun i => by
    show (const (OfNat.ofNat (n + 1))).c i = (const (OfNat.ofNat n)).c i + (const (OfNat.ofNat 1)).c i
    cases i
    · exact Semiring.ofNat_succ n
    · simp only [const]; grind
  ofNat_eq_natCast n := rfl
  nsmul_eq_natCast_mul n f := rfl
  neg_add_cancel f := ext fun i => by
    show -f.c i + f.c i = (const (OfNat.ofNat 0)).c i
    cases i <;> simp only [const] <;> grind
  sub_eq_add_neg f g := rfl
  neg_zsmul i f := ext fun j => by
    show mulc j (const (Ring.intCast.intCast (-i))) f = -mulc j (const (Ring.intCast.intCast i)) f
    rw [mulc_const, mulc_const]
    have := Ring.intCast_neg (α := T) i
    have e : (Ring.intCast.intCast (-i) : T) = -(Ring.intCast.intCast i : T) := this
    rw [e]
    grind
  zsmul_natCast_eq_nsmul n f := ext fun j => by
    show mulc j (const (Ring.intCast.intCast (n : Int))) f = mulc j (const (OfNat.ofNat n)) f
    rw [show (Ring.intCast.intCast (n : Int) : T) = OfNat.ofNat n from Ring.intCast_ofNat n]
  intCast_ofNat n := by
    show const (Ring.intCast.intCast (OfNat.ofNat n : Int)) = const (OfNat.ofNat n)
    rw [show (Ring.intCast.intCast (OfNat.ofNat n : Int) : T) = OfNat.ofNat n from Ring.intCast_ofNat n]
  intCast_neg i := ext fun j => by
    show (const (Ring.intCast.intCast (-i))).c j = -(const (Ring.intCast.intCast i)).c j
    cases j
    · exact Ring.intCast_neg i
    · simp only [const]; grind
  mul_comm f g := ext fun i => mulc_comm i f g
theorem c_add (f g : Ser T) (i : Nat) : (f + g).c i = f.c i + g.c i := rfl
theorem c_neg (f : Ser T) (i : Nat) : (-f).c i = -f.c i := rfl
theorem c_sub (f g : Ser T) (i : Nat) : (f - g).c i = f.c i + -g.c i := rfl
theorem c_mul (f g : Ser T) (i : Nat) : (f * g).c i = mulc i f g := rfl
theorem c_zero (i : Nat) : (0 : Ser T).c i = 0 := by
  show (const (OfNat.ofNat 0)).c i = 0
  cases i <;> rfl
theorem c_one (i : Nat) : (1 : Ser T).c i = if i = 0 then 1 else 0 := by
  show (const (OfNat.ofNat 1)).c i = _
  cases i
  · rfl
  · rw [if_neg (by omega)]; rfl
/-! ### lists of coefficients -/
/-- the coefficients of a list -/
def cf (l : List T) (i : Nat) : T := (l[i]?).getD 0
def of (l : List T) : Ser T := ⟨cf l⟩
theorem cf_lt {l : List T} {i : Nat} {a : T} (h : l[i]? = some a) : cf l i = a := by unfold cf; rw [h]; rfl
theorem cf_ge {l : List T} {i : Nat} (h : l.length ≤ i) : cf l i = 0 := by unfold cf; rw [List.getElem?_eq_none h]; rfl
theorem of_nil : (of [] : Ser T) = 0 := ext fun i => by
  rw [c_zero]
  exact cf_ge (l := []) (i := i) (Nat.zero_le i)
variable [DecidableEq T]
/-- without the zeros at the end -/
def trim : List T → List T
  | [] => []
  | a :: l => match trim l with
    | [] => if a = 0 then [] else [a]
    | b :: r => a :: b :: r
theorem cf_cons (a : T) (l : List T) (i : Nat) : cf (a :: l) i = match i with
    | 0 => a
    | i + 1 => cf l i := by
  cases i <;> rfl
theorem cf_trim : ∀ (l : List T) (i : Nat), cf (trim l) i = cf l i
  | [], i => rfl
  | a :: l, i => by
    have ih := cf_trim l
    unfold trim
    cases e : trim l with
    | nil =>
      rw [e] at ih
      have z : ∀ j, cf l j = 0 := fun j => by rw [← ih j]; exact cf_ge (l := []) (Nat.zero_le _)
      simp only
      split
      · rename_i h
        rw [cf_cons, cf_ge (l := []) (Nat.zero_le _)]
        cases i
        · exact h.symm
        · exact (z _).symm
      · rw [cf_cons, cf_cons]
        cases i
        · rfl
        · show cf [] _ = cf l _
          rw [z, cf_ge (l := []) (Nat.zero_le _)]
    | cons b r =>
      rw [e] at ih
      simp only
      rw [cf_cons, cf_cons]
      cases i
      · rfl
      · exact ih _
/-- no zero at the end -/
def nt (l : List T) : Prop := ∀ a, l.getLast? = some a → a ≠ 0
theorem nt_nil : nt ([] : List T) := fun a h => by cases h
theorem nt_trim : ∀ l : List T, nt (trim l)
  | [] => nt_nil
  | a :: l => by
    have ih := nt_trim l
    unfold trim
    cases e : trim l with
    | nil =>
      simp only
      split
      · exact nt_nil
      · rename_i h
        intro b hb
        cases hb
        exact h
    | cons b r =>
      rw [e] at ih
      intro x hx
      exact ih x (by rw [List.getLast?_cons_cons] at hx; exact hx)
theorem nt_eq {l r : List T} (hl : nt l) (hr : nt r) (h : ∀ i, cf l i = cf r i) : l = r := by
  have len : ∀ {l r : List T}, nt l → (∀ i, cf l i = cf r i) → l.length ≤ r.length := by
    intro l r hl h
    rcases Nat.lt_or_ge r.length l.length with x | x
    · exfalso
      have hlast : l.getLast? = some (l[l.length - 1]'(by omega)) := by rw [List.getLast?_eq_getElem?, List.getElem?_eq_getElem (by omega)]
      refine hl _ hlast ?_
      have e1 : cf l (l.length - 1) = l[l.length - 1]'(by omega) := cf_lt (List.getElem?_eq_getElem (by omega))
      rw [← e1, h, cf_ge (by omega)]
    · exact x
  have e : l.length = r.length := Nat.le_antisymm (len hl h) (len hr fun i => (h i).symm)
  refine List.ext_getElem e fun i h1 h2 => ?_
  have := h i
  rwa [cf_lt (List.getElem?_eq_getElem h1), cf_lt (List.getElem?_eq_getElem h2)] at this
theorem trim_nt {l : List T} (h : nt l) : trim l = l := nt_eq (nt_trim l) h (cf_trim l)
theorem of_trim (l : List T) : of (trim l) = of l := ext (cf_trim l)
theorem nt_inj {l r : List T} (hl : nt l) (hr : nt r) (h : of l = of r) : l = r := nt_eq hl hr fun i => congrArg (fun f => Ser.c f i) h
theorem trim_eq {l r : List T} (h : of l = of r) : trim l = trim r := nt_inj (nt_trim l) (nt_trim r) (by rw [of_trim, of_trim, h])
theorem trim_len (l : List T) : (trim l).length ≤ l.length := by
  induction l with
  | nil => exact Nat.le_refl _
  | cons a l ih =>
    unfold trim
    cases e : trim l with
    | nil => simp only; split <;> simp
    | cons b r => rw [e] at ih; simp only [List.length_cons] at ih ⊢; omega
end Ser
/-! ### one coefficient alone -/
namespace Ser
open Lean.Grind
variable {T : Type} [CommRing T]
def mon (i : Nat) (a : T) : Ser T := ⟨fun n => if n = i then a else 0⟩
theorem mulc_zero : ∀ (n : Nat) (f g : Ser T), (∀ i, f.c i = 0) → mulc n f g = 0
  | 0, f, g, h => by simp only [mulc]; rw [h]; grind
  | n + 1, f, g, h => by
    rw [mulc, mulc_zero n f.tl g fun i => h (i + 1), h]
    grind
theorem mulc_mon : ∀ (n i j : Nat) (a b : T), mulc n (mon i a) (mon j b) = if n = i + j then a * b else 0
  | 0, i, j, a, b => by
    simp only [mulc, mon]
    rcases Nat.eq_zero_or_pos i with rfl | hi
    · rcases Nat.eq_zero_or_pos j with rfl | hj
      · rw [if_pos rfl, if_pos rfl, if_pos rfl]
      · rw [if_pos rfl, if_neg (by omega), if_neg (by omega)]; grind
    · rw [if_neg (by omega), if_neg (show ¬(0 = i + j) by omega)]; grind
  | n + 1, 0, j, a, b => by
    rw [mulc, mulc_zero n (mon 0 a).tl _ fun i => show (if i + 1 = 0 then a else 0) = 0 from if_neg (by omega)]
    show (if 0 = 0 then a else 0) * (if n + 1 = j then b else 0) + 0 = _
    rw [if_pos rfl, Nat.zero_add]
    split <;> grind
  | n + 1, i + 1, j, a, b => by
    have e : (mon (i + 1) a).tl = mon i a := by
      apply ext
      intro m
      show (if m + 1 = i + 1 then a else 0) = if m = i then a else 0
      by_cases h : m = i
      · rw [if_pos h, if_pos (by omega)]
      · rw [if_neg h, if_neg (by omega)]
    rw [mulc, e, mulc_mon n i j]
    show (if 0 = i + 1 then a else 0) * _ + _ = _
    rw [if_neg (by omega)]
    by_cases h : n = i + j
    · rw [if_pos h, if_pos (show n + 1 = i + 1 + j by omega)]; grind
    · rw [if_neg h, if_neg (show ¬(n + 1 = i + 1 + j) by omega)]; grind
theorem mon_mul (i j : Nat) (a b : T) : mon i a * mon j b = mon (i + j) (a * b) := ext fun n => mulc_mon n i j a b
theorem of_take_succ {x : List T} {i : Nat} {a : T} (h : x[i]? = some a) : of (x.take (i + 1)) = of (x.take i) + mon i a := ext fun n => by
  rw [c_add]
  show cf _ n = cf _ n + if n = i then a else 0
  by_cases hn : n = i
  · subst hn
    rw [if_pos rfl, cf_lt (a := a) (by rw [List.getElem?_take_of_lt (by omega)]; exact h), cf_ge (by rw [List.length_take]; omega)]
    grind
  · rw [if_neg hn]
    rcases Nat.lt_or_ge n i with z | z
    · unfold cf
      rw [List.getElem?_take_of_lt (by omega), List.getElem?_take_of_lt z]
      grind
    · rw [cf_ge (by rw [List.length_take]; omega), cf_ge (by rw [List.length_take]; omega)]
      grind
theorem of_set {x : List T} {n : Nat} {c d : T} (h : x[n]? = some c) : of (x.set n (c + d)) = of x + mon n d := ext fun m => by
  rw [c_add]
  show cf _ m = cf x m + if m = n then d else 0
  have hn := (List.getElem?_eq_some_iff.mp h).1
  by_cases hm : m = n
  · subst hm
    rw [if_pos rfl, cf_lt (List.getElem?_set_self hn), cf_lt h]
  · rw [if_neg hm]
    unfold cf
    rw [List.getElem?_set_ne (by omega)]
    grind
theorem of_zeros {n : Nat} : of (List.replicate n (0 : T)) = 0 := ext fun i => by
  rw [c_zero]
  show cf _ i = 0
  unfold cf
  rw [List.getElem?_replicate]
  split <;> rfl
theorem of_take_zero {x : List T} : of (x.take 0) = 0 := of_nil
end Ser
namespace Ser
open Lean.Grind
variable {T : Type} [CommRing T]
theorem mulc_mon_left : ∀ (n i : Nat) (a : T) (f : Ser T), mulc n (mon i a) f = if i ≤ n then a * f.c (n - i) else 0
  | 0, i, a, f => by
    simp only [mulc, mon]
    rcases Nat.eq_zero_or_pos i with rfl | hi
    · rw [if_pos rfl, if_pos (Nat.le_refl 0)]
    · rw [if_neg (by omega), if_neg (by omega)]; grind
  | n + 1, 0, a, f => by
    rw [mulc, mulc_zero n (mon 0 a).tl _ fun i => show (if i + 1 = 0 then a else 0) = 0 from if_neg (by omega), if_pos (Nat.zero_le _)]
    show (if 0 = 0 then a else 0) * f.c (n + 1) + 0 = _
    rw [if_pos rfl, Nat.sub_zero]
    grind
  | n + 1, i + 1, a, f => by
    have e : (mon (i + 1) a).tl = mon i a := by
      apply ext
      intro m
      show (if m + 1 = i + 1 then a else 0) = if m = i then a else 0
      by_cases h : m = i
      · rw [if_pos h, if_pos (by omega)]
      · rw [if_neg h, if_neg (by omega)]
    rw [mulc, e, mulc_mon_left n i]
    show (if 0 = i + 1 then a else 0) * _ + _ = _
    rw [if_neg (by omega)]
    by_cases h : i ≤ n
    · rw [if_pos h, if_pos (show i + 1 ≤ n + 1 by omega), show n + 1 - (i + 1) = n - i by omega]; grind
    · rw [if_neg h, if_neg (show ¬(i + 1 ≤ n + 1) by omega)]; grind
theorem c_mon_mul (i j : Nat) (a : T) (f : Ser T) : (mon i a * f).c j = if i ≤ j then a * f.c (j - i) else 0 := mulc_mon_left j i a f
end Ser
/-! ### fractions in lowest terms -/
def qe (x : Rat) : D := .tup [.int x.num, .int (x.den : Nat)]
def a_fr : ASp := fun ds S Q _ => match ds with
  | [.int n, .int d] => d ≠ 0 ∧ Q (qe (Rat.divInt n d)) S
  | _ => False
theorem fr_args {ds S Q XX} (q : a_fr ds S Q XX) : ∃ n d : Int, ds = [.int n, .int d] ∧ d ≠ 0 ∧ Q (qe (Rat.divInt n d)) S := by
  unfold a_fr at q
  split at q
  · exact ⟨_, _, rfl, q⟩
  · exact q.elim
theorem len_fr : ∀ ds S Q XX, a_fr ds S Q XX → ds.length = 2 := by
  intro ds S Q XX h
  obtain ⟨a, b, rfl, _⟩ := fr_args h
  rfl
theorem len_fraction : ∀ ds S Q XX, a_fr ds S Q XX → ds.length = 2 := len_fr
theorem len_lfraction : ∀ ds S Q XX, a_fr ds S Q XX → ds.length = 2 := len_fr
theorem fr_le {n d : Int} (h0 : d ≠ 0) : Int.gcd n d ≤ d.natAbs := by
  have := Int.gcd_dvd_right n d
  exact Nat.le_of_dvd (by omega) (Int.natCast_dvd_natCast.mp (Int.dvd_natAbs.mpr this))
theorem fr_pos {n d : Int} (h : 0 < d) : n.fdiv (Int.gcd n d : Nat) = (Rat.divInt n d).num ∧ d.fdiv (Int.gcd n d : Nat) = ((Rat.divInt n d).den : Nat) := by
  rw [Rat.num_divInt, Rat.den_divInt, if_neg (by omega), fdiv_pos (by omega), fdiv_pos (by omega), Int.sign_eq_one_of_pos h, Int.one_mul, Int.gcd_comm d n]
  refine ⟨rfl, ?_⟩
  rw [Int.natCast_ediv, show ((d.natAbs : Nat) : Int) = d by omega]
theorem fr_neg {n d : Int} (h : d < 0) : n.fdiv (-(Int.gcd n d : Nat)) = (Rat.divInt n d).num ∧ d.fdiv (-(Int.gcd n d : Nat)) = ((Rat.divInt n d).den : Nat) := by
  have fl : ∀ x g : Int, 0 ≤ g → x.fdiv (-g) = -x / g := fun x g hg => by
    rw [← fdiv_pos hg]
    conv => lhs; rw [← Int.neg_neg x]
    exact Int.neg_fdiv_neg (-x) g
  rw [Rat.num_divInt, Rat.den_divInt, if_neg (by omega), fl _ _ (by omega), fl _ _ (by omega), Int.sign_eq_neg_one_of_neg h, Int.neg_mul, Int.one_mul, Int.gcd_comm d n]
  refine ⟨rfl, ?_⟩
  rw [Int.natCast_ediv, show ((d.natAbs : Nat) : Int) = -d by omega]
theorem fr_ok {n d : Int} (h0 : d ≠ 0) : ((Int.gcd n d : Nat) : Int) ≠ 0 ∧ (-(Int.gcd n d : Nat) : Int) ≠ 0 := by
  have b : 0 < Int.gcd n d := Int.gcd_pos_of_ne_zero_right n h0
  omega
theorem p_fraction : ∀ ds S Q XX, Closed S → a_fr ds S Q XX → w_fraction a_gcd (endOf Q S.length) (startD ["n", "d", "g"] ds) S (GivesX XX S.length) := by
  intro ds S Q XX hC q0
  obtain ⟨n, d, rfl, h0, q⟩ := fr_args q0
  obtain ⟨k1, k2⟩ := fr_ok (n := n) h0
  unfold w_fraction
  walk_at "ax"
  simp only [a_gcd]
  walk_at "ax"
  split
  · rename_i h
    obtain ⟨e1, e2⟩ := fr_neg (n := n) h
    walk_at "ax"
    rw [e1, e2]
    exact ⟨k2, k2, gives_now q⟩
  · obtain ⟨e1, e2⟩ := fr_pos (n := n) (show 0 < d by omega)
    walk_at "ax"
    rw [e1, e2]
    exact ⟨k1, k1, gives_now q⟩
theorem p_lfraction : ∀ ds S Q XX, Closed S → a_fr ds S Q XX → w__law_fraction a_gcd (endOf Q S.length) (startD ["n", "m", "g"] ds) S (GivesX XX S.length) := by
  intro ds S Q XX hC q0
  obtain ⟨n, d, rfl, h0, q⟩ := fr_args q0
  obtain ⟨k1, k2⟩ := fr_ok (n := n) h0
  unfold w__law_fraction
  walk_at "ax"
  simp only [a_gcd]
  walk_at "ax"
  split
  · rename_i h
    obtain ⟨e1, e2⟩ := fr_neg (n := n) h
    walk_at "ax"
    rw [Int.zero_sub, e1, e2]
    exact ⟨k2, k2, gives_now q⟩
  · obtain ⟨e1, e2⟩ := fr_pos (n := n) (show 0 < d by omega)
    walk_at "ax"
    rw [e1, e2]
    exact ⟨k1, k1, gives_now q⟩
/-! ### base domains: the integers, the fractions, the integers modulo n + 2 -/
inductive Bk where
  | z | q | f (n : Nat)
@[reducible] def Bk.T : Bk → Type
  | .z => Int
  | .q => Rat
  | .f n => Fin (n + 2)
instance Bk.ring : (b : Bk) → Lean.Grind.CommRing b.T
  | .z => inferInstanceAs (Lean.Grind.CommRing Int)
  | .q => inferInstanceAs (Lean.Grind.CommRing Rat)
  | .f n => inferInstanceAs (Lean.Grind.CommRing (Fin (n + 2)))
instance Bk.deq : (b : Bk) → DecidableEq b.T
  | .z => inferInstanceAs (DecidableEq Int)
  | .q => inferInstanceAs (DecidableEq Rat)
  | .f n => inferInstanceAs (DecidableEq (Fin (n + 2)))
def Bk.dom : Bk → D
  | .z => .tup [.str "Z"]
  | .q => .tup [.str "Q"]
  | .f n => .tup [.str "F", .int (n + 2 : Nat)]
def Bk.enc : (b : Bk) → b.T → D
  | .z, x => .int x
  | .q, x => qe x
  | .f _, x => .int (x.val : Nat)
/-- p is not too large -/
def Bk.ok : Bk → Prop
  | .f n => n < 2 ^ 20
  | _ => True
theorem qe_inj {x y : Rat} (h : qe x = qe y) : x = y := by
  unfold qe at h
  injection h with h
  injection h with h1 h2
  injection h2 with h3 h4
  injection h1 with h1
  injection h3 with h3
  exact Rat.ext h1 (by omega)
theorem Bk.enc_inj : (b : Bk) → {x y : b.T} → b.enc x = b.enc y → x = y
  | .z, x, y, h => by injection h
  | .q, x, y, h => qe_inj h
  | .f n, x, y, h => by
    injection h with h
    exact Fin.ext (by omega)
theorem Bk.enc_cl : (b : Bk) → (x : b.T) → (b.enc x).cl 1 = true
  | .z, x => rfl
  | .q, x => rfl
  | .f n, x => rfl
/-- x is c / D, c not above N -/
def Bk.sz : (b : Bk) → (D N : Nat) → b.T → Prop
  | .z, _, N, x => x.natAbs ≤ N
  | .q, D, N, x => ∃ c : Int, x * ((D : Nat) : Rat) = (c : Rat) ∧ c.natAbs ≤ N
  | .f _, _, _, _ => True
theorem szq_parts {D N : Nat} {x : Rat} (hD : 0 < D) (h : Bk.sz .q D N x) : x.den ∣ D ∧ x.num.natAbs ≤ N := by
  obtain ⟨c, hc, hN⟩ := h
  have e : x.num * (D : Int) = c * (x.den : Nat) := by
    have hx : x = (x.num : Rat) / ((x.den : Nat) : Rat) := by rw [← Rat.mkRat_eq_div, Rat.mkRat_self]
    have d0 : ((x.den : Nat) : Rat) ≠ 0 := by
      intro z
      exact x.den_nz (Rat.natCast_eq_zero_iff.mp z)
    have e1 : x * ((x.den : Nat) : Rat) = (x.num : Rat) := by
      have h1 : (x.num : Rat) / ((x.den : Nat) : Rat) * ((x.den : Nat) : Rat) = (x.num : Rat) := Rat.div_mul_cancel d0
      rwa [← hx] at h1
    have e2 : (x.num : Rat) * ((D : Nat) : Rat) = (c : Rat) * ((x.den : Nat) : Rat) := by rw [← e1, ← hc]; grind
    have e3 : ((x.num * (D : Int) : Int) : Rat) = ((c * ((x.den : Nat) : Int) : Int) : Rat) := by
      rw [Rat.intCast_mul, Rat.intCast_mul, Rat.intCast_natCast, Rat.intCast_natCast]
      exact e2
    exact Rat.intCast_inj.mp e3
  have dv : x.den ∣ D := by
    have h1 : x.den ∣ x.num.natAbs * D := by
      have := congrArg Int.natAbs e
      rw [Int.natAbs_mul, Int.natAbs_mul, Int.natAbs_natCast, Int.natAbs_natCast] at this
      rw [this]
      exact Nat.dvd_mul_left _ _
    exact (Nat.Coprime.dvd_of_dvd_mul_left (Nat.Coprime.symm x.reduced) h1)
  refine ⟨dv, ?_⟩
  have le := Nat.le_of_dvd hD dv
  have e2 : x.num.natAbs * D = c.natAbs * x.den := by
    have := congrArg Int.natAbs e
    rwa [Int.natAbs_mul, Int.natAbs_mul, Int.natAbs_natCast, Int.natAbs_natCast] at this
  have e3 : x.num.natAbs * D ≤ c.natAbs * D := by rw [e2]; exact Nat.mul_le_mul_left _ le
  exact Nat.le_trans (Nat.le_of_mul_le_mul_right e3 hD) hN
theorem Bk.sz_add {D N N' : Nat} : {b : Bk} → {x y : b.T} → b.sz D N x → b.sz D N' y → b.sz D (N + N') (x + y)
  | .z, x, y, h, g => by
    have h : x.natAbs ≤ N := h
    have g : y.natAbs ≤ N' := g
    show (Int.add x y).natAbs ≤ N + N'
    have : Int.add x y = x + y := rfl
    rw [this]
    omega
  | .q, x, y, ⟨c, hc, hN⟩, ⟨c', hc', hN'⟩ => by
    refine ⟨c + c', ?_, by omega⟩
    rw [Rat.intCast_add, ← hc, ← hc']
    exact Rat.add_mul x y _
  | .f n, x, y, _, _ => trivial
theorem Bk.sz_mul {D D' N N' : Nat} : {b : Bk} → {x y : b.T} → b.sz D N x → b.sz D' N' y → b.sz (D * D') (N * N') (x * y)
  | .z, x, y, h, g => by
    have h : x.natAbs ≤ N := h
    have g : y.natAbs ≤ N' := g
    show (Int.mul x y).natAbs ≤ N * N'
    have : Int.mul x y = x * y := rfl
    rw [this, Int.natAbs_mul]
    exact Nat.mul_le_mul h g
  | .q, x, y, ⟨c, hc, hN⟩, ⟨c', hc', hN'⟩ => by
    refine ⟨c * c', ?_, ?_⟩
    · rw [Rat.intCast_mul, ← hc, ← hc', Rat.natCast_mul]
      show Rat.mul x y * _ = _
      have : Rat.mul x y = x * y := rfl
      rw [this]
      grind
    · rw [Int.natAbs_mul]
      exact Nat.mul_le_mul hN hN'
  | .f n, x, y, _, _ => trivial
theorem Bk.sz_neg {D N : Nat} : {b : Bk} → {x : b.T} → b.sz D N x → b.sz D N (-x)
  | .z, x, h => by
    show (Int.neg x).natAbs ≤ N
    have h : x.natAbs ≤ N := h
    have : Int.neg x = -x := rfl
    rw [this]
    omega
  | .q, x, ⟨c, hc, hN⟩ => by
    refine ⟨-c, ?_, by omega⟩
    rw [Rat.intCast_neg, ← hc]
    exact Rat.neg_mul x _
  | .f n, x, _ => trivial
theorem Bk.sz_mono {D N N' : Nat} (h : N ≤ N') : {b : Bk} → {x : b.T} → b.sz D N x → b.sz D N' x
  | .z, x, g => Nat.le_trans g h
  | .q, x, ⟨c, hc, hN⟩ => ⟨c, hc, Nat.le_trans hN h⟩
  | .f n, x, _ => trivial
theorem Bk.sz_wide {D N : Nat} (k : Nat) (hk : 0 < k) : {b : Bk} → {x : b.T} → b.sz D N x → b.sz (D * k) (N * k) x
  | .z, x, g => Nat.le_trans g (Nat.le_mul_of_pos_right N hk)
  | .q, x, ⟨c, hc, hN⟩ => by
    refine ⟨c * k, ?_, ?_⟩
    · rw [Rat.intCast_mul, ← hc, Rat.natCast_mul, Rat.intCast_natCast]
      grind
    · rw [Int.natAbs_mul, Int.natAbs_natCast]
      exact Nat.mul_le_mul_right k hN
  | .f n, x, _ => trivial
theorem Bk.sz_zero {D : Nat} : {b : Bk} → b.sz D 0 (0 : b.T)
  | .z => Nat.le_refl 0
  | .q => ⟨0, Rat.zero_mul _, Nat.le_refl 0⟩
  | .f _ => trivial
theorem Bk.sz_one : {b : Bk} → b.sz 1 1 (1 : b.T)
  | .z => Nat.le_refl 1
  | .q => ⟨1, Rat.one_mul _, Nat.le_refl 1⟩
  | .f _ => trivial
/-! ### domains: base ones and polynomials over them -/
inductive Dk where
  | b (k : Bk) | p (k : Bk)
@[reducible] def Dk.E : Dk → Type
  | .b k => k.T
  | .p k => { l : List k.T // Ser.nt l }
@[reducible] def Dk.R : Dk → Type
  | .b k => k.T
  | .p k => Ser k.T
instance Dk.ring : (k : Dk) → Lean.Grind.CommRing k.R
  | .b k => inferInstanceAs (Lean.Grind.CommRing k.T)
  | .p k => inferInstanceAs (Lean.Grind.CommRing (Ser k.T))
def Dk.dom : Dk → D
  | .b k => k.dom
  | .p k => .tup [.str "P", k.dom]
def Dk.val : (k : Dk) → k.E → k.R
  | .b _, x => x
  | .p _, l => Ser.of l.1
def pe (k : Bk) (l : List k.T) : D := .tup (l.map k.enc)
def Dk.enc : (k : Dk) → k.E → D
  | .b k, x => k.enc x
  | .p k, l => pe k l.1
theorem Dk.val_inj : (k : Dk) → {x y : k.E} → k.val x = k.val y → x = y
  | .b _, x, y, h => h
  | .p k, ⟨x, hx⟩, ⟨y, hy⟩, h => Subtype.ext (Ser.nt_inj hx hy h)
theorem map_inj {α β : Type} {f : α → β} (hf : ∀ x y, f x = f y → x = y) : ∀ {l r : List α}, l.map f = r.map f → l = r
  | [], [], _ => rfl
  | [], _ :: _, h => by simp at h
  | _ :: _, [], h => by simp at h
  | a :: l, b :: r, h => by
    rw [List.map_cons, List.map_cons, List.cons.injEq] at h
    rw [hf _ _ h.1, map_inj hf h.2]
theorem pe_inj {k : Bk} {l r : List k.T} (h : pe k l = pe k r) : l = r := by
  injection h with h
  exact map_inj (fun _ _ => k.enc_inj) h
theorem Dk.enc_inj : (k : Dk) → {x y : k.E} → k.enc x = k.enc y → x = y
  | .b k, x, y, h => k.enc_inj h
  | .p k, x, y, h => Subtype.ext (pe_inj h)
theorem pe_cl {k : Bk} (l : List k.T) : (pe k l).cl 2 = true := by
  unfold pe
  rw [D.cl, List.all_eq_true]
  intro d hd
  obtain ⟨x, _, rfl⟩ := List.mem_map.mp hd
  exact k.enc_cl x
theorem D.cl_up : ∀ (n : Nat) (d : D), d.cl n = true → d.cl (n + 1) = true := by
  intro n
  induction n with
  | zero => intro d h; cases d <;> first | rfl | exact h | cases h
  | succ n ih =>
    intro d h
    cases d with
    | tup ds => rw [D.cl, List.all_eq_true] at h ⊢; exact fun x hx => ih x (h x hx)
    | fl ds => rw [D.cl, List.all_eq_true] at h ⊢; exact fun x hx => ih x (h x hx)
    | _ => first | rfl | exact h | cases h
theorem Dk.enc_cl : (k : Dk) → (x : k.E) → (k.enc x).cl 2 = true
  | .b k, x => D.cl_up _ _ (k.enc_cl x)
  | .p k, x => pe_cl x.1
/-- small enough to count with -/
def Bk.Ok : (k : Bk) → k.T → Prop
  | .z, x => x.natAbs < 2 ^ 50000000
  | .q, x => x.num.natAbs < 2 ^ 50000000 ∧ x.den < 2 ^ 50000000
  | .f n, _ => n < 2 ^ 20
theorem Bk.Ok_of {D N : Nat} (hD : 0 < D) (hD2 : D < 2 ^ 50000000) (hN : N < 2 ^ 50000000) : {k : Bk} → k.ok → {x : k.T} → k.sz D N x → k.Ok x
  | .z, _, x, h => Nat.lt_of_le_of_lt h hN
  | .q, _, x, h => by
    obtain ⟨a, b⟩ := szq_parts hD h
    exact ⟨Nat.lt_of_le_of_lt b hN, Nat.lt_of_le_of_lt (Nat.le_of_dvd hD a) hD2⟩
  | .f n, hk, x, h => hk
theorem Bk.ok_of : {k : Bk} → {x : k.T} → k.Ok x → k.ok
  | .z, _, _ => trivial
  | .q, _, _ => trivial
  | .f _, _, h => h
def Dk.Ok : (k : Dk) → k.E → Prop
  | .b k, x => k.Ok x
  | .p k, l => k.ok ∧ l.1.length < 2 ^ 20 ∧ ∀ x ∈ l.1, k.Ok x
/-- few coefficients -/
def Dk.Len : (k : Dk) → k.E → Prop
  | .b _, _ => True
  | .p _, l => l.1.length < 2 ^ 20
/-! ### zero -/
def a_zero : ASp := fun ds S Q _ => ∃ k : Dk, ds = [k.dom] ∧ ∀ z : k.E, k.val z = 0 → Q (k.enc z) S
theorem len_zero : ∀ ds S Q XX, a_zero ds S Q XX → ds.length = 1 := by rintro ds S Q XX ⟨k, rfl, _⟩; rfl
theorem len_lzero : ∀ ds S Q XX, a_zero ds S Q XX → ds.length = 1 := len_zero
theorem Dk.nil_val {k : Bk} : (Dk.p k).val ⟨[], Ser.nt_nil⟩ = 0 := Ser.of_nil
theorem p_zero : ∀ ds S Q XX, Closed S → a_zero ds S Q XX → w_zero (endOf Q S.length) (startD ["d"] ds) S (GivesX XX S.length) := by
  rintro ds S Q XX hC ⟨k, rfl, q⟩
  unfold w_zero
  cases k with
  | b k =>
    cases k with
    | z =>
      simp only [Dk.dom, Bk.dom]
      walk_at "ax"
      exact gives_now (q (0 : Int) rfl)
    | q =>
      simp only [Dk.dom, Bk.dom]
      walk_at "ax"
      exact gives_now (q (0 : Rat) rfl)
    | f n =>
      simp only [Dk.dom, Bk.dom]
      walk_at "ax"
      exact gives_now (q (0 : Fin (n + 2)) rfl)
  | p k =>
    simp only [Dk.dom]
    walk_at "ax"
    exact gives_now (q ⟨[], Ser.nt_nil⟩ Dk.nil_val)
theorem p_lzero : ∀ ds S Q XX, Closed S → a_zero ds S Q XX → w__law_zero (endOf Q S.length) (startD ["d"] ds) S (GivesX XX S.length) := by
  rintro ds S Q XX hC ⟨k, rfl, q⟩
  unfold w__law_zero
  cases k with
  | b k =>
    cases k with
    | z =>
      simp only [Dk.dom, Bk.dom]
      walk_at "ax"
      exact gives_now (q (0 : Int) rfl)
    | q =>
      simp only [Dk.dom, Bk.dom]
      walk_at "ax"
      exact gives_now (q (0 : Rat) rfl)
    | f n =>
      simp only [Dk.dom, Bk.dom]
      walk_at "ax"
      exact gives_now (q (0 : Fin (n + 2)) rfl)
  | p k =>
    simp only [Dk.dom]
    walk_at "ax"
    exact gives_now (q ⟨[], Ser.nt_nil⟩ Dk.nil_val)
/-! ### the operations of base domains -/
theorem fin_cast {a n : Nat} : Int.fmod (a : Int) ((n + 2 : Nat) : Int) = ((a % (n + 2) : Nat) : Int) := by
  rw [fmod_pos (by omega), Int.natCast_emod]
theorem small_p {n : Nat} (h : n < 2 ^ 20) : ((n + 2 : Nat) : Int) ≠ 0 ∧ ((n + 2 : Nat) : Int).natAbs < 2 ^ 64 := by omega
def a_add0 : ASp := fun ds S Q _ => ∃ (k : Bk) (x y : k.T), ds = [k.dom, k.enc x, k.enc y] ∧ k.Ok x ∧ k.Ok y ∧ Q (k.enc (x + y)) S
def a_neg0 : ASp := fun ds S Q _ => ∃ (k : Bk) (x : k.T), ds = [k.dom, k.enc x] ∧ Q (k.enc (-x)) S
def a_mul0 : ASp := fun ds S Q _ => ∃ (k : Bk) (x y : k.T), ds = [k.dom, k.enc x, k.enc y] ∧ k.Ok x ∧ k.Ok y ∧ Q (k.enc (x * y)) S
def a_one0 : ASp := fun ds S Q _ => ∃ (k : Bk), ds = [k.dom] ∧ Q (k.enc 1) S
def a_int0 : ASp := fun ds S Q _ => ∃ (k : Bk) (n : Int), ds = [k.dom, .int n] ∧ Q (k.enc (Lean.Grind.Ring.intCast.intCast n)) S
theorem len_add0 : ∀ ds S Q XX, a_add0 ds S Q XX → ds.length = 3 := by rintro ds S Q XX ⟨_, _, _, rfl, _⟩; rfl
theorem len_neg0 : ∀ ds S Q XX, a_neg0 ds S Q XX → ds.length = 2 := by rintro ds S Q XX ⟨_, _, rfl, _⟩; rfl
theorem len_mul0 : ∀ ds S Q XX, a_mul0 ds S Q XX → ds.length = 3 := by rintro ds S Q XX ⟨_, _, _, rfl, _⟩; rfl
theorem len_one0 : ∀ ds S Q XX, a_one0 ds S Q XX → ds.length = 1 := by rintro ds S Q XX ⟨_, rfl, _⟩; rfl
theorem len_int0 : ∀ ds S Q XX, a_int0 ds S Q XX → ds.length = 2 := by rintro ds S Q XX ⟨_, _, rfl, _⟩; rfl
theorem q_add (x y : Rat) : Rat.divInt (x.num * (y.den : Nat) + y.num * (x.den : Nat)) ((x.den : Nat) * (y.den : Nat) : Int) = x + y := by
  rw [Rat.add_def', ← Rat.divInt_ofNat, Int.natCast_mul]
theorem q_mul (x y : Rat) : Rat.divInt (x.num * y.num) ((x.den : Nat) * (y.den : Nat) : Int) = x * y := by
  rw [Rat.mul_def', ← Rat.divInt_ofNat, Int.natCast_mul]
theorem den_ok {a b : Nat} (ha : a ≠ 0) (hb : b ≠ 0) : ((a : Nat) : Int) * (b : Nat) ≠ 0 := by
  have e : ((a : Nat) : Int) * (b : Nat) = ((a * b : Nat) : Int) := (Int.natCast_mul a b).symm
  have := Nat.mul_pos (Nat.pos_of_ne_zero ha) (Nat.pos_of_ne_zero hb)
  rw [e]
  omega
theorem nat_ok {a k : Nat} (h : a < 2 ^ k) : ((a : Nat) : Int).natAbs < 2 ^ k := h
theorem add_base {A2 A3 : ASp} {ds : List D} {S : Sto} {Q : VKD} {XX : XKD} (q : a_add0 ds S Q XX) : w_add a_fr A2 A3 (endOf Q S.length) (startD ["d", "x", "y", "f", "found", "k", "part"] ds) S (GivesX XX S.length) := by
  obtain ⟨k, x, y, rfl, hx, hy, q⟩ := q
  unfold w_add
  cases k with
  | z =>
    simp only [Bk.dom, Bk.enc]
    walk_at "ax"
    exact gives_now q
  | q =>
    simp only [Bk.dom, Bk.enc, qe]
    walk_at "ax"
    refine ⟨mulOk_of hx.1 (nat_ok hy.2) (by decide), mulOk_of hy.1 (nat_ok hx.2) (by decide), mulOk_of (nat_ok hx.2) (nat_ok hy.2) (by decide), ?_⟩
    simp only [a_fr]
    rw [q_add]
    exact ⟨den_ok x.den_nz y.den_nz, gives_now q⟩
  | f n =>
    simp only [Bk.dom, Bk.enc]
    walk_at "ax"
    rw [← Int.natCast_add, fin_cast]
    exact ⟨by omega, gives_now q⟩
theorem p_add0 : ∀ ds S Q XX, Closed S → a_add0 ds S Q XX → w_add a_fr aspNo aspNo (endOf Q S.length) (startD ["d", "x", "y", "f", "found", "k", "part"] ds) S (GivesX XX S.length) := fun _ _ _ _ _ q => add_base q
theorem neg_fin {n : Nat} (x : Fin (n + 2)) : ((-x : Fin (n + 2)).val : Int) = Int.fmod (-(x.val : Int)) ((n + 2 : Nat) : Int) := by
  rw [fmod_pos (by omega), Fin.val_neg]
  split
  · rename_i h
    rw [h]; simp
  · rename_i h
    have h1 : x.val ≠ 0 := fun z => h (Fin.ext z)
    have h2 := x.isLt
    rw [show (-(x.val : Int)) = ((n + 2 - x.val : Nat) : Int) + ((n + 2 : Nat) : Int) * (-1) by omega, Int.add_mul_emod_self_left, Int.emod_eq_of_lt (by omega) (by omega)]
theorem mul_base {A2 A3 A4 A5 : ASp} {ds : List D} {S : Sto} {Q : VKD} {XX : XKD} (q : a_mul0 ds S Q XX) : w_multiply a_fr A2 A3 A4 A5 (endOf Q S.length) (startD ["d", "x", "y", "f", "found", "i", "left", "j", "right", "k"] ds) S (GivesX XX S.length) := by
  obtain ⟨k, x, y, rfl, hx, hy, q⟩ := q
  unfold w_multiply
  cases k with
  | z =>
    simp only [Bk.dom, Bk.enc]
    walk_at "ax"
    exact ⟨mulOk_of hx hy (by decide), gives_now q⟩
  | q =>
    simp only [Bk.dom, Bk.enc, qe]
    walk_at "ax"
    refine ⟨mulOk_of hx.1 hy.1 (by decide), mulOk_of (nat_ok hx.2) (nat_ok hy.2) (by decide), ?_⟩
    simp only [a_fr]
    rw [q_mul]
    exact ⟨den_ok x.den_nz y.den_nz, gives_now q⟩
  | f n =>
    have hn : n < 2 ^ 20 := hx
    have := x.isLt
    simp only [Bk.dom, Bk.enc]
    walk_at "ax"
    rw [← Int.natCast_mul, fin_cast]
    exact ⟨mulOk_small (.inl (by omega)), by omega, gives_now q⟩
theorem p_mul0 : ∀ ds S Q XX, Closed S → a_mul0 ds S Q XX → w_multiply a_fr aspNo aspNo aspNo aspNo (endOf Q S.length) (startD ["d", "x", "y", "f", "found", "i", "left", "j", "right", "k"] ds) S (GivesX XX S.length) := fun _ _ _ _ _ q => mul_base q
theorem int_fin {n : Nat} (i : Int) : Int.fmod i ((n + 2 : Nat) : Int) = (((Lean.Grind.Ring.intCast.intCast i : Fin (n + 2)).val : Nat) : Int) := by
  rw [fmod_pos (by omega)]
  show _ = (((Fin.intCast i : Fin (n + 2)).val : Nat) : Int)
  unfold Fin.intCast
  split
  · rename_i h
    show _ = ((i.natAbs % (n + 2) : Nat) : Int)
    rw [Int.natCast_emod, show ((i.natAbs : Nat) : Int) = i by omega]
  · rename_i h
    rw [neg_fin, fmod_pos (by omega)]
    show _ = -((i.natAbs % (n + 2) : Nat) : Int) % _
    rw [Int.natCast_emod, show ((i.natAbs : Nat) : Int) = -i by omega]
    have e := Int.emod_add_mul_ediv (-i) ((n + 2 : Nat) : Int)
    rw [show -(-i % ((n + 2 : Nat) : Int)) = i + ((n + 2 : Nat) : Int) * (-i / ((n + 2 : Nat) : Int)) by omega, Int.add_mul_emod_self_left]
theorem int_base {A1 A2 : ASp} {ds : List D} {S : Sto} {Q : VKD} {XX : XKD} (q : a_int0 ds S Q XX) : w_from_integer A1 A2 (endOf Q S.length) (startD ["d", "n"] ds) S (GivesX XX S.length) := by
  obtain ⟨k, n, rfl, q⟩ := q
  unfold w_from_integer
  cases k with
  | z =>
    simp only [Bk.dom]
    walk_at "ax"
    exact gives_now q
  | q =>
    simp only [Bk.dom]
    walk_at "ax"
    exact gives_now q
  | f m =>
    simp only [Bk.dom]
    walk_at "ax"
    rw [int_fin]
    exact ⟨by omega, gives_now q⟩
theorem p_int0 : ∀ ds S Q XX, Closed S → a_int0 ds S Q XX → w_from_integer aspNo aspNo (endOf Q S.length) (startD ["d", "n"] ds) S (GivesX XX S.length) := fun _ _ _ _ _ q => int_base q
/-! ### the last cell -/
theorem last_cell (S : Sto) (c : Cel) : (S ++ [c])[S.length]? = some c := by rw [List.getElem?_append_right (Nat.le_refl _), Nat.sub_self]; rfl
theorem last_set (S : Sto) (c c' : Cel) : (S ++ [c]).set S.length c' = S ++ [c'] := by rw [List.set_append_right _ _ (Nat.le_refl _), Nat.sub_self]; rfl
theorem items_ref {S : Sto} {n : Nat} {ds : List D} (h : S[n]? = some (.lst ds)) : items S (.ref n) = some ds := by simp only [items, itemsL, h]
theorem map_get {α β : Type} {f : α → β} {xs : List α} {i : Nat} {d : β} (h : (xs.map f)[i]? = some d) : ∃ x, xs[i]? = some x ∧ d = f x := by
  rw [List.getElem?_map] at h
  cases e : xs[i]? with
  | none => rw [e] at h; cases h
  | some x => rw [e] at h; cases h; exact ⟨x, rfl, rfl⟩
theorem get_mem {α : Type} {xs : List α} {i : Nat} {x : α} (h : xs[i]? = some x) : x ∈ xs := List.mem_of_getElem? h
/-! ### trimmed -/
theorem Ser.trim_take {T : Type} [Lean.Grind.CommRing T] [DecidableEq T] {l : List T} {m : Nat} (hm : m ≤ l.length) (h0 : ∀ j, m ≤ j → Ser.cf l j = 0) (h1 : m = 0 ∨ Ser.cf l (m - 1) ≠ 0) : Ser.trim l = l.take m := by
  refine Ser.nt_eq (Ser.nt_trim l) ?_ fun i => ?_
  · intro a ha
    rcases h1 with rfl | h1
    · rw [List.take_zero] at ha; cases ha
    · rcases Nat.eq_zero_or_pos m with rfl | hp
      · rw [List.take_zero] at ha; cases ha
      · rw [List.getLast?_eq_getElem?, List.length_take, Nat.min_eq_left hm, List.getElem?_take_of_lt (by omega)] at ha
        rwa [Ser.cf_lt ha] at h1
  · rw [Ser.cf_trim]
    rcases Nat.lt_or_ge i m with x | x
    · unfold Ser.cf
      rw [List.getElem?_take_of_lt x]
    · rw [h0 i x, Ser.cf_ge (by rw [List.length_take]; omega)]
def a_trim : ASp := fun ds S Q _ => ∃ (k : Bk) (l : List k.T) (x : D), ds = [k.dom, x] ∧ items S x = some (l.map k.enc) ∧ Q (pe k (Ser.trim l)) S
theorem len_trim : ∀ ds S Q XX, a_trim ds S Q XX → ds.length = 2 := by rintro ds S Q XX ⟨_, _, _, rfl, _⟩; rfl
theorem len_trimmed : ∀ ds S Q XX, a_trim ds S Q XX → ds.length = 2 := len_trim
theorem len_strip : ∀ ds S Q XX, a_trim ds S Q XX → ds.length = 2 := len_trim
theorem at_map {α : Type} {f : α → D} {l : List α} {i : Nat} {a : α} (h : l[i]? = some a) : L2.atI (l.map f) (i : Nat) = some (f a) := atI_of (by omega) (by rw [List.getElem?_map, Int.toNat_natCast, h]; rfl)
theorem enc_zero_iff {k : Bk} {a : k.T} : k.enc a = k.enc 0 ↔ a = 0 := ⟨fun h => k.enc_inj h, fun h => by rw [h]⟩
theorem p_trimmed : ∀ ds S Q XX, Closed S → a_trim ds S Q XX → w_trimmed a_zero (endOf Q S.length) (startD ["f", "coefficients", "many"] ds) S (GivesX XX S.length) := by
  rintro ds S Q XX hC ⟨k, l, x, rfl, hx, q⟩
  unfold w_trimmed
  walk_at "ax"
  rw [itm_len hx]
  walk_at "ax"
  let P : Nat → ASt → Sto → Prop := fun v σ S' => S = S' ∧ ∃ m : Nat, m ≤ l.length ∧ (∀ j, m ≤ j → Ser.cf l j = 0) ∧ m = v ∧ σ = [some k.dom, some x, some (.int (m : Nat))]
  refine whl_cut P l.length ⟨rfl, l.length, Nat.le_refl _, fun j hj => Ser.cf_ge hj, rfl, rfl⟩ ?_
  rintro v σ S' R ⟨rfl, m, hm, h0, rfl, rfl⟩ hR
  have fin : (m = 0 ∨ Ser.cf l (m - 1) ≠ 0) → AW.Gives Q S.length (.tup (cutL (l.map k.enc) none (some (m : Nat)))) S := fun h1 => by
    rw [cutL_to _ (by omega) (by rw [List.length_map]; omega), Int.toNat_natCast, ← List.map_take, ← Ser.trim_take hm h0 h1]
    exact gives_now q
  walk_at "ax"
  split
  · rename_i hpos
    obtain ⟨i, rfl⟩ : ∃ i, m = i + 1 := ⟨m - 1, by omega⟩
    have ha : l[i]? = some l[i] := List.getElem?_eq_getElem (by omega)
    generalize l[i] = a at ha
    walk_at "ax"
    rw [show ((i + 1 : Nat) : Int) - 1 = ((i : Nat) : Int) by omega, itm_ix hx, atQ_of (at_map ha)]
    walk_at "ax"
    refine ⟨.b k, rfl, fun z hz => ?_⟩
    have hz : z = 0 := hz
    subst hz
    walk_at "ax"
    refine fEq_cl (Bk.enc_cl k a) (Bk.enc_cl k 0) enc_zero_iff ?_
    walk_at "ax"
    split
    · rename_i e
      walk_at "ax"
      rw [show ((i + 1 : Nat) : Int) - 1 = ((i : Nat) : Int) by omega]
      refine hR _ _ _ (Nat.lt_succ_self i) ⟨rfl, i, by omega, fun j hj => ?_, rfl, rfl⟩
      rcases Nat.lt_or_ge i j with z | z
      · exact h0 j z
      · have : j = i := by omega
        subst this
        rw [Ser.cf_lt ha]; exact e
    · rename_i e
      walk_at "ax"
      have f := fin (.inr (by rw [Nat.add_sub_cancel, Ser.cf_lt ha]; exact e))
      exact Eq.mpr (itm_cut (lo := none) (hi := some ((i + 1 : Nat) : Int)) (Q := AW.Gives Q S.length) (X := GivesX XX S.length) hx) f
  · rename_i hpos
    have m0 : m = 0 := by omega
    subst m0
    walk_at "ax"
    have f := fin (.inl rfl)
    exact Eq.mpr (itm_cut (lo := none) (hi := some ((0 : Nat) : Int)) (Q := AW.Gives Q S.length) (X := GivesX XX S.length) hx) f
theorem p_strip : ∀ ds S Q XX, Closed S → a_trim ds S Q XX → w__law_strip a_zero (endOf Q S.length) (startD ["f", "parts", "many"] ds) S (GivesX XX S.length) := by
  rintro ds S Q XX hC ⟨k, l, x, rfl, hx, q⟩
  unfold w__law_strip
  walk_at "ax"
  rw [itm_len hx]
  walk_at "ax"
  let P : Nat → ASt → Sto → Prop := fun v σ S' => S = S' ∧ ∃ m : Nat, m ≤ l.length ∧ (∀ j, m ≤ j → Ser.cf l j = 0) ∧ m = v ∧ σ = [some k.dom, some x, some (.int (m : Nat))]
  refine whl_cut P l.length ⟨rfl, l.length, Nat.le_refl _, fun j hj => Ser.cf_ge hj, rfl, rfl⟩ ?_
  rintro v σ S' R ⟨rfl, m, hm, h0, rfl, rfl⟩ hR
  have fin : (m = 0 ∨ Ser.cf l (m - 1) ≠ 0) → AW.Gives Q S.length (.tup (cutL (l.map k.enc) none (some (m : Nat)))) S := fun h1 => by
    rw [cutL_to _ (by omega) (by rw [List.length_map]; omega), Int.toNat_natCast, ← List.map_take, ← Ser.trim_take hm h0 h1]
    exact gives_now q
  walk_at "ax"
  split
  · rename_i hpos
    obtain ⟨i, rfl⟩ : ∃ i, m = i + 1 := ⟨m - 1, by omega⟩
    have ha : l[i]? = some l[i] := List.getElem?_eq_getElem (by omega)
    generalize l[i] = a at ha
    walk_at "ax"
    rw [show ((i + 1 : Nat) : Int) - 1 = ((i : Nat) : Int) by omega, itm_ix hx, atQ_of (at_map ha)]
    walk_at "ax"
    refine ⟨.b k, rfl, fun z hz => ?_⟩
    have hz : z = 0 := hz
    subst hz
    walk_at "ax"
    refine fEq_cl (Bk.enc_cl k a) (Bk.enc_cl k 0) enc_zero_iff ?_
    walk_at "ax"
    split
    · rename_i e
      walk_at "ax"
      rw [show ((i + 1 : Nat) : Int) - 1 = ((i : Nat) : Int) by omega]
      refine hR _ _ _ (Nat.lt_succ_self i) ⟨rfl, i, by omega, fun j hj => ?_, rfl, rfl⟩
      rcases Nat.lt_or_ge i j with z | z
      · exact h0 j z
      · have : j = i := by omega
        subst this
        rw [Ser.cf_lt ha]; exact e
    · rename_i e
      walk_at "ax"
      have f := fin (.inr (by rw [Nat.add_sub_cancel, Ser.cf_lt ha]; exact e))
      exact Eq.mpr (itm_cut (lo := none) (hi := some ((i + 1 : Nat) : Int)) (Q := AW.Gives Q S.length) (X := GivesX XX S.length) hx) f
  · rename_i hpos
    have m0 : m = 0 := by omega
    subst m0
    walk_at "ax"
    have f := fin (.inl rfl)
    exact Eq.mpr (itm_cut (lo := none) (hi := some ((0 : Nat) : Int)) (Q := AW.Gives Q S.length) (X := GivesX XX S.length) hx) f
/-! ### adding lists of coefficients -/
section
variable {T : Type} [Lean.Grind.CommRing T]
/-- x with the first i coefficients of y added -/
def addTo (x y : List T) (i : Nat) : List T := x.mapIdx fun j a => if j < i then a + Ser.cf y j else a
theorem addTo_len (x y : List T) (i : Nat) : (addTo x y i).length = x.length := List.length_mapIdx
theorem addTo_get (x y : List T) (i j : Nat) : (addTo x y i)[j]? = x[j]?.map fun a => if j < i then a + Ser.cf y j else a := List.getElem?_mapIdx
theorem addTo_zero (x y : List T) : addTo x y 0 = x := by
  apply List.ext_getElem?
  intro j
  rw [addTo_get]
  cases x[j]? with
  | none => rfl
  | some a => rw [Option.map_some, if_neg (by omega)]
theorem addTo_step {x y : List T} {i : Nat} {a b : T} (hx : x[i]? = some a) (hy : y[i]? = some b) : (addTo x y i).set i (a + b) = addTo x y (i + 1) := by
  apply List.ext_getElem?
  intro j
  rw [List.getElem?_set]
  have hi : i < x.length := (List.getElem?_eq_some_iff.mp hx).1
  split
  · rename_i e
    subst e
    rw [if_pos (by rw [addTo_len]; exact hi), addTo_get, hx, Option.map_some, if_pos (by omega), Ser.cf_lt hy]
  · rename_i e
    rw [addTo_get, addTo_get]
    cases x[j]? with
    | none => rfl
    | some c =>
      rw [Option.map_some, Option.map_some]
      by_cases h : j < i
      · rw [if_pos h, if_pos (by omega)]
      · rw [if_neg h, if_neg (by omega)]
theorem addTo_of {x y : List T} (h : y.length ≤ x.length) : Ser.of (addTo x y y.length) = Ser.of x + Ser.of y := Ser.ext fun j => by
  rw [Ser.c_add]
  show Ser.cf _ j = Ser.cf x j + Ser.cf y j
  cases e : x[j]? with
  | none =>
    have hj := List.getElem?_eq_none_iff.mp e
    rw [Ser.cf_ge (by rw [addTo_len]; exact hj), Ser.cf_ge hj, Ser.cf_ge (show y.length ≤ j by omega)]
    grind
  | some a =>
    have e2 : (addTo x y y.length)[j]? = some (if j < y.length then a + Ser.cf y j else a) := by rw [addTo_get, e]; rfl
    rw [Ser.cf_lt e2, Ser.cf_lt e]
    split
    · rfl
    · rw [Ser.cf_ge (show y.length ≤ j by omega)]
      grind
end
def a_add : ASp := fun ds S Q _ => ∃ (k : Dk) (x y : k.E), ds = [k.dom, k.enc x, k.enc y] ∧ k.Ok x ∧ k.Ok y ∧ ∀ z : k.E, k.val z = k.val x + k.val y → Q (k.enc z) S
theorem len_add : ∀ ds S Q XX, a_add ds S Q XX → ds.length = 3 := by rintro ds S Q XX ⟨_, _, _, rfl, _⟩; rfl
theorem p_add : ∀ ds S Q XX, Closed S → a_add ds S Q XX → w_add a_fr a_add0 a_trim (endOf Q S.length) (startD ["d", "x", "y", "f", "found", "k", "part"] ds) S (GivesX XX S.length) := by
  rintro ds S Q XX hC ⟨k, x, y, rfl, hx, hy, q⟩
  cases k with
  | b k => exact add_base ⟨k, x, y, rfl, hx, hy, q _ rfl⟩
  | p k =>
    obtain ⟨x, nx⟩ := x
    obtain ⟨y, ny⟩ := y
    unfold w_add
    simp only [Dk.dom, Dk.enc, pe]
    refine seq_same ?_ fun R hR => by walk_at "ax"; exact hR
    refine seq_same ?_ fun R hR => by walk_at "ax"; exact hR
    refine seq_same ?_ fun R hR => by walk_at "ax"; exact hR
    refine seq_to [some (.tup [.str "P", k.dom]), some (.tup (x.map k.enc)), some (.tup (y.map k.enc)), some k.dom, none, none, none] S ?_ fun R hR => by walk_at "ax"; exact hR
    refine seq_cut (fun σ S' => S = S' ∧ ∃ x' y' : List k.T, y'.length ≤ x'.length ∧ Ser.of x' + Ser.of y' = Ser.of x + Ser.of y ∧ (∀ a ∈ x', k.Ok a) ∧ (∀ a ∈ y', k.Ok a) ∧
      σ = [some (.tup [.str "P", k.dom]), some (.tup (x'.map k.enc)), some (.tup (y'.map k.enc)), some k.dom, none, none, none]) ?_ ?_
    rotate_left
    · intro R hR
      walk_at "ax"
      split
      · walk_at "ax"
        exact hR _ _ ⟨rfl, y, x, by omega, by grind, hy.2.2, hx.2.2, rfl⟩
      · walk_at "ax"
        exact hR _ _ ⟨rfl, x, y, by omega, rfl, hx.2.2, hy.2.2, rfl⟩
    rintro _ _ ⟨rfl, x', y', hlen, hsum, ox, oy, rfl⟩
    refine seq_to [some (.tup [.str "P", k.dom]), some (.tup (x'.map k.enc)), some (.tup (y'.map k.enc)), some k.dom, some (.ref S.length), none, none] (S ++ [.lst (x'.map k.enc)]) ?_ fun R hR => by walk_at "ax"; exact hR
    refine seq_cut (fun σ S' => S' = S ++ [.lst ((addTo x' y' y'.length).map k.enc)] ∧ ∃ a b, σ = [some (.tup [.str "P", k.dom]), some (.tup (x'.map k.enc)), some (.tup (y'.map k.enc)), some k.dom, some (.ref S.length), a, b]) ?_ ?_
    rotate_left
    · intro R hR
      walk_at "ax"
      refine enum_cut (y'.map k.enc) (fun i σ S' => S' = S ++ [.lst ((addTo x' y' i).map k.enc)] ∧ ∃ a b, σ = [some (.tup [.str "P", k.dom]), some (.tup (x'.map k.enc)), some (.tup (y'.map k.enc)), some k.dom, some (.ref S.length), a, b]) ⟨by rw [addTo_zero], none, none, rfl⟩ ?_ ?_
      · rintro i d σ S' R2 hd ⟨rfl, a, b, rfl⟩ hR2
        obtain ⟨c, hc, rfl⟩ := map_get hd
        have hi : i < y'.length := (List.getElem?_eq_some_iff.mp hc).1
        have ha : x'[i]? = some x'[i] := List.getElem?_eq_getElem (by omega)
        generalize x'[i] = e at ha
        have hg : (addTo x' y' i)[i]? = some e := by rw [addTo_get, ha, Option.map_some, if_neg (Nat.lt_irrefl _)]
        walk_at "ax"
        rw [ref_ix (last_cell ..), atQ_of (at_map hg)]
        walk_at "ax"
        refine ⟨k, e, c, rfl, ox _ (get_mem ha), oy _ (get_mem hc), ?_⟩
        walk_at "ax"
        rw [ref_put (last_cell ..) (ixN_nat (by rw [List.length_map, addTo_len]; omega))]
        walk_at "ax"
        refine hR2 _ _ ⟨?_, _, _, rfl⟩
        rw [last_set, ← List.map_set, addTo_step ha hc]
      · rintro σ S' ⟨rfl, a, b, rfl⟩
        rw [List.length_map]
        exact hR _ _ ⟨rfl, a, b, rfl⟩
    rintro _ _ ⟨rfl, a, b, rfl⟩
    walk_at "ax"
    refine ⟨k, addTo x' y' y'.length, _, rfl, items_ref (last_cell ..), ?_⟩
    walk_at "ax"
    refine gives_cl hC (pe_cl _) (q ⟨Ser.trim (addTo x' y' y'.length), Ser.nt_trim _⟩ ?_)
    show Ser.of (Ser.trim (addTo x' y' y'.length)) = Ser.of x + Ser.of y
    rw [Ser.of_trim, addTo_of hlen, hsum]
/-! ### negation, one, integers -/
def a_neg : ASp := fun ds S Q _ => ∃ (k : Dk) (x : k.E), ds = [k.dom, k.enc x] ∧ k.Len x ∧ ∀ z : k.E, k.val z = -k.val x → Q (k.enc z) S
theorem len_negate : ∀ ds S Q XX, a_neg ds S Q XX → ds.length = 2 := by rintro ds S Q XX ⟨_, _, rfl, _⟩; rfl
theorem neg_list {k : Bk} {x : List k.T} (h : Ser.nt x) : Ser.nt (x.map fun a => -a) ∧ Ser.of (x.map fun a => -a) = -Ser.of x := by
  refine ⟨fun a ha => ?_, Ser.ext fun i => ?_⟩
  · rw [List.getLast?_map] at ha
    cases e : x.getLast? with
    | none => rw [e] at ha; cases ha
    | some b =>
      rw [e] at ha
      cases ha
      intro z
      exact h b e (by grind)
  · rw [Ser.c_neg]
    show Ser.cf _ i = -Ser.cf x i
    cases e : x[i]? with
    | none =>
      have hi := List.getElem?_eq_none_iff.mp e
      rw [Ser.cf_ge hi, Ser.cf_ge (by rw [List.length_map]; exact hi)]
      grind
    | some b => rw [Ser.cf_lt e, Ser.cf_lt (show (x.map fun a => -a)[i]? = some (-b) by rw [List.getElem?_map, e]; rfl)]
def a_one : ASp := fun ds S Q _ => ∃ k : Dk, ds = [k.dom] ∧ ∀ z : k.E, k.val z = 1 → Q (k.enc z) S
theorem len_one : ∀ ds S Q XX, a_one ds S Q XX → ds.length = 1 := by rintro ds S Q XX ⟨_, rfl, _⟩; rfl
theorem Bk.one_ne : (k : Bk) → (1 : k.T) ≠ 0
  | .z => by show (1 : Int) ≠ 0; decide
  | .q => by show (1 : Rat) ≠ 0; decide
  | .f n => by
    intro h
    have := congrArg Fin.val h
    have e1 : ((1 : Fin (n + 2))).val = 1 := by show 1 % (n + 2) = 1; exact Nat.mod_eq_of_lt (by omega)
    have e0 : ((0 : Fin (n + 2))).val = 0 := rfl
    have h2 : ((1 : Fin (n + 2))).val = ((0 : Fin (n + 2))).val := this
    omega
theorem one_list (k : Bk) : Ser.nt [(1 : k.T)] ∧ Ser.of [(1 : k.T)] = 1 := by
  refine ⟨fun a ha => ?_, Ser.ext fun i => ?_⟩
  · cases ha; exact k.one_ne
  · rw [Ser.c_one]
    cases i with
    | zero => rfl
    | succ i => rw [if_neg (by omega)]; rfl
def a_int : ASp := fun ds S Q _ => ∃ (k : Dk) (n : Int), ds = [k.dom, .int n] ∧ ∀ z : k.E, k.val z = Lean.Grind.Ring.intCast.intCast n → Q (k.enc z) S
theorem len_from_integer : ∀ ds S Q XX, a_int ds S Q XX → ds.length = 2 := by rintro ds S Q XX ⟨_, _, rfl, _⟩; rfl
theorem const_list {k : Bk} (a : k.T) : Ser.of (Ser.trim [a]) = Ser.const a := by
  rw [Ser.of_trim]
  refine Ser.ext fun i => ?_
  cases i <;> rfl
theorem p_from_integer : ∀ ds S Q XX, Closed S → a_int ds S Q XX → w_from_integer a_trim a_int0 (endOf Q S.length) (startD ["d", "n"] ds) S (GivesX XX S.length) := by
  rintro ds S Q XX hC ⟨k, n, rfl, q⟩
  cases k with
  | b k => exact int_base ⟨k, n, rfl, q _ rfl⟩
  | p k =>
    unfold w_from_integer
    simp only [Dk.dom]
    walk_at "ax"
    refine ⟨k, n, rfl, ?_⟩
    walk_at "ax"
    refine ⟨k, [Lean.Grind.Ring.intCast.intCast n], _, rfl, rfl, ?_⟩
    walk_at "ax"
    exact gives_now (q ⟨Ser.trim [Lean.Grind.Ring.intCast.intCast n], Ser.nt_trim _⟩ (const_list _))
/-! ### products -/
structure MulPre (k : Bk) (x y : List k.T) (D D' N N' : Nat) : Prop where
  D0 : 0 < D
  D0' : 0 < D'
  dd : D * D' < 2 ^ 50000000
  n1 : N < 2 ^ 50000000
  n2 : N' < 2 ^ 50000000
  nn : x.length * y.length * (N * N') < 2 ^ 50000000
  l1 : x.length < 2 ^ 20
  l2 : y.length < 2 ^ 20
  ok : k.ok
  sx : ∀ a ∈ x, k.sz D N a
  sy : ∀ a ∈ y, k.sz D' N' a
def Dk.MulOk : (k : Dk) → k.E → k.E → Prop
  | .b k, x, y => k.Ok x ∧ k.Ok y
  | .p k, x, y => ∃ D D' N N', MulPre k x.1 y.1 D D' N N'
def a_mul : ASp := fun ds S Q _ => ∃ (k : Dk) (x y : k.E), ds = [k.dom, k.enc x, k.enc y] ∧ k.MulOk x y ∧ ∀ z : k.E, k.val z = k.val x * k.val y → Q (k.enc z) S
theorem len_mul : ∀ ds S Q XX, a_mul ds S Q XX → ds.length = 3 := by rintro ds S Q XX ⟨_, _, _, rfl, _⟩; rfl
theorem len_multiply : ∀ ds S Q XX, a_mul ds S Q XX → ds.length = 3 := len_mul
theorem MulPre.okx {k : Bk} {x y : List k.T} {D D' N N' : Nat} (h : MulPre k x y D D' N N') : (∀ a ∈ x, k.Ok a) ∧ ∀ a ∈ y, k.Ok a := by
  have e1 : D ≤ D * D' := Nat.le_mul_of_pos_right D h.D0'
  have e2 : D' ≤ D * D' := Nat.le_mul_of_pos_left D' h.D0
  exact ⟨fun a ha => Bk.Ok_of h.D0 (Nat.lt_of_le_of_lt e1 h.dd) h.n1 h.ok (h.sx a ha), fun a ha => Bk.Ok_of h.D0' (Nat.lt_of_le_of_lt e2 h.dd) h.n2 h.ok (h.sy a ha)⟩
/-- the sum so far: i rows and j terms of the next -/
structure MAcc (k : Bk) (x y : List k.T) (W M : Nat) (len i j : Nat) (acc : List k.T) : Prop where
  len : acc.length = len
  sum : ∀ a, x[i]? = some a → Ser.of acc = Ser.of (x.take i) * Ser.of y + Ser.mon i a * Ser.of (y.take j)
  sm : ∀ a ∈ acc, k.sz W ((i * y.length + j) * M) a
theorem MAcc.step {k : Bk} {x y : List k.T} {D D' N N' len i j : Nat} {acc : List k.T} {a b c : k.T} (h : MAcc k x y (D * D') (N * N') len i j acc) (ha : x[i]? = some a) (hb : y[j]? = some b) (hc : acc[i + j]? = some c) (sa : k.sz D N a) (sb : k.sz D' N' b) :
    MAcc k x y (D * D') (N * N') len i (j + 1) (acc.set (i + j) (c + a * b)) := by
  refine ⟨by rw [List.length_set]; exact h.len, fun a' ha' => ?_, fun e he => ?_⟩
  · rw [ha] at ha'
    cases ha'
    rw [Ser.of_set hc, h.sum a ha, Ser.of_take_succ hb]
    have m := Ser.mon_mul i j a b
    rw [← m]
    grind
  · rcases List.mem_or_eq_of_mem_set he with he | rfl
    · exact Bk.sz_mono (Nat.mul_le_mul_right _ (by omega)) (h.sm e he)
    · have s := Bk.sz_add (h.sm c (get_mem hc)) (Bk.sz_mul sa sb)
      rw [← Nat.succ_mul] at s
      exact s
theorem MulPre.okacc {k : Bk} {x y : List k.T} {D D' N N' len i j : Nat} {acc : List k.T} {a b c : k.T} (h : MulPre k x y D D' N N') (g : MAcc k x y (D * D') (N * N') len i j acc) (hi : i < x.length) (hj : j < y.length) (ha : x[i]? = some a) (hb : y[j]? = some b) (hc : acc[i + j]? = some c) : k.Ok c ∧ k.Ok (a * b) := by
  have D0 : 0 < D * D' := Nat.mul_pos h.D0 h.D0'
  have l1 : i * y.length + j ≤ x.length * y.length := by
    have : (i + 1) * y.length ≤ x.length * y.length := Nat.mul_le_mul_right _ hi
    rw [Nat.succ_mul] at this
    omega
  have l2 : 1 ≤ x.length * y.length := Nat.mul_pos (by omega) (by omega)
  refine ⟨Bk.Ok_of D0 h.dd (Nat.lt_of_le_of_lt (Nat.mul_le_mul_right _ l1) h.nn) h.ok (g.sm c (get_mem hc)), Bk.Ok_of D0 h.dd ?_ h.ok (Bk.sz_mul (h.sx a (get_mem ha)) (h.sy b (get_mem hb)))⟩
  refine Nat.lt_of_le_of_lt ?_ h.nn
  exact Nat.le_mul_of_pos_left _ l2
theorem MAcc.next {k : Bk} {x y : List k.T} {W M len i : Nat} {acc : List k.T} {a : k.T} (ha : x[i]? = some a) (h : MAcc k x y W M len i y.length acc) : MAcc k x y W M len (i + 1) 0 acc := by
  refine ⟨h.len, fun a' ha' => ?_, fun e he => ?_⟩
  · rw [h.sum a ha, List.take_length, Ser.of_take_succ ha, Ser.of_take_zero]
    grind
  · have := h.sm e he
    rw [Nat.add_zero, Nat.succ_mul]
    exact this
/-- the sum at the end -/
theorem MAcc.done {k : Bk} {x y : List k.T} {W M len i : Nat} {acc : List k.T} {a : k.T} (ha : x[i]? = some a) (hi : i + 1 = x.length) (h : MAcc k x y W M len i y.length acc) : Ser.of acc = Ser.of x * Ser.of y := by
  have e := Ser.of_take_succ ha
  rw [hi, List.take_length] at e
  rw [h.sum a ha, List.take_length, e]
  grind
theorem mul_zeros {k : Bk} {x y : List k.T} {W M len : Nat} : MAcc k x y W M len 0 0 (List.replicate len 0) := by
  refine ⟨List.length_replicate, fun a ha => ?_, fun e he => ?_⟩
  · rw [Ser.of_zeros, Ser.of_take_zero, Ser.of_take_zero]
    grind
  · rw [(List.mem_replicate.mp he).2]
    exact Bk.sz_mono (Nat.zero_le _) Bk.sz_zero
theorem p_multiply : ∀ ds S Q XX, Closed S → a_mul ds S Q XX → w_multiply a_fr a_zero a_add0 a_mul0 a_trim (endOf Q S.length) (startD ["d", "x", "y", "f", "found", "i", "left", "j", "right", "k"] ds) S (GivesX XX S.length) := by
  rintro ds S Q XX hC ⟨k, x, y, rfl, h, q⟩
  cases k with
  | b k => exact mul_base ⟨k, x, y, rfl, h.1, h.2, q _ rfl⟩
  | p k =>
    obtain ⟨x, nx⟩ := x
    obtain ⟨y, ny⟩ := y
    obtain ⟨D, D', N, N', h⟩ := h
    have h : MulPre k x y D D' N N' := h
    have q : ∀ l : List k.T, Ser.nt l → Ser.of l = Ser.of x * Ser.of y → Q (pe k l) S := fun l hl e => q ⟨l, hl⟩ e
    obtain ⟨ox, oy⟩ := h.okx
    unfold w_multiply
    simp only [Dk.dom, Dk.enc, pe]
    refine seq_same ?_ fun R hR => by walk_at "ax"; exact hR
    refine seq_same ?_ fun R hR => by walk_at "ax"; exact hR
    refine seq_same ?_ fun R hR => by walk_at "ax"; exact hR
    rcases Nat.eq_zero_or_pos x.length with x0 | x0
    · obtain rfl := List.eq_nil_of_length_eq_zero x0
      walk_at "ax"
      exact gives_now (q [] Ser.nt_nil (by rw [Ser.of_nil]; grind))
    rcases Nat.eq_zero_or_pos y.length with y0 | y0
    · obtain rfl := List.eq_nil_of_length_eq_zero y0
      walk_at "ax"
      rw [if_neg (by omega)]
      walk_at "ax"
      exact gives_now (q [] Ser.nt_nil (by rw [Ser.of_nil]; grind))
    have lx := h.l1
    have ly := h.l2
    refine seq_same ?_ fun R hR => by
      walk_at "ax"
      rw [if_neg (by omega)]
      walk_at "ax"
      rw [if_neg (by omega)]
      walk_at "ax"
      exact hR
    refine seq_to [some (.tup [.str "P", k.dom]), some (.tup (x.map k.enc)), some (.tup (y.map k.enc)), some k.dom, none, none, none, none, none, none] S ?_ fun R hR => by walk_at "ax"; exact hR
    refine seq_to [some (.tup [.str "P", k.dom]), some (.tup (x.map k.enc)), some (.tup (y.map k.enc)), some k.dom, some (.ref S.length), none, none, none, none, none] (S ++ [.lst ((List.replicate (x.length + y.length - 1) (0 : k.T)).map k.enc)]) ?_ fun R hR => by
      walk_at "ax"
      rw [show ((x.length : Nat) : Int) + (y.length : Nat) - 1 = ((x.length + y.length - 1 : Nat) : Int) by omega]
      walk_at "ax"
      refine ⟨by omega, ?_⟩
      refine ⟨by rw [rangeD_len]; omega, ?_⟩
      refine lcL_range 0 _ (fun _ => k.enc 0) ?_ ?_
      · intro i acc R2 _ hR2
        walk_at "ax"
        refine ⟨.b k, rfl, fun z hz => ?_⟩
        have hz : z = 0 := hz
        subst hz
        walk_at "ax"
        exact hR2
      · walk_at "ax"
        rw [Int.toNat_natCast, show ((List.range (x.length + y.length - 1)).map fun _ => k.enc 0) = (List.replicate (x.length + y.length - 1) (0 : k.T)).map k.enc by rw [List.map_replicate, List.map_const']; simp]
        exact hR
    generalize hlen : x.length + y.length - 1 = len
    refine seq_cut (fun σ S' => ∃ acc : List k.T, S' = S ++ [.lst (acc.map k.enc)] ∧ Ser.of acc = Ser.of x * Ser.of y ∧ ∃ a b c d, σ = [some (.tup [.str "P", k.dom]), some (.tup (x.map k.enc)), some (.tup (y.map k.enc)), some k.dom, some (.ref S.length), a, b, c, d, none]) ?_ fun R hR => ?_
    · rintro _ _ ⟨acc, rfl, hacc, a, b, c, d, rfl⟩
      walk_at "ax"
      refine ⟨k, acc, _, rfl, items_ref (last_cell ..), ?_⟩
      walk_at "ax"
      refine gives_cl hC (pe_cl _) (q (Ser.trim acc) (Ser.nt_trim _) ?_)
      rw [Ser.of_trim, hacc]
    · walk_at "ax"
      let P : Nat → ASt → Sto → Prop := fun i σ S' => ∃ acc : List k.T, S' = S ++ [.lst (acc.map k.enc)] ∧ (if i < x.length then MAcc k x y (D * D') (N * N') len i 0 acc else Ser.of acc = Ser.of x * Ser.of y) ∧ ∃ a b c d, σ = [some (.tup [.str "P", k.dom]), some (.tup (x.map k.enc)), some (.tup (y.map k.enc)), some k.dom, some (.ref S.length), a, b, c, d, none]
      refine enum_cut (x.map k.enc) P ⟨List.replicate len 0, rfl, by rw [if_pos x0]; exact mul_zeros, none, none, none, none, rfl⟩ ?_ ?_
      · rintro i d σ S' R2 hd ⟨acc, rfl, hacc, a, b, c, e, rfl⟩ hR2
        obtain ⟨u, hu, rfl⟩ := map_get hd
        have hi : i < x.length := (List.getElem?_eq_some_iff.mp hu).1
        rw [if_pos hi] at hacc
        walk_at "ax"
        let P2 : Nat → ASt → Sto → Prop := fun j σ S' => ∃ acc : List k.T, S' = S ++ [.lst (acc.map k.enc)] ∧ MAcc k x y (D * D') (N * N') len i j acc ∧ ∃ c e, σ = [some (.tup [.str "P", k.dom]), some (.tup (x.map k.enc)), some (.tup (y.map k.enc)), some k.dom, some (.ref S.length), some (.int (i : Nat)), some (k.enc u), c, e, none]
        refine enum_cut (y.map k.enc) P2 ⟨acc, rfl, hacc, _, _, rfl⟩ ?_ ?_
        · rintro j d σ S' R3 hd ⟨acc, rfl, hacc, c, e, rfl⟩ hR3
          obtain ⟨v, hv, rfl⟩ := map_get hd
          have hj : j < y.length := (List.getElem?_eq_some_iff.mp hv).1
          have hw : acc[i + j]? = some (acc[i + j]'(by rw [hacc.len]; omega)) := List.getElem?_eq_getElem _
          generalize acc[i + j]'(by rw [hacc.len]; omega) = w at hw
          obtain ⟨ow, om⟩ := h.okacc hacc hi hj hu hv hw
          walk_at "ax"
          rw [show ((i : Nat) : Int) + (j : Nat) = ((i + j : Nat) : Int) by omega, ref_ix (last_cell ..), atQ_of (at_map hw)]
          walk_at "ax"
          refine ⟨k, u, v, rfl, ox _ (get_mem hu), oy _ (get_mem hv), ?_⟩
          walk_at "ax"
          refine ⟨k, w, u * v, rfl, ow, om, ?_⟩
          walk_at "ax"
          rw [show ((i : Nat) : Int) + (j : Nat) = ((i + j : Nat) : Int) by omega, ref_put (last_cell ..) (ixN_nat (by rw [List.length_map, hacc.len]; omega))]
          walk_at "ax"
          exact hR3 _ _ ⟨acc.set (i + j) (w + u * v), by rw [last_set, ← List.map_set], hacc.step hu hv hw (h.sx _ (get_mem hu)) (h.sy _ (get_mem hv)), _, _, rfl⟩
        · rintro σ S' ⟨acc, rfl, hacc, c, e, rfl⟩
          rw [List.length_map] at hacc
          refine hR2 _ _ ⟨acc, rfl, ?_, _, _, _, _, rfl⟩
          split
          · exact hacc.next hu
          · exact hacc.done hu (by omega)
      · rintro σ S' ⟨acc, rfl, hacc, a, b, c, e, rfl⟩
        rw [List.length_map, if_neg (Nat.lt_irrefl _)] at hacc
        exact hR _ _ ⟨acc, rfl, hacc, a, b, c, e, rfl⟩
/-! ### how large elements are -/
namespace Ser
open Lean.Grind
variable {T : Type} [CommRing T]
theorem mulc_high : ∀ (n a b : Nat) (f g : Ser T), (∀ i, a ≤ i → f.c i = 0) → (∀ i, b ≤ i → g.c i = 0) → a + b ≤ n + 1 → mulc n f g = 0
  | 0, a, b, f, g, hf, hg, h => by
    simp only [mulc]
    rcases Nat.eq_zero_or_pos a with rfl | ha
    · rw [hf 0 (Nat.le_refl 0)]; grind
    · rw [hg 0 (by omega)]; grind
  | n + 1, a, b, f, g, hf, hg, h => by
    rcases Nat.eq_zero_or_pos a with rfl | ha
    · exact mulc_zero _ _ _ fun i => hf i (Nat.zero_le i)
    · rw [mulc, hg (n + 1) (by omega), mulc_high n (a - 1) b f.tl g (fun i hi => hf (i + 1) (by omega)) hg (by omega)]
      grind
theorem nt_len [DecidableEq T] {l : List T} (h : nt l) {n : Nat} (h0 : ∀ i, n ≤ i → cf l i = 0) : l.length ≤ n := by
  rcases Nat.lt_or_ge n l.length with z | z
  · exfalso
    have e : l[l.length - 1]? = some (l[l.length - 1]'(by omega)) := List.getElem?_eq_getElem (by omega)
    refine h _ (by rw [List.getLast?_eq_getElem?, e]) ?_
    rw [← cf_lt e]
    exact h0 _ (by omega)
  · exact z
end Ser
theorem Bk.sz_mulc {k : Bk} {D D' N N' : Nat} : ∀ (n : Nat) (u v : Ser k.T), (∀ i, k.sz D N (u.c i)) → (∀ i, k.sz D' N' (v.c i)) → k.sz (D * D') ((n + 1) * (N * N')) (Ser.mulc n u v)
  | 0, u, v, hf, hg => by
    rw [Nat.zero_add, Nat.one_mul]
    exact Bk.sz_mul (hf 0) (hg 0)
  | n + 1, u, v, hf, hg => by
    rw [Nat.succ_mul (n + 1), Nat.add_comm ((n + 1) * (N * N'))]
    exact Bk.sz_add (Bk.sz_mul (hf 0) (hg (n + 1))) (Bk.sz_mulc n u.tl v (fun i => hf (i + 1)) hg)
def Dk.base : Dk → Bk
  | .b k => k
  | .p k => k
def Dk.In : (k : Dk) → (D N L : Nat) → k.E → Prop
  | .b k, D, N, _, x => k.sz D N x
  | .p k, D, N, L, x => x.1.length ≤ L ∧ ∀ i, k.sz D N (Ser.cf x.1 i)
theorem Ser.cf_congr {T : Type} [Lean.Grind.CommRing T] {f g : Ser T} (h : f = g) (i : Nat) : f.c i = g.c i := by rw [h]
theorem Dk.In_add {D D' N N' L L' : Nat} (hD : 0 < D) (hD' : 0 < D') : (k : Dk) → {x y z : k.E} → k.val z = k.val x + k.val y → k.In D N L x → k.In D' N' L' y → k.In (D * D') (N * D' + N' * D) (max L L') z
  | .b k, x, y, z, e, hx, hy => by
    have e : z = x + y := e
    subst e
    have h2 := Bk.sz_wide D hD (x := y) hy
    rw [Nat.mul_comm D' D] at h2
    exact Bk.sz_add (Bk.sz_wide D' hD' hx) h2
  | .p k, ⟨x, nx⟩, ⟨y, ny⟩, ⟨z, nz⟩, e, hx, hy => by
    have e : Ser.of z = Ser.of x + Ser.of y := e
    have c : ∀ i, Ser.cf z i = Ser.cf x i + Ser.cf y i := fun i => Ser.cf_congr e i
    refine ⟨Ser.nt_len nz fun i hi => ?_, fun i => ?_⟩
    · have h1 : x.length ≤ L := hx.1
      have h2 : y.length ≤ L' := hy.1
      rw [c, Ser.cf_ge (show x.length ≤ i by omega), Ser.cf_ge (show y.length ≤ i by omega)]
      grind
    · show k.sz _ _ (Ser.cf z i)
      rw [c]
      have h2 := Bk.sz_wide D hD (hy.2 i)
      rw [Nat.mul_comm D' D] at h2
      exact Bk.sz_add (Bk.sz_wide D' hD' (hx.2 i)) h2
theorem Dk.In_neg {D N L : Nat} : (k : Dk) → {x z : k.E} → k.val z = -k.val x → k.In D N L x → k.In D N L z
  | .b k, x, z, e, hx => by
    have e : z = -x := e
    subst e
    exact Bk.sz_neg hx
  | .p k, ⟨x, nx⟩, ⟨z, nz⟩, e, hx => by
    have e : Ser.of z = -Ser.of x := e
    have c : ∀ i, Ser.cf z i = -Ser.cf x i := fun i => Ser.cf_congr e i
    refine ⟨Ser.nt_len nz fun i hi => ?_, fun i => ?_⟩
    · have h1 : x.length ≤ L := hx.1
      rw [c, Ser.cf_ge (show x.length ≤ i by omega)]
      grind
    · show k.sz _ _ (Ser.cf z i)
      rw [c]
      exact Bk.sz_neg (hx.2 i)
theorem Dk.In_mul {D D' N N' L L' : Nat} (hL : 0 < L) (hL' : 0 < L') : (k : Dk) → {x y z : k.E} → k.val z = k.val x * k.val y → k.In D N L x → k.In D' N' L' y → k.In (D * D') ((L + L') * (N * N')) (L + L' - 1) z
  | .b k, x, y, z, e, hx, hy => by
    have e : z = x * y := e
    subst e
    refine Bk.sz_mono ?_ (Bk.sz_mul hx hy)
    exact Nat.le_mul_of_pos_left _ (by omega)
  | .p k, ⟨x, nx⟩, ⟨y, ny⟩, ⟨z, nz⟩, e, hx, hy => by
    have e : Ser.of z = Ser.of x * Ser.of y := e
    have c : ∀ i, Ser.cf z i = Ser.mulc i (Ser.of x) (Ser.of y) := fun i => Ser.cf_congr e i
    have z0 : ∀ i, L + L' - 1 ≤ i → Ser.cf z i = 0 := fun i hi => by
      rw [c]
      exact Ser.mulc_high i L L' _ _ (fun j hj => Ser.cf_ge (Nat.le_trans hx.1 hj)) (fun j hj => Ser.cf_ge (Nat.le_trans hy.1 hj)) (by omega)
    refine ⟨Ser.nt_len nz z0, fun i => ?_⟩
    show k.sz _ _ (Ser.cf z i)
    rcases Nat.lt_or_ge i (L + L' - 1) with h | h
    · rw [c]
      exact Bk.sz_mono (Nat.mul_le_mul_right _ (by omega)) (Bk.sz_mulc i _ _ hx.2 hy.2)
    · rw [z0 i h]
      exact Bk.sz_mono (Nat.zero_le _) Bk.sz_zero
theorem Dk.In_ok {D N L : Nat} (hD : 0 < D) (hD2 : D < 2 ^ 50000000) (hN : N < 2 ^ 50000000) (hL : L < 2 ^ 20) : (k : Dk) → k.base.ok → {x : k.E} → k.In D N L x → k.Ok x
  | .b k, h, x, hx => Bk.Ok_of hD hD2 hN h hx
  | .p k, h, ⟨x, nx⟩, hx => ⟨h, Nat.lt_of_le_of_lt hx.1 hL, fun a ha => by
    obtain ⟨i, hi, rfl⟩ := List.getElem_of_mem ha
    have := hx.2 i
    have e : Ser.cf x i = x[i] := Ser.cf_lt (List.getElem?_eq_getElem hi)
    have hs : k.sz D N (Ser.cf x i) := this
    rw [e] at hs
    exact Bk.Ok_of hD hD2 hN h hs⟩
theorem Dk.In_mono {D N N' L L' : Nat} (hN : N ≤ N') (hL : L ≤ L') : (k : Dk) → {x : k.E} → k.In D N L x → k.In D N' L' x
  | .b k, x, hx => Bk.sz_mono hN hx
  | .p k, ⟨x, nx⟩, hx => ⟨Nat.le_trans hx.1 hL, fun i => Bk.sz_mono hN (hx.2 i)⟩
theorem Dk.In_one : (k : Dk) → {x : k.E} → k.val x = 1 → k.In 1 1 1 x
  | .b k, x, e => by
    have e : x = 1 := e
    subst e
    exact Bk.sz_one
  | .p k, ⟨x, nx⟩, e => by
    have e : Ser.of x = 1 := e
    have e2 : x = [1] := Ser.nt_inj nx (one_list k).1 (by rw [e, (one_list k).2])
    subst e2
    refine ⟨Nat.le_refl 1, fun i => ?_⟩
    cases i with
    | zero => exact Bk.sz_one
    | succ i => exact Bk.sz_mono (Nat.zero_le _) Bk.sz_zero
theorem Dk.In_zero (k : Dk) {x : k.E} (e : k.val x = 0) : k.In 1 0 0 x := by
  cases k with
  | b k =>
    have e : x = 0 := e
    subst e
    exact Bk.sz_zero
  | p k =>
    obtain ⟨x, nx⟩ := x
    have e : Ser.of x = 0 := e
    have e2 : x = [] := Ser.nt_inj nx Ser.nt_nil (by rw [e, Ser.of_nil])
    subst e2
    exact ⟨Nat.le_refl 0, fun i => Bk.sz_zero⟩
/-- x is of at most L coefficients, each a number of n bits over one of m bits -/
structure Dk.Fi (k : Dk) (m n L : Nat) (x : k.E) : Prop where
  ok : k.base.ok
  ex : ∃ D, 0 < D ∧ D ≤ 2 ^ m ∧ k.In D (2 ^ n) L x
section
variable {k : Dk} {m n L m' n' L' : Nat} {x y z : k.E}
theorem Dk.Fi.mono (h : k.Fi m n L x) (hm : m ≤ m') (hn : n ≤ n') (hL : L ≤ L') : k.Fi m' n' L' x := by
  obtain ⟨ok, D, h0, h1, hi⟩ := h
  exact ⟨ok, D, h0, Nat.le_trans h1 (Nat.pow_le_pow_right (by decide) hm), k.In_mono (Nat.pow_le_pow_right (by decide) hn) hL hi⟩
theorem Dk.Fi.Ok (h : k.Fi m n L x) (hm : m < 50000000) (hn : n < 50000000) (hL : L < 2 ^ 20) : k.Ok x := by
  obtain ⟨ok, D, h0, h1, hi⟩ := h
  exact k.In_ok h0 (Nat.lt_of_le_of_lt h1 (Nat.pow_lt_pow_right (by decide) hm)) (Nat.pow_lt_pow_right (by decide) hn) hL ok hi
theorem Dk.Fi.neg (h : k.Fi m n L x) (e : k.val z = -k.val x) : k.Fi m n L z := by
  obtain ⟨ok, D, h0, h1, hi⟩ := h
  exact ⟨ok, D, h0, h1, k.In_neg e hi⟩
theorem Dk.Fi.add (h : k.Fi m n L x) (g : k.Fi m' n' L' y) (e : k.val z = k.val x + k.val y) {p : Nat} (h1 : n + m' ≤ p) (h2 : n' + m ≤ p) : k.Fi (m + m') (p + 1) (max L L') z := by
  obtain ⟨ok, D, d0, d1, hi⟩ := h
  obtain ⟨_, D', d0', d1', gi⟩ := g
  refine ⟨ok, D * D', Nat.mul_pos d0 d0', ?_, k.In_mono ?_ (Nat.le_refl _) (k.In_add d0 d0' e hi gi)⟩
  · rw [Nat.pow_add]; exact Nat.mul_le_mul d1 d1'
  · have a1 : 2 ^ n * D' ≤ 2 ^ p := Nat.le_trans (Nat.mul_le_mul_left _ d1') (by rw [← Nat.pow_add]; exact Nat.pow_le_pow_right (by decide) h1)
    have a2 : 2 ^ n' * D ≤ 2 ^ p := Nat.le_trans (Nat.mul_le_mul_left _ d1) (by rw [← Nat.pow_add]; exact Nat.pow_le_pow_right (by decide) h2)
    rw [Nat.pow_succ]
    omega
theorem Dk.Fi.mul (h : k.Fi m n L x) (g : k.Fi m' n' L' y) (e : k.val z = k.val x * k.val y) {l : Nat} (hL : 0 < L) (hL' : 0 < L') (hl : L + L' ≤ 2 ^ l) : k.Fi (m + m') (n + n' + l) (L + L' - 1) z := by
  obtain ⟨ok, D, d0, d1, hi⟩ := h
  obtain ⟨_, D', d0', d1', gi⟩ := g
  refine ⟨ok, D * D', Nat.mul_pos d0 d0', ?_, k.In_mono ?_ (Nat.le_refl _) (k.In_mul hL hL' e hi gi)⟩
  · rw [Nat.pow_add]; exact Nat.mul_le_mul d1 d1'
  · rw [← Nat.pow_add, Nat.pow_add 2 (n + n') l, Nat.mul_comm]
    exact Nat.mul_le_mul_left _ hl
theorem Dk.Fi.one (ok : k.base.ok) (e : k.val x = 1) : k.Fi 0 0 1 x := ⟨ok, 1, by decide, by decide, k.In_one e⟩
theorem Dk.Fi.zero (ok : k.base.ok) (e : k.val x = 0) : k.Fi 0 0 1 x := ⟨ok, 1, by decide, by decide, k.In_mono (by decide) (by decide) (k.In_zero e)⟩
end
theorem Dk.Fi.mulOk : {k : Dk} → {m n L m' n' L' : Nat} → {x y : k.E} → k.Fi m n L x → k.Fi m' n' L' y → m + m' < 50000000 → n + n' + 40 < 50000000 → L < 2 ^ 20 → L' < 2 ^ 20 → k.MulOk x y
  | .b k, m, n, L, m', n', L', x, y, h, g, hm, hn, hL, hL' => ⟨h.Ok (by omega) (by omega) hL, g.Ok (by omega) (by omega) hL'⟩
  | .p k, m, n, L, m', n', L', ⟨x, nx⟩, ⟨y, ny⟩, h, g, hm, hn, hL, hL' => by
    show ∃ D D' N N', MulPre k x y D D' N N'
    obtain ⟨ok, D, d0, d1, hi⟩ := h
    obtain ⟨_, D', d0', d1', gi⟩ := g
    have lx : x.length < 2 ^ 20 := Nat.lt_of_le_of_lt hi.1 hL
    have ly : y.length < 2 ^ 20 := Nat.lt_of_le_of_lt gi.1 hL'
    have mem : ∀ {x : List k.T} {D N : Nat}, (∀ i, k.sz D N (Ser.cf x i)) → ∀ a ∈ x, k.sz D N a := fun {x D N} h a ha => by
      obtain ⟨i, hi, rfl⟩ := List.getElem_of_mem ha
      have hs := h i
      rwa [Ser.cf_lt (List.getElem?_eq_getElem hi)] at hs
    refine ⟨D, D', 2 ^ n, 2 ^ n', d0, d0', ?_, Nat.pow_lt_pow_right (by decide) (by omega), Nat.pow_lt_pow_right (by decide) (by omega), ?_, lx, ly, ok, mem hi.2, mem gi.2⟩
    · have : D * D' ≤ 2 ^ m * 2 ^ m' := Nat.mul_le_mul d1 d1'
      rw [← Nat.pow_add] at this
      exact Nat.lt_of_le_of_lt this (Nat.pow_lt_pow_right (by decide) hm)
    · have h1 : x.length * y.length ≤ 2 ^ 20 * 2 ^ 20 := Nat.mul_le_mul (Nat.le_of_lt lx) (Nat.le_of_lt ly)
      have h2 : x.length * y.length * (2 ^ n * 2 ^ n') ≤ 2 ^ 20 * 2 ^ 20 * (2 ^ n * 2 ^ n') := Nat.mul_le_mul_right _ h1
      rw [← Nat.pow_add, ← Nat.pow_add, ← Nat.pow_add] at h2
      rw [← Nat.pow_add]
      exact Nat.lt_of_le_of_lt h2 (Nat.pow_lt_pow_right (by decide) (by omega))
theorem foldl_take {α β : Type} {f : β → α → β} {l : List α} {i : Nat} {c : α} {b : β} (h : l[i]? = some c) : (l.take (i + 1)).foldl f b = f ((l.take i).foldl f b) c := by
  rw [take_succ_of h, List.foldl_append]; rfl
/-! ### differences and powers -/
theorem Bk.Ok_neg : (k : Bk) → {x : k.T} → k.Ok x → k.Ok (-x)
  | .z, x, h => by
    show (-x : Int).natAbs < _
    rw [Int.natAbs_neg]
    exact h
  | .q, x, h => by
    refine ⟨?_, h.2⟩
    show (-x.num).natAbs < _
    rw [Int.natAbs_neg]
    exact h.1
  | .f n, x, h => h
theorem Dk.Ok_neg : (k : Dk) → {x z : k.E} → k.val z = -k.val x → k.Ok x → k.Ok z
  | .b k, x, z, e, h => by
    have e : z = -x := e
    subst e
    exact k.Ok_neg h
  | .p k, ⟨x, nx⟩, ⟨z, nz⟩, e, h => by
    have e : Ser.of z = -Ser.of x := e
    have e2 : z = x.map fun a => -a := Ser.nt_inj nz (neg_list nx).1 (by rw [e, (neg_list nx).2])
    subst e2
    refine ⟨h.1, by rw [List.length_map]; exact h.2.1, fun a ha => ?_⟩
    obtain ⟨b, hb, rfl⟩ := List.mem_map.mp ha
    exact k.Ok_neg (h.2.2 b hb)
theorem Dk.Fi.Len {m n L : Nat} : {k : Dk} → {x : k.E} → k.Fi m n L x → L < 2 ^ 20 → k.Len x
  | .b k, x, h, hL => trivial
  | .p k, ⟨x, nx⟩, ⟨_, D, _, _, hi⟩, hL => Nat.lt_of_le_of_lt hi.1 hL
/-- what may be taken away -/
def Dk.SOk : (k : Dk) → k.E → Prop
  | .b k, y => k.Ok y
  | .p k, y => (Dk.p k).Fi 45000000 45000000 1000000 y
theorem Dk.Fi.sok : {k : Dk} → {m n L : Nat} → {y : k.E} → k.Fi m n L y → m ≤ 45000000 → n ≤ 45000000 → L ≤ 1000000 → k.SOk y
  | .b k, m, n, L, y, h, hm, hn, hL => h.Ok (by omega) (by omega) (by omega)
  | .p k, m, n, L, y, h, hm, hn, hL => h.mono hm hn hL
theorem Dk.SOk.okLen : {k : Dk} → {y : k.E} → k.SOk y → k.Ok y ∧ k.Len y
  | .b k, y, h => ⟨h, trivial⟩
  | .p k, y, h => ⟨Dk.Fi.Ok (k := .p k) h (by decide) (by decide) (by decide), Dk.Fi.Len (k := .p k) h (by decide)⟩
def a_sub : ASp := fun ds S Q _ => ∃ (k : Dk) (x y : k.E), ds = [k.dom, k.enc x, k.enc y] ∧ k.Ok x ∧ k.SOk y ∧ ∀ z : k.E, k.val z = k.val x - k.val y → Q (k.enc z) S
theorem len_subtract : ∀ ds S Q XX, a_sub ds S Q XX → ds.length = 3 := by rintro ds S Q XX ⟨_, _, _, rfl, _⟩; rfl
theorem pow_two_mul {R : Type} [Lean.Grind.CommRing R] (x : R) (m : Nat) : (x * x) ^ m = x ^ (2 * m) := by
  induction m with
  | zero => rw [Nat.mul_zero, Lean.Grind.Semiring.pow_zero, Lean.Grind.Semiring.pow_zero]
  | succ m ih =>
    rw [Lean.Grind.Semiring.pow_succ, ih, show 2 * (m + 1) = 2 * m + 1 + 1 by omega, Lean.Grind.Semiring.pow_succ, Lean.Grind.Semiring.pow_succ]
    grind
def Dk.Pow (k : Dk) (x : k.E) (n : Nat) : Prop := (n < 2 ^ 64 ∧ ∀ a b : k.E, k.MulOk a b) ∨ (n ≤ 12 ∧ k.Fi 6 40 4 x)
def a_power : ASp := fun ds S Q _ => ∃ (k : Dk) (x : k.E) (n : Nat), ds = [k.dom, k.enc x, .int (n : Nat)] ∧ k.base.ok ∧ k.Pow x n ∧ ∀ z : k.E, k.val z = k.val x ^ n → Q (k.enc z) S
theorem len_power : ∀ ds S Q XX, a_power ds S Q XX → ds.length = 3 := by rintro ds S Q XX ⟨_, _, _, rfl, _⟩; rfl
/-- x is a power, found another, n are to come -/
def Dk.PowAt (k : Dk) (n : Nat) (x f : k.E) : Prop := (∀ a b : k.E, k.MulOk a b) ∨ ∃ e j, e * n + j ≤ 12 ∧ 1 ≤ e ∧ k.Fi (6 * e) (52 * e - 12) (3 * e + 1) x ∧ k.Fi (6 * j) (52 * j) (3 * j + 1) f
theorem Dk.PowAt.start {k : Dk} {n : Nat} {x f : k.E} (ok : k.base.ok) (h : k.Pow x n) (e : k.val f = 1) : k.PowAt n x f := by
  rcases h with h | ⟨hn, h⟩
  · exact .inl h.2
  · exact .inr ⟨1, 0, by omega, by omega, h, Dk.Fi.one ok e⟩
theorem Dk.PowAt.sq {k : Dk} {n : Nat} {x f : k.E} (h : k.PowAt n x f) (hn : 0 < n) : k.MulOk x x ∧ k.MulOk f x := by
  rcases h with h | ⟨e, j, hj, he, hx, hf⟩
  · exact ⟨h x x, h f x⟩
  · have e12 : e ≤ 12 := Nat.le_trans (Nat.le_mul_of_pos_right e hn) (by omega)
    have j12 : j ≤ 12 := by omega
    exact ⟨hx.mulOk hx (by omega) (by omega) (by omega) (by omega), hf.mulOk hx (by omega) (by omega) (by omega) (by omega)⟩
theorem Dk.PowAt.odd {k : Dk} {m : Nat} {x f f' : k.E} (h : k.PowAt (2 * m + 1) x f) (e : k.val f' = k.val f * k.val x) : k.PowAt (2 * m) x f' := by
  rcases h with h | ⟨e, j, hj, he, hx, hf⟩
  · exact .inl h
  · have e12 : e ≤ 12 := Nat.le_trans (Nat.le_mul_of_pos_right e (show 0 < 2 * m + 1 by omega)) (by omega)
    refine .inr ⟨e, j + e, ?_, he, hx, ?_⟩
    · rw [Nat.mul_add, Nat.mul_one] at hj; omega
    · exact (hf.mul hx (by assumption) (l := 12) (by omega) (by omega) (by omega)).mono (by omega) (by omega) (by omega)
theorem Dk.PowAt.even {k : Dk} {m : Nat} {x x' f : k.E} (hm : 0 < m) (h : k.PowAt (2 * m) x f) (e : k.val x' = k.val x * k.val x) : k.PowAt m x' f := by
  rcases h with h | ⟨e, j, hj, he, hx, hf⟩
  · exact .inl h
  · have e12 : e ≤ 12 := Nat.le_trans (Nat.le_mul_of_pos_right e (show 0 < 2 * m by omega)) (by omega)
    refine .inr ⟨2 * e, j, ?_, by omega, ?_, hf⟩
    · have : 2 * e * m = e * (2 * m) := by rw [Nat.mul_assoc, Nat.mul_left_comm]
      omega
    · exact (hx.mul hx (by assumption) (l := 12) (by omega) (by omega) (by omega)).mono (by omega) (by omega) (by omega)
/-! ### the law's own operations -/
theorem ladd_base {A2 A3 A4 : ASp} {ds : List D} {S : Sto} {Q : VKD} {XX : XKD} (q : a_add0 ds S Q XX) : w__law_add a_fr A2 A3 A4 (endOf Q S.length) (startD ["d", "x", "y", "long", "k"] ds) S (GivesX XX S.length) := by
  obtain ⟨k, x, y, rfl, hx, hy, q⟩ := q
  unfold w__law_add
  cases k with
  | z =>
    simp only [Bk.dom, Bk.enc]
    walk_at "ax"
    exact gives_now q
  | q =>
    simp only [Bk.dom, Bk.enc, qe]
    walk_at "ax"
    refine ⟨mulOk_of hx.1 (nat_ok hy.2) (by decide), mulOk_of hy.1 (nat_ok hx.2) (by decide), mulOk_of (nat_ok hx.2) (nat_ok hy.2) (by decide), ?_⟩
    simp only [a_fr]
    rw [q_add]
    exact ⟨den_ok x.den_nz y.den_nz, gives_now q⟩
  | f n =>
    simp only [Bk.dom, Bk.enc]
    walk_at "ax"
    rw [← Int.natCast_add, fin_cast]
    exact ⟨by omega, gives_now q⟩
theorem len_ladd0 : ∀ ds S Q XX, a_add0 ds S Q XX → ds.length = 3 := len_add0
theorem len_ladd : ∀ ds S Q XX, a_add ds S Q XX → ds.length = 3 := len_add
theorem len_lmul0 : ∀ ds S Q XX, a_mul0 ds S Q XX → ds.length = 3 := len_mul0
theorem len_lmul : ∀ ds S Q XX, a_mul ds S Q XX → ds.length = 3 := len_mul
theorem len_lint0 : ∀ ds S Q XX, a_int0 ds S Q XX → ds.length = 2 := len_int0
theorem len_lint : ∀ ds S Q XX, a_int ds S Q XX → ds.length = 2 := len_from_integer
theorem len_lsub : ∀ ds S Q XX, a_sub ds S Q XX → ds.length = 3 := len_subtract
theorem len_lpower : ∀ ds S Q XX, a_power ds S Q XX → ds.length = 3 := len_power
theorem p_ladd0 : ∀ ds S Q XX, Closed S → a_add0 ds S Q XX → w__law_add a_fr aspNo aspNo aspNo (endOf Q S.length) (startD ["d", "x", "y", "long", "k"] ds) S (GivesX XX S.length) := fun _ _ _ _ _ q => ladd_base q
theorem lmul_base {A2 A3 A4 A5 : ASp} {ds : List D} {S : Sto} {Q : VKD} {XX : XKD} (q : a_mul0 ds S Q XX) : w__law_multiply a_fr A2 A3 A4 A5 (endOf Q S.length) (startD ["d", "x", "y", "parts", "i", "j"] ds) S (GivesX XX S.length) := by
  obtain ⟨k, x, y, rfl, hx, hy, q⟩ := q
  unfold w__law_multiply
  cases k with
  | z =>
    simp only [Bk.dom, Bk.enc]
    walk_at "ax"
    exact ⟨mulOk_of hx hy (by decide), gives_now q⟩
  | q =>
    simp only [Bk.dom, Bk.enc, qe]
    walk_at "ax"
    refine ⟨mulOk_of hx.1 hy.1 (by decide), mulOk_of (nat_ok hx.2) (nat_ok hy.2) (by decide), ?_⟩
    simp only [a_fr]
    rw [q_mul]
    exact ⟨den_ok x.den_nz y.den_nz, gives_now q⟩
  | f n =>
    have hn : n < 2 ^ 20 := hx
    have := x.isLt
    simp only [Bk.dom, Bk.enc]
    walk_at "ax"
    rw [← Int.natCast_mul, fin_cast]
    exact ⟨mulOk_small (.inl (by omega)), by omega, gives_now q⟩
theorem p_lmul0 : ∀ ds S Q XX, Closed S → a_mul0 ds S Q XX → w__law_multiply a_fr aspNo aspNo aspNo aspNo (endOf Q S.length) (startD ["d", "x", "y", "parts", "i", "j"] ds) S (GivesX XX S.length) := fun _ _ _ _ _ q => lmul_base q
theorem lint_base {A1 A2 : ASp} {ds : List D} {S : Sto} {Q : VKD} {XX : XKD} (q : a_int0 ds S Q XX) : w__law_number A1 A2 (endOf Q S.length) (startD ["d", "n"] ds) S (GivesX XX S.length) := by
  obtain ⟨k, n, rfl, q⟩ := q
  unfold w__law_number
  cases k with
  | z =>
    simp only [Bk.dom]
    walk_at "ax"
    exact gives_now q
  | q =>
    simp only [Bk.dom]
    walk_at "ax"
    exact gives_now q
  | f m =>
    simp only [Bk.dom]
    walk_at "ax"
    rw [int_fin]
    exact ⟨by omega, gives_now q⟩
theorem p_lint0 : ∀ ds S Q XX, Closed S → a_int0 ds S Q XX → w__law_number aspNo aspNo (endOf Q S.length) (startD ["d", "n"] ds) S (GivesX XX S.length) := fun _ _ _ _ _ q => lint_base q
theorem p_lint : ∀ ds S Q XX, Closed S → a_int ds S Q XX → w__law_number a_trim a_int0 (endOf Q S.length) (startD ["d", "n"] ds) S (GivesX XX S.length) := by
  rintro ds S Q XX hC ⟨k, n, rfl, q⟩
  cases k with
  | b k => exact lint_base ⟨k, n, rfl, q _ rfl⟩
  | p k =>
    unfold w__law_number
    simp only [Dk.dom]
    walk_at "ax"
    refine ⟨k, n, rfl, ?_⟩
    walk_at "ax"
    refine ⟨k, [Lean.Grind.Ring.intCast.intCast n], _, rfl, rfl, ?_⟩
    walk_at "ax"
    exact gives_now (q ⟨Ser.trim [Lean.Grind.Ring.intCast.intCast n], Ser.nt_trim _⟩ (const_list _))
def a_part : ASp := fun ds S Q _ => ∃ (k : Bk) (l : List k.T) (i : Nat), ds = [k.dom, .tup (l.map k.enc), .int (i : Nat)] ∧ Q (k.enc (Ser.cf l i)) S
theorem len_part : ∀ ds S Q XX, a_part ds S Q XX → ds.length = 3 := by rintro ds S Q XX ⟨_, _, _, rfl, _⟩; rfl
theorem p_part : ∀ ds S Q XX, Closed S → a_part ds S Q XX → w__law_part a_zero (endOf Q S.length) (startD ["d", "x", "k"] ds) S (GivesX XX S.length) := by
  rintro ds S Q XX hC ⟨k, l, i, rfl, q⟩
  unfold w__law_part
  walk_at "ax"
  split
  · rename_i h
    have ha : l[i]? = some (l[i]'(by omega)) := List.getElem?_eq_getElem (by omega)
    rw [Ser.cf_lt ha] at q
    walk_at "ax"
    rw [atQ_of (at_map ha)]
    walk_at "ax"
    exact gives_now q
  · rename_i h
    rw [Ser.cf_ge (by omega)] at q
    walk_at "ax"
    refine ⟨.b k, rfl, fun z hz => ?_⟩
    have hz : z = 0 := hz
    subst hz
    exact gives_now q
theorem Bk.Ok_zero : (k : Bk) → k.ok → k.Ok 0
  | .z, _ => by show (0 : Int).natAbs < 2 ^ 50000000; exact Nat.pow_pos (by decide)
  | .q, _ => ⟨Nat.pow_pos (by decide), Nat.one_lt_two_pow (by decide)⟩
  | .f _, h => h
theorem Bk.Ok_cf {k : Bk} (ok : k.ok) {l : List k.T} (h : ∀ a ∈ l, k.Ok a) (i : Nat) : k.Ok (Ser.cf l i) := by
  cases e : l[i]? with
  | none => rw [Ser.cf_ge (List.getElem?_eq_none_iff.mp e)]; exact k.Ok_zero ok
  | some a => rw [Ser.cf_lt e]; exact h a (get_mem e)
theorem range_of {T : Type} [Lean.Grind.CommRing T] {f : Ser T} {n : Nat} (h : ∀ i, n ≤ i → f.c i = 0) : Ser.of ((List.range n).map f.c) = f := Ser.ext fun i => by
  show Ser.cf _ i = f.c i
  rcases Nat.lt_or_ge i n with z | z
  · exact Ser.cf_lt (by rw [List.getElem?_map, List.getElem?_range z]; rfl)
  · rw [Ser.cf_ge (by rw [List.length_map, List.length_range]; exact z), h i z]
theorem p_ladd : ∀ ds S Q XX, Closed S → a_add ds S Q XX → w__law_add a_fr a_trim a_add0 a_part (endOf Q S.length) (startD ["d", "x", "y", "long", "k"] ds) S (GivesX XX S.length) := by
  rintro ds S Q XX hC ⟨k, x, y, rfl, hx, hy, q⟩
  cases k with
  | b k => exact ladd_base ⟨k, x, y, rfl, hx, hy, q _ rfl⟩
  | p k =>
    obtain ⟨x, nx⟩ := x
    obtain ⟨y, ny⟩ := y
    obtain ⟨ok, lx, ox⟩ := hx
    obtain ⟨_, ly, oy⟩ := hy
    have lx : x.length < 2 ^ 20 := lx
    have ly : y.length < 2 ^ 20 := ly
    have q : ∀ l : List k.T, Ser.nt l → Ser.of l = Ser.of x + Ser.of y → Q (pe k l) S := fun l hl e => q ⟨l, hl⟩ e
    unfold w__law_add
    simp only [Dk.dom, Dk.enc, pe]
    refine seq_same ?_ fun R hR => by walk_at "ax"; exact hR
    refine seq_same ?_ fun R hR => by walk_at "ax"; exact hR
    walk_at "ax"
    obtain ⟨n, e, h1, h2, h3⟩ : ∃ n : Nat, max (x.length : Int) y.length = (n : Nat) ∧ x.length ≤ n ∧ y.length ≤ n ∧ n < 2 ^ 20 := ⟨max x.length y.length, by omega, by omega, by omega, by omega⟩
    rw [e]
    refine ⟨⟨by omega, by omega⟩, by rw [rangeD_len]; omega, ?_⟩
    rw [Int.toNat_natCast]
    refine lcL_range 0 n (fun i => k.enc (Ser.cf x i + Ser.cf y i)) ?_ ?_
    · intro i acc R2 _ hR2
      walk_at "ax"
      refine ⟨k, x, i, by rw [Int.zero_add], ?_⟩
      walk_at "ax"
      refine ⟨k, y, i, by rw [Int.zero_add], ?_⟩
      walk_at "ax"
      refine ⟨k, Ser.cf x i, Ser.cf y i, rfl, Bk.Ok_cf ok ox i, Bk.Ok_cf ok oy i, ?_⟩
      walk_at "ax"
      exact hR2
    · walk_at "ax"
      refine ⟨k, (List.range n).map (Ser.of x + Ser.of y).c, _, rfl, by rw [List.map_map]; rfl, ?_⟩
      walk_at "ax"
      refine gives_now (q _ (Ser.nt_trim _) ?_)
      rw [Ser.of_trim, range_of fun i hi => ?_]
      rw [Ser.c_add]
      show Ser.cf x i + Ser.cf y i = 0
      rw [Ser.cf_ge (by omega), Ser.cf_ge (by omega)]
      grind
theorem p_lmul : ∀ ds S Q XX, Closed S → a_mul ds S Q XX → w__law_multiply a_fr a_zero a_add0 a_mul0 a_trim (endOf Q S.length) (startD ["d", "x", "y", "parts", "i", "j"] ds) S (GivesX XX S.length) := by
  rintro ds S Q XX hC ⟨k, x, y, rfl, h, q⟩
  cases k with
  | b k => exact lmul_base ⟨k, x, y, rfl, h.1, h.2, q _ rfl⟩
  | p k =>
    obtain ⟨x, nx⟩ := x
    obtain ⟨y, ny⟩ := y
    obtain ⟨D, D', N, N', h⟩ := h
    have h : MulPre k x y D D' N N' := h
    have q : ∀ l : List k.T, Ser.nt l → Ser.of l = Ser.of x * Ser.of y → Q (pe k l) S := fun l hl e => q ⟨l, hl⟩ e
    obtain ⟨ox, oy⟩ := h.okx
    have lx := h.l1
    have ly := h.l2
    unfold w__law_multiply
    simp only [Dk.dom, Dk.enc, pe]
    refine seq_same ?_ fun R hR => by walk_at "ax"; exact hR
    refine seq_same ?_ fun R hR => by walk_at "ax"; exact hR
    walk_at "ax"
    refine ⟨.b k, rfl, fun z hz => ?_⟩
    have hz : z = 0 := hz
    subst hz
    walk_at "ax"
    generalize hlen : ((x.length : Nat) : Int) + (y.length : Nat) = len'
    obtain ⟨len, rfl⟩ : ∃ len : Nat, len' = (len : Nat) := ⟨x.length + y.length, by omega⟩
    refine ⟨⟨by omega, by omega, by omega⟩, ⟨by omega, by omega⟩, ?_⟩
    rw [Int.toNat_natCast, Int.toNat_natCast, List.flatten_replicate_singleton, show List.replicate len ((Dk.b k).enc 0) = (List.replicate len (0 : k.T)).map k.enc by rw [List.map_replicate]; rfl]
    let P : Nat → ASt → Sto → Prop := fun i σ S' => ∃ acc : List k.T, S' = S ++ [.lst (acc.map k.enc)] ∧ (if i < x.length then MAcc k x y (D * D') (N * N') len i 0 acc else Ser.of acc = Ser.of x * Ser.of y) ∧ ∃ a b, σ = [some (.tup [.str "P", k.dom]), some (.tup (x.map k.enc)), some (.tup (y.map k.enc)), some (.ref S.length), a, b]
    refine rng_cut 0 x.length P ⟨List.replicate len 0, rfl, ?_, none, none, rfl⟩ ?_ ?_
    · split
      · exact mul_zeros
      · obtain rfl := List.eq_nil_of_length_eq_zero (show x.length = 0 by omega)
        rw [Ser.of_zeros, Ser.of_nil]
        grind
    · rintro i σ S' R2 hi ⟨acc, rfl, hacc, a, b, rfl⟩ hR2
      rw [if_pos hi] at hacc
      rw [Int.zero_add]
      have hu : x[i]? = some x[i] := List.getElem?_eq_getElem hi
      generalize x[i] = u at hu
      walk_at "ax"
      refine ⟨⟨by omega, by omega⟩, ?_⟩
      rw [Int.toNat_natCast]
      let P2 : Nat → ASt → Sto → Prop := fun j σ S' => ∃ acc : List k.T, S' = S ++ [.lst (acc.map k.enc)] ∧ MAcc k x y (D * D') (N * N') len i j acc ∧ ∃ c, σ = [some (.tup [.str "P", k.dom]), some (.tup (x.map k.enc)), some (.tup (y.map k.enc)), some (.ref S.length), some (.int (i : Nat)), c]
      refine rng_cut 0 y.length P2 ⟨acc, rfl, hacc, _, rfl⟩ ?_ ?_
      · rintro j σ S' R3 hj ⟨acc, rfl, hacc, c, rfl⟩ hR3
        rw [Int.zero_add]
        have hv : y[j]? = some y[j] := List.getElem?_eq_getElem hj
        generalize y[j] = v at hv
        have hw : acc[i + j]? = some (acc[i + j]'(by rw [hacc.len]; omega)) := List.getElem?_eq_getElem _
        generalize acc[i + j]'(by rw [hacc.len]; omega) = w at hw
        obtain ⟨ow, om⟩ := h.okacc hacc hi hj hu hv hw
        walk_at "ax"
        rw [show ((i : Nat) : Int) + (j : Nat) = ((i + j : Nat) : Int) by omega, ref_ix (last_cell ..), atQ_of (at_map hw)]
        walk_at "ax"
        rw [atQ_of (at_map hu)]
        walk_at "ax"
        rw [atQ_of (at_map hv)]
        walk_at "ax"
        refine ⟨k, u, v, rfl, ox _ (get_mem hu), oy _ (get_mem hv), ?_⟩
        walk_at "ax"
        refine ⟨k, w, u * v, rfl, ow, om, ?_⟩
        walk_at "ax"
        rw [show ((i : Nat) : Int) + (j : Nat) = ((i + j : Nat) : Int) by omega, ref_put (last_cell ..) (ixN_nat (by rw [List.length_map, hacc.len]; omega))]
        walk_at "ax"
        exact hR3 _ _ ⟨acc.set (i + j) (w + u * v), by rw [last_set, ← List.map_set], hacc.step hu hv hw (h.sx _ (get_mem hu)) (h.sy _ (get_mem hv)), _, rfl⟩
      · rintro σ S' ⟨acc, rfl, hacc, c, rfl⟩
        refine hR2 _ _ ⟨acc, rfl, ?_, _, _, rfl⟩
        split
        · exact hacc.next hu
        · exact hacc.done hu (by omega)
    · rintro σ S' ⟨acc, rfl, hacc, a, b, rfl⟩
      rw [if_neg (Nat.lt_irrefl _)] at hacc
      walk_at "ax"
      refine ⟨k, acc, _, rfl, items_ref (last_cell ..), ?_⟩
      walk_at "ax"
      refine gives_cl hC (pe_cl _) (q (Ser.trim acc) (Ser.nt_trim _) ?_)
      rw [Ser.of_trim, hacc]
theorem int_one (R : Type) [Lean.Grind.CommRing R] : (Lean.Grind.Ring.intCast.intCast 1 : R) = 1 := Lean.Grind.Ring.intCast_ofNat (α := R) 1
theorem Dk.has_one : (k : Dk) → ∃ o : k.E, k.val o = 1
  | .b _ => ⟨1, rfl⟩
  | .p k => ⟨⟨[1], (one_list k).1⟩, (one_list k).2⟩
theorem Dk.SOk.one : {k : Dk} → {u y : k.E} → k.SOk y → k.val u = -1 → k.MulOk u y
  | .b k, u, y, h, hu => by
    have ok : k.ok := Bk.ok_of h
    exact ⟨Dk.Fi.Ok (k := .b k) (Dk.Fi.neg (k := .b k) (x := (1 : k.T)) (Dk.Fi.one (k := .b k) ok rfl) hu) (by decide) (by decide) (by decide), h⟩
  | .p k, u, y, h, hu => by
    obtain ⟨o, ho⟩ := (Dk.p k).has_one
    exact Dk.Fi.mulOk (k := .p k) ((Dk.Fi.one (k := .p k) h.ok ho).neg (by rw [hu, ho])) h (by decide) (by decide) (by decide) (by decide)
theorem p_lsub : ∀ ds S Q XX, Closed S → a_sub ds S Q XX → w__law_subtract a_add a_mul a_int (endOf Q S.length) (startD ["d", "x", "y"] ds) S (GivesX XX S.length) := by
  rintro ds S Q XX hC ⟨k, x, y, rfl, hx, hy, q⟩
  unfold w__law_subtract
  walk_at "ax"
  refine ⟨k, -1, rfl, fun u hu => ?_⟩
  have hu : k.val u = -1 := by
    rw [hu]
    have e : (Lean.Grind.Ring.intCast.intCast (-1) : k.R) = -(Lean.Grind.Ring.intCast.intCast 1 : k.R) := Lean.Grind.Ring.intCast_neg 1
    rw [e, int_one]
  walk_at "ax"
  refine ⟨k, u, y, rfl, hy.one hu, fun v hv => ?_⟩
  walk_at "ax"
  have hv : k.val v = -k.val y := by rw [hv, hu]; grind
  refine ⟨k, x, v, rfl, hx, k.Ok_neg hv hy.okLen.1, fun w hw => gives_now (q w ?_)⟩
  rw [hw, hv]
  grind
theorem p_lpower : ∀ ds S Q XX, Closed S → a_power ds S Q XX → w__law_power a_int a_mul (endOf Q S.length) (startD ["d", "x", "k", "result"] ds) S (GivesX XX S.length) := by
  rintro ds S Q XX hC ⟨k, x, n, rfl, ok, hp, q⟩
  unfold w__law_power
  refine seq_cut (fun σ S' => S = S' ∧ ∃ f : k.E, k.val f = 1 ∧ σ = [some k.dom, some (k.enc x), some (.int (n : Nat)), some (k.enc f)]) ?_ fun R hR => by
    walk_at "ax"
    exact ⟨k, 1, rfl, fun f hf => by walk_at "ax"; exact hR _ _ ⟨rfl, f, hf.trans (int_one _), rfl⟩⟩
  rintro _ _ ⟨rfl, f, hf, rfl⟩
  refine seq_cut (fun σ S' => S = S' ∧ ∃ (a b c : D) (f : k.E), k.val f = k.val x ^ n ∧ σ = [some a, some b, some c, some (k.enc f)]) ?_ fun R hR => ?_
  · rintro _ _ ⟨rfl, a, b, c, f, hf, rfl⟩
    walk_at "ax"
    exact gives_now (q f hf)
  let P : Nat → ASt → Sto → Prop := fun v σ S' => S = S' ∧ ∃ (m : Nat) (y f : k.E), m = v ∧ σ = [some k.dom, some (k.enc y), some (.int (m : Nat)), some (k.enc f)] ∧ k.val f * k.val y ^ m = k.val x ^ n ∧ (0 < m → k.PowAt m y f)
  walk_at "ax"
  refine whl_cut P n ⟨rfl, n, x, f, rfl, rfl, by rw [hf]; grind, fun _ => hp.elim (fun h => .inl h.2) fun h => Dk.PowAt.start ok (.inr h) hf⟩ ?_
  rintro v σ S' R2 ⟨rfl, m, y, f, rfl, rfl, he, hp⟩ hR2
  walk_at "ax"
  split
  · rename_i h0
    have h0 : 0 < m := by omega
    have hp := hp h0
    refine seq_cut (fun σ S' => S = S' ∧ ∃ f' : k.E, σ = [some k.dom, some (k.enc y), some (.int (m : Nat)), some (k.enc f')] ∧ k.val f' * k.val y ^ (2 * (m / 2)) = k.val x ^ n ∧ k.PowAt (2 * (m / 2)) y f') ?_ fun R3 hR3 => ?_
    · rintro _ _ ⟨rfl, f', rfl, he', hp'⟩
      walk_at "ax"
      refine ⟨k, y, y, rfl, (hp.sq h0).1, fun z hz => ?_⟩
      walk_at "ax"
      rw [show ((m : Nat) : Int).fdiv 2 = ((m / 2 : Nat) : Int) by rw [fdiv_pos (by decide)]; omega]
      refine ⟨divOk_small (by decide) (by decide), hR2 (m / 2) _ _ (by omega) ⟨rfl, m / 2, z, f', rfl, rfl, ?_, fun hm => hp'.even hm hz⟩⟩
      rw [hz, pow_two_mul]
      exact he'
    · walk_at "ax"
      rw [show ((m : Nat) : Int).fmod 2 = ((m % 2 : Nat) : Int) by rw [fmod_pos (by decide)]; omega]
      split
      · rename_i ho
        walk_at "ax"
        refine ⟨k, f, y, rfl, (hp.sq h0).2, fun z hz => ?_⟩
        walk_at "ax"
        have e : m = 2 * (m / 2) + 1 := by omega
        refine hR3 _ _ ⟨rfl, z, rfl, ?_, ?_⟩
        · rw [hz, ← he]
          conv => rhs; rw [e, Lean.Grind.Semiring.pow_succ]
          grind
        · rw [e] at hp
          exact hp.odd hz
      · rename_i ho
        walk_at "ax"
        have e : m = 2 * (m / 2) := by omega
        refine hR3 _ _ ⟨rfl, f, rfl, by rw [← e]; exact he, by rw [← e]; exact hp⟩
  · rename_i h0
    have h0 : m = 0 := by omega
    subst h0
    refine hR _ _ ⟨rfl, _, _, _, f, ?_, rfl⟩
    rw [← he]; grind
/-! ### drawing domains and elements -/
def Pr (p : Nat) : Prop := 2 ≤ p ∧ ∀ k, 2 ≤ k → k * k ≤ p → p % k ≠ 0
theorem Pr_of {p : Nat} (h2 : 2 ≤ p) (hp : p ≤ 65535) (h : ∀ k, k < 256 → 2 ≤ k → k * k ≤ p → p % k ≠ 0) : Pr p := by
  refine ⟨h2, fun k k2 kk => ?_⟩
  rcases Nat.lt_or_ge k 256 with x | x
  · exact h k x k2 kk
  · have := Nat.mul_le_mul x x
    omega
theorem Pr_65521 : Pr 65521 := Pr_of (by decide) (by decide) (by decide +kernel)
theorem Pr_list {p : Int} (h : p ∈ ([2, 3, 5, 7, 11, 101, 65521] : List Int)) : ∃ m : Nat, p = ((m + 2 : Nat) : Int) ∧ Pr (m + 2) ∧ m + 2 ≤ 65521 := by
  simp only [List.mem_cons, List.not_mem_nil, or_false] at h
  rcases h with rfl | rfl | rfl | rfl | rfl | rfl | rfl
  · exact ⟨0, rfl, Pr_of (by decide) (by decide) (by decide +kernel), by decide⟩
  · exact ⟨1, rfl, Pr_of (by decide) (by decide) (by decide +kernel), by decide⟩
  · exact ⟨3, rfl, Pr_of (by decide) (by decide) (by decide +kernel), by decide⟩
  · exact ⟨5, rfl, Pr_of (by decide) (by decide) (by decide +kernel), by decide⟩
  · exact ⟨9, rfl, Pr_of (by decide) (by decide) (by decide +kernel), by decide⟩
  · exact ⟨99, rfl, Pr_of (by decide) (by decide) (by decide +kernel), by decide⟩
  · exact ⟨65519, rfl, Pr_65521, by decide⟩
def Bk.fld (k : Bk) : Prop := k = .q ∨ ∃ m, k = .f m ∧ Pr (m + 2) ∧ m + 2 ≤ 65521
def Dk.dr : Dk → Prop
  | .b k => k = .z ∨ k.fld
  | .p k => k.fld
theorem Bk.fld.ok {k : Bk} (h : k.fld) : k.ok := by
  rcases h with rfl | ⟨m, rfl, _, hm⟩
  · trivial
  · show m < 2 ^ 20
    omega
theorem Dk.dr.ok : {k : Dk} → k.dr → k.base.ok
  | .b _, .inl h => by subst h; trivial
  | .b _, .inr h => h.ok
  | .p _, h => Bk.fld.ok h
def a_sprime : ASp := fun ds S Q _ => ∃ n, ds = [.ref n] ∧ Dr S n ∧ ∀ (m : Nat) S', Pr (m + 2) → m + 2 ≤ 65521 → DrTo S n S' → Q (.int (m + 2 : Nat)) S'
def a_field : ASp := fun ds S Q _ => ∃ n, ds = [.ref n] ∧ Dr S n ∧ ∀ (k : Bk) S', k.fld → DrTo S n S' → Q k.dom S'
def a_domain : ASp := fun ds S Q _ => ∃ n, ds = [.ref n] ∧ Dr S n ∧ ∀ (k : Dk) S', k.dr → DrTo S n S' → Q k.dom S'
def a_small : ASp := fun ds S Q _ => ∃ (n : Nat) (k : Bk), ds = [.ref n, k.dom] ∧ Dr S n ∧ k.ok ∧ ∀ (x : k.T) S', k.sz 6 64 x → DrTo S n S' → Q (k.enc x) S'
def a_element : ASp := fun ds S Q _ => ∃ (n : Nat) (k : Dk), ds = [.ref n, k.dom] ∧ Dr S n ∧ k.base.ok ∧ ∀ (x : k.E) S', k.Fi 6 40 4 x → DrTo S n S' → Q (k.enc x) S'
theorem len_some_prime : ∀ ds S Q XX, a_sprime ds S Q XX → ds.length = 1 := by rintro ds S Q XX ⟨_, rfl, _⟩; rfl
theorem len_field : ∀ ds S Q XX, a_field ds S Q XX → ds.length = 1 := by rintro ds S Q XX ⟨_, rfl, _⟩; rfl
theorem len_domain : ∀ ds S Q XX, a_domain ds S Q XX → ds.length = 1 := by rintro ds S Q XX ⟨_, rfl, _⟩; rfl
theorem len_small : ∀ ds S Q XX, a_small ds S Q XX → ds.length = 2 := by rintro ds S Q XX ⟨_, _, rfl, _⟩; rfl
theorem len_element : ∀ ds S Q XX, a_element ds S Q XX → ds.length = 2 := by rintro ds S Q XX ⟨_, _, rfl, _⟩; rfl
theorem p_field : ∀ ds S Q XX, Closed S → a_field ds S Q XX → w__law_field a_take a_sprime (endOf Q S.length) (startD ["c", "primes", "k"] ds) S (GivesX XX S.length) := by
  rintro ds S Q XX hC ⟨n, rfl, hS, q⟩
  unfold w__law_field
  walk_at "ax"
  refine ⟨n, 14, rfl, hS, by omega, fun r S1 t r0 r1 => ?_⟩
  walk_at "ax"
  split
  · walk_at "ax"
    exact gives_now (q .q _ (.inl rfl) t)
  · rename_i h4
    walk_at "ax"
    split
    · walk_at "ax"
      refine ⟨n, rfl, hS.to t, fun m S2 hm h5 t2 => ?_⟩
      walk_at "ax"
      exact gives_now (q (.f m) _ (.inr ⟨m, rfl, hm, h5⟩) (t.trans t2))
    · rename_i h10
      walk_at "ax"
      obtain ⟨p, hp, e⟩ := at_ints [2, 3, 5, 7, 11, 101, 65521] (show 0 ≤ r - 4 by omega) (by simp only [List.length_cons, List.length_nil]; omega)
      obtain ⟨m, rfl, hm, h5⟩ := Pr_list hp
      simp only [List.map_cons, List.map_nil] at e
      rw [atQ_of e]
      walk_at "ax"
      exact gives_now (q (.f m) _ (.inr ⟨m, rfl, hm, h5⟩) t)
theorem p_domain : ∀ ds S Q XX, Closed S → a_domain ds S Q XX → w__law_domain a_take a_field (endOf Q S.length) (startD ["c", "k"] ds) S (GivesX XX S.length) := by
  rintro ds S Q XX hC ⟨n, rfl, hS, q⟩
  unfold w__law_domain
  walk_at "ax"
  refine ⟨n, 6, rfl, hS, by omega, fun r S1 t r0 r1 => ?_⟩
  walk_at "ax"
  split
  · walk_at "ax"
    exact gives_now (q (.b .z) _ (.inl rfl) t)
  · walk_at "ax"
    split
    · walk_at "ax"
      refine ⟨n, rfl, hS.to t, fun k S2 hk t2 => ?_⟩
      walk_at "ax"
      exact gives_now (q (.p k) _ hk (t.trans t2))
    · walk_at "ax"
      refine ⟨n, rfl, hS.to t, fun k S2 hk t2 => ?_⟩
      exact gives_now (q (.b k) _ (.inr hk) (t.trans t2))
theorem sz_frac {n d : Int} {D N : Nat} (k : Int) (hd : 0 < d) (e : d * k = (D : Int)) (h : (n * k).natAbs ≤ N) : Bk.sz .q D N (Rat.divInt n d) := by
  refine ⟨n * k, ?_, h⟩
  have d0 : (d : Rat) ≠ 0 := fun z => by
    have := Rat.intCast_inj.mp (z.trans (show (0 : Rat) = ((0 : Int) : Rat) from rfl))
    omega
  have e2 : ((D : Nat) : Rat) = (d : Rat) * (k : Rat) := by rw [← Rat.intCast_mul, e, Rat.intCast_natCast]
  rw [e2, Rat.intCast_mul, Rat.divInt_eq_div, ← Rat.mul_assoc, Rat.div_mul_cancel d0]
theorem small_any {A3 A4 : ASp} {ds : List D} {S : Sto} {Q : VKD} {XX : XKD} (q : a_small ds S Q XX) : w__law_small a_take a_fr A3 A4 (endOf Q S.length) (startD ["c", "d", "k"] ds) S (GivesX XX S.length) := by
  obtain ⟨n, k, rfl, hS, ok, q⟩ := q
  unfold w__law_small
  cases k with
  | z =>
    simp only [Bk.dom]
    walk_at "ax"
    refine ⟨n, 9, rfl, hS, by omega, fun r1 S1 t1 a0 a1 => ?_⟩
    walk_at "ax"
    refine ⟨n, 99, rfl, hS.to t1, by omega, fun r2 S2 t2 b0 b1 => ?_⟩
    walk_at "ax"
    refine ⟨n, 5, rfl, (hS.to t1).to t2, by omega, fun r3 S3 t3 c0 c1 => ?_⟩
    obtain ⟨m, hm, e⟩ := at_ints [r1 - 4, 0, 0, 1, r2 - 49] c0 c1
    simp only [List.map_cons, List.map_nil] at e
    walk_at "ax"
    rw [atQ_of e]
    walk_at "ax"
    refine gives_now (q m _ ?_ ((t1.trans t2).trans t3))
    show m.natAbs ≤ 64
    simp only [List.mem_cons, List.not_mem_nil, or_false] at hm
    omega
  | q =>
    simp only [Bk.dom]
    walk_at "ax"
    refine ⟨n, 9, rfl, hS, by omega, fun r1 S1 t1 a0 a1 => ?_⟩
    walk_at "ax"
    refine ⟨n, 3, rfl, hS.to t1, by omega, fun r2 S2 t2 b0 b1 => ?_⟩
    walk_at "ax"
    refine ⟨by omega, gives_now (q _ _ ?_ (t1.trans t2))⟩
    have h3 : r2 = 0 ∨ r2 = 1 ∨ r2 = 2 := by omega
    rcases h3 with rfl | rfl | rfl
    · exact sz_frac 6 (by decide) rfl (by omega)
    · exact sz_frac 3 (by decide) rfl (by omega)
    · exact sz_frac 2 (by decide) rfl (by omega)
  | f m =>
    simp only [Bk.dom]
    walk_at "ax"
    refine ⟨n, 65536, rfl, hS, by omega, fun r1 S1 t1 a0 a1 => ?_⟩
    obtain ⟨r, rfl⟩ : ∃ r : Nat, r1 = (r : Nat) := ⟨r1.toNat, by omega⟩
    have ok : m < 2 ^ 20 := ok
    walk_at "ax"
    rw [fin_cast]
    exact ⟨by omega, gives_now (q ⟨r % (m + 2), Nat.mod_lt _ (by omega)⟩ _ trivial t1)⟩
theorem p_small : ∀ ds S Q XX, Closed S → a_small ds S Q XX → w__law_small a_take a_fr aspNo aspNo (endOf Q S.length) (startD ["c", "d", "k"] ds) S (GivesX XX S.length) := fun _ _ _ _ _ q => small_any q
/-- small elements of any domain -/
def a_smalld : ASp := fun ds S Q _ => ∃ (n : Nat) (k : Dk), ds = [.ref n, k.dom] ∧ Dr S n ∧ k.base.ok ∧ ∀ (x : k.E) S', k.Fi 3 6 2 x → DrTo S n S' → Q (k.enc x) S'
theorem len_smalld : ∀ ds S Q XX, a_smalld ds S Q XX → ds.length = 2 := by rintro ds S Q XX ⟨_, _, rfl, _⟩; rfl
theorem small_poly {k : Bk} (ok : k.ok) {l : List k.T} {L : Nat} (hl : l.length ≤ L) (hs : ∀ a ∈ l, k.sz 6 64 a) : (Dk.p k).Fi 3 6 L ⟨Ser.trim l, Ser.nt_trim l⟩ := by
  refine ⟨ok, 6, by decide, by decide, Nat.le_trans (Ser.trim_len l) hl, fun i => ?_⟩
  show k.sz 6 (2 ^ 6) (Ser.cf (Ser.trim l) i)
  rw [Ser.cf_trim]
  cases e : l[i]? with
  | none => rw [Ser.cf_ge (List.getElem?_eq_none_iff.mp e)]; exact Bk.sz_mono (Nat.zero_le _) Bk.sz_zero
  | some a => rw [Ser.cf_lt e]; exact hs a (get_mem e)
theorem small_base {k : Bk} (ok : k.ok) {x : k.T} (h : k.sz 6 64 x) : (Dk.b k).Fi 3 6 1 x := ⟨ok, 6, by decide, by decide, h⟩
theorem p_smalld : ∀ ds S Q XX, Closed S → a_smalld ds S Q XX → w__law_small a_take a_fr a_trim a_small (endOf Q S.length) (startD ["c", "d", "k"] ds) S (GivesX XX S.length) := by
  rintro ds S Q XX hC ⟨n, k, rfl, hS, ok, q⟩
  cases k with
  | b k =>
    exact small_any ⟨n, k, rfl, hS, ok, fun x S' hx t => q x S' ((small_base ok hx).mono (by decide) (by decide) (by decide)) t⟩
  | p k =>
    unfold w__law_small
    simp only [Dk.dom]
    walk_at "ax"
    refine ⟨n, 3, rfl, hS, by omega, fun r S2 t2 a0 a1 => ?_⟩
    obtain ⟨m, rfl⟩ : ∃ m : Nat, r = (m : Nat) := ⟨r.toNat, by omega⟩
    walk_at "ax"
    refine ⟨⟨by omega, by omega⟩, by rw [rangeD_len]; omega, ?_⟩
    rw [Int.toNat_natCast]
    refine lc_cut (rangeD 0 m) (fun i acc S' => DrTo S n S' ∧ ∃ l : List k.T, l.length = i ∧ acc = l.map k.enc ∧ ∀ a ∈ l, k.sz 6 64 a) ⟨t2, [], rfl, rfl, fun a ha => nomatch ha⟩ ?_ ?_
    · rintro i d acc S3 R hd ⟨t3, l, hl, rfl, hs⟩ hR
      obtain ⟨_, rfl⟩ := rangeD_get hd
      walk_at "ax"
      refine ⟨n, k, rfl, hS.to t3, ok, fun a S4 ha t4 => ?_⟩
      walk_at "ax"
      refine hR _ _ ⟨t3.trans t4, l ++ [a], by rw [List.length_append, hl]; rfl, by rw [List.map_append]; rfl, fun b hb => ?_⟩
      rcases List.mem_append.mp hb with hb | hb
      · exact hs b hb
      · rw [List.mem_singleton.mp hb]; exact ha
    · rintro acc S3 ⟨t3, l, hl, rfl, hs⟩
      rw [rangeD_len] at hl
      walk_at "ax"
      refine ⟨k, l, _, rfl, rfl, ?_⟩
      walk_at "ax"
      exact gives_now (q ⟨Ser.trim l, Ser.nt_trim l⟩ _ (small_poly (L := 2) ok (show l.length ≤ 2 by rw [hl]; omega) hs) t3)
theorem p_element : ∀ ds S Q XX, Closed S → a_element ds S Q XX → w__law_element a_integer a_take a_fr a_trim a_small (endOf Q S.length) (startD ["c", "d", "n", "k"] ds) S (GivesX XX S.length) := by
  rintro ds S Q XX hC ⟨n, k, rfl, hS, ok, q⟩
  unfold w__law_element
  refine seq_cut (fun σ S' => DrTo S n S' ∧ ∃ v : Int, σ = [some (.ref n), some k.dom, some (.int v), none]) ?_ fun R hR => by
    walk_at "ax"
    refine ⟨n, rfl, hS, fun r S2 t _ => ?_⟩
    walk_at "ax"
    exact hR _ _ ⟨t, r, rfl⟩
  rintro _ S1 ⟨t1, v, rfl⟩
  refine seq_cut (fun σ S' => DrTo S n S' ∧ ∃ v : Int, v.natAbs ≤ 1000000000000 ∧ σ = [some (.ref n), some k.dom, some (.int v), none]) ?_ fun R hR => by
    walk_at "ax"
    split
    · walk_at "ax"
      refine ⟨n, 2, rfl, hS.to t1, by omega, fun r S2 t2 a0 a1 => ?_⟩
      obtain ⟨m, hm, e⟩ := at_ints [1, -1] a0 a1
      simp only [List.map_cons, List.map_nil] at e
      walk_at "ax"
      rw [atQ_of e]
      walk_at "ax"
      rw [fmod_pos (by decide)]
      simp only [List.mem_cons, List.not_mem_nil, or_false] at hm
      have b0 := Int.emod_nonneg v (show (1000000000000 : Int) ≠ 0 by decide)
      have b1 := Int.emod_lt_of_pos v (show (0 : Int) < 1000000000000 by decide)
      refine ⟨mulOk_small (.inr (by omega)), hR _ _ ⟨t1.trans t2, _, ?_, rfl⟩⟩
      rcases hm with rfl | rfl <;> omega
    · walk_at "ax"
      exact hR _ _ ⟨t1, v, by omega, rfl⟩
  clear t1 v
  rintro _ S1 ⟨t1, v, hv, rfl⟩
  have h1 := hS.to t1
  cases k with
  | b k =>
    cases k with
    | z =>
      simp only [Dk.dom, Bk.dom]
      walk_at "ax"
      refine gives_now (q v _ ⟨ok, 1, by decide, by decide, ?_⟩ t1)
      show v.natAbs ≤ 2 ^ 40
      omega
    | q =>
      simp only [Dk.dom, Bk.dom]
      walk_at "ax"
      refine ⟨n, 50, rfl, h1, by omega, fun r2 S2 t2 a0 a1 => ?_⟩
      walk_at "ax"
      refine ⟨n, 5, rfl, h1.to t2, by omega, fun r3 S3 t3 c0 c1 => ?_⟩
      obtain ⟨m, hm, e⟩ := at_ints [1, 1, 2, 3, 1 + r2] c0 c1
      simp only [List.map_cons, List.map_nil] at e
      walk_at "ax"
      rw [atQ_of e]
      walk_at "ax"
      simp only [List.mem_cons, List.not_mem_nil, or_false] at hm
      refine ⟨by omega, gives_now (q _ _ ⟨ok, m.toNat, by omega, by omega, ?_⟩ ((t1.trans t2).trans t3))⟩
      exact sz_frac 1 (by omega) (by omega) (by omega)
    | f m =>
      simp only [Dk.dom, Bk.dom]
      walk_at "ax"
      refine ⟨n, 65536, rfl, h1, by omega, fun r1 S2 t2 a0 a1 => ?_⟩
      obtain ⟨r, rfl⟩ : ∃ r : Nat, r1 = (r : Nat) := ⟨r1.toNat, by omega⟩
      have ok2 : m < 2 ^ 20 := ok
      walk_at "ax"
      rw [fin_cast]
      exact ⟨by omega, gives_now (q ⟨r % (m + 2), Nat.mod_lt _ (by omega)⟩ _ ⟨ok, 1, by decide, by decide, trivial⟩ (t1.trans t2))⟩
  | p k =>
    simp only [Dk.dom]
    walk_at "ax"
    refine ⟨n, 5, rfl, h1, by omega, fun r S2 t2 a0 a1 => ?_⟩
    obtain ⟨m, rfl⟩ : ∃ m : Nat, r = (m : Nat) := ⟨r.toNat, by omega⟩
    walk_at "ax"
    refine ⟨⟨by omega, by omega⟩, by rw [rangeD_len]; omega, ?_⟩
    rw [Int.toNat_natCast]
    refine lc_cut (rangeD 0 m) (fun i acc S' => DrTo S n S' ∧ ∃ l : List k.T, l.length = i ∧ acc = l.map k.enc ∧ ∀ a ∈ l, k.sz 6 64 a) ⟨t1.trans t2, [], rfl, rfl, fun a ha => nomatch ha⟩ ?_ ?_
    · rintro i d acc S3 R hd ⟨t3, l, hl, rfl, hs⟩ hR
      obtain ⟨_, rfl⟩ := rangeD_get hd
      walk_at "ax"
      refine ⟨n, k, rfl, hS.to t3, ok, fun a S4 ha t4 => ?_⟩
      walk_at "ax"
      refine hR _ _ ⟨t3.trans t4, l ++ [a], by rw [List.length_append, hl]; rfl, by rw [List.map_append]; rfl, fun b hb => ?_⟩
      rcases List.mem_append.mp hb with hb | hb
      · exact hs b hb
      · rw [List.mem_singleton.mp hb]; exact ha
    · rintro acc S3 ⟨t3, l, hl, rfl, hs⟩
      rw [rangeD_len] at hl
      walk_at "ax"
      refine ⟨k, l, _, rfl, rfl, ?_⟩
      walk_at "ax"
      refine gives_now (q ⟨Ser.trim l, Ser.nt_trim l⟩ _ ⟨ok, 6, by decide, by decide, Nat.le_trans (Ser.trim_len l) (by omega), fun i => ?_⟩ t3)
      show k.sz 6 (2 ^ 40) (Ser.cf (Ser.trim l) i)
      rw [Ser.cf_trim]
      cases e : l[i]? with
      | none => rw [Ser.cf_ge (List.getElem?_eq_none_iff.mp e)]; exact Bk.sz_mono (Nat.zero_le _) Bk.sz_zero
      | some a => rw [Ser.cf_lt e]; exact Bk.sz_mono (by decide) (hs a (get_mem e))
theorem p_some_prime : ∀ ds S Q XX, Closed S → a_sprime ds S Q XX → w__law_some_prime a_take (endOf Q S.length) (startD ["c", "p", "k"] ds) S (GivesX XX S.length) := by
  rintro ds S Q XX hC ⟨n, rfl, hS, q⟩
  unfold w__law_some_prime
  refine seq_cut (fun σ S' => DrTo S n S' ∧ ∃ p : Nat, 2 ≤ p ∧ p ≤ 65521 ∧ σ = [some (.ref n), some (.int (p : Nat)), none]) ?_ fun R hR => by
    walk_at "ax"
    refine ⟨n, 65520, rfl, hS, by omega, fun r S1 t r0 r1 => ?_⟩
    walk_at "ax"
    exact hR _ _ ⟨t, (2 + r).toNat, by omega, by omega, by rw [Int.toNat_of_nonneg (by omega)]⟩
  rintro _ S1 ⟨t1, p, h2, h5, rfl⟩
  refine seq_cut (fun σ S' => S' = S1 ∧ ∃ (m : Nat) (o : Option D), Pr (m + 2) ∧ m + 2 ≤ 65521 ∧ σ = [some (.ref n), some (.int (m + 2 : Nat)), o]) ?_ fun R hR => ?_
  · rintro _ _ ⟨rfl, m, o, hm, hp, rfl⟩
    walk_at "ax"
    exact gives_now (q m _ hm hp t1)
  · walk_at "ax"
    refine whl_cut (fun v σ S' => S' = S1 ∧ ∃ (p : Nat) (o : Option D), 2 ≤ p ∧ p ≤ 65521 ∧ v = 65521 - p ∧ σ = [some (.ref n), some (.int (p : Nat)), o]) (65521 - p) ⟨rfl, p, none, h2, h5, rfl, rfl⟩ ?_
    rintro v σ S' R2 ⟨rfl, p, o, h2, h5, rfl, rfl⟩ hR2
    walk_at "ax"
    refine ⟨by rw [rangeD_len]; omega, ?_⟩
    refine lc_cut (rangeD 2 255) (fun i acc S1 => S1 = S' ∧ ∃ bs : List Bool, acc = bs.map D.bl ∧ (bs.any id = true ↔ ∃ j : Nat, 2 ≤ j ∧ j < 2 + i ∧ j * j ≤ p ∧ p % j = 0)) ⟨rfl, [], rfl, by simp; omega⟩ ?_ ?_
    · rintro i d acc _ R3 hd ⟨rfl, bs, rfl, hb⟩ hR3
      obtain ⟨hi, rfl⟩ := rangeD_get hd
      walk_at "ax"
      rw [show (2 : Int) + (i : Nat) = ((2 + i : Nat) : Int) by omega, ← Int.natCast_mul, fmod_pos (by omega), ← Int.natCast_emod]
      generalize hq : 2 + i = m at *
      refine ⟨mulOk_small (.inl (by omega)), ?_⟩
      split
      · rename_i hle
        have hle : m * m ≤ p := Int.ofNat_le.mp hle
        refine ⟨by omega, hR3 _ _ ⟨rfl, bs ++ [decide (((p % m : Nat) : Int) = 0)], by rw [List.map_append]; rfl, ?_⟩⟩
        rw [List.any_append, Bool.or_eq_true, hb]
        simp only [List.any_cons, List.any_nil, Bool.or_false, id, decide_eq_true_eq]
        constructor
        · rintro (⟨j, j2, j3, j4, j5⟩ | h)
          · exact ⟨j, j2, by omega, j4, j5⟩
          · exact ⟨m, by omega, by omega, hle, by omega⟩
        · rintro ⟨j, j2, j3, j4, j5⟩
          rcases Nat.lt_or_ge j m with z | z
          · exact .inl ⟨j, j2, z, j4, j5⟩
          · have : j = m := by omega
            subst this
            exact .inr (by omega)
      · rename_i hle
        have hle : ¬(m * m ≤ p) := fun z => hle (Int.ofNat_le.mpr z)
        refine hR3 _ _ ⟨rfl, bs, rfl, ?_⟩
        rw [hb]
        constructor
        · rintro ⟨j, j2, j3, j4, j5⟩
          exact ⟨j, j2, by omega, j4, j5⟩
        · rintro ⟨j, j2, j3, j4, j5⟩
          rcases Nat.lt_or_ge j m with z | z
          · exact ⟨j, j2, z, j4, j5⟩
          · have : j = m := by omega
            subst this
            exact absurd j4 hle
    · rintro acc _ ⟨rfl, bs, rfl, hb⟩
      rw [rangeD_len] at hb
      walk_at "ax"
      rw [blQ_map]
      walk_at "ax"
      split
      · rename_i h
        obtain ⟨j, j2, j3, j4, j5⟩ := hb.mp h
        have ne : p ≠ 65521 := fun z => by
          subst z
          exact Pr_65521.2 j j2 j4 j5
        walk_at "ax"
        exact hR2 (65521 - (p + 1)) _ _ (by omega) ⟨rfl, p + 1, o, by omega, by omega, rfl, rfl⟩
      · rename_i h
        refine hR _ _ ⟨rfl, p - 2, o, ?_, by omega, by rw [show p - 2 + 2 = p by omega]⟩
        rw [show p - 2 + 2 = p by omega]
        exact Pr_of h2 (by omega) fun m h256 m2 mm e => h (hb.mpr ⟨m, m2, by omega, mm, e⟩)
/-! ### common -/
def ComOk (a b g s t : Int) : Prop := (a = 0 ∧ b = 0 ∧ g = 0 ∧ s = 0 ∧ t = 0) ∨
  (¬(a = 0 ∧ b = 0) ∧ 0 < g ∧ s * a + t * b = g ∧ (∃ a', a = g * a' ∧ (a ≠ 0 → b ≠ 0 → t.natAbs ≤ a'.natAbs)) ∧ (∃ b', b = g * b' ∧ (a ≠ 0 → b ≠ 0 → s.natAbs ≤ b'.natAbs)) ∧ (b = 0 → t = 0 ∧ s.natAbs = 1) ∧ (a = 0 → s = 0 ∧ t.natAbs = 1))
def a_common : ASp := fun ds S Q _ => ∃ a b : Int, ds = [.int a, .int b] ∧ a.natAbs < 2 ^ 50000000 ∧ b.natAbs < 2 ^ 50000000 ∧ ∀ g s t, ComOk a b g s t → Q (.tup [.int g, .int s, .int t]) S
theorem len_common : ∀ ds S Q XX, a_common ds S Q XX → ds.length = 2 := by rintro ds S Q XX ⟨n, m, rfl, _⟩; rfl
/-- the two rows of the Euclidean algorithm for A, B -/
structure CInv (A B r0 s0 t0 r1 s1 t1 e S0 S1 T0 T1 : Int) : Prop where
  he : e = 1 ∨ e = -1
  S0p : 0 ≤ S0
  S1p : 0 ≤ S1
  T0p : 0 ≤ T0
  T1p : 0 ≤ T1
  s0e : s0 = e * S0
  s1e : s1 = -(e * S1)
  t0e : t0 = -(e * T0)
  t1e : t1 = e * T1
  r0p : 0 < r0
  r1p : 0 ≤ r1
  hB : r0 * S1 + r1 * S0 = B
  hA : r0 * T1 + r1 * T0 = A
  l0 : s0 * A + t0 * B = r0
  l1 : s1 * A + t1 * B = r1
  ord : r1 ≤ r0 ∨ (S1 = 0 ∧ T0 = 0)
  bS : r0 * S0 ≤ B ∨ S1 = 0
  bT : r0 * T0 ≤ A ∨ T1 = 0
theorem CInv.step {A B r0 s0 t0 r1 s1 t1 e S0 S1 T0 T1 : Int} (h : CInv A B r0 s0 t0 r1 s1 t1 e S0 S1 T0 T1) (hr : r1 ≠ 0) :
    CInv A B r1 s1 t1 (r0 - r0 / r1 * r1) (s0 - r0 / r1 * s1) (t0 - r0 / r1 * t1) (-e) S1 (S0 + r0 / r1 * S1) T1 (T0 + r0 / r1 * T1) ∧ r0 - r0 / r1 * r1 < r1 := by
  have r1p : 0 < r1 := by have := h.r1p; omega
  have hm : r0 - r0 / r1 * r1 = r0 % r1 := by have := Int.emod_add_mul_ediv r0 r1; grind
  have m0 := Int.emod_nonneg r0 hr
  have m1 := Int.emod_lt_of_pos r0 r1p
  have q0 : 0 ≤ r0 / r1 := Int.ediv_nonneg (Int.le_of_lt h.r0p) (Int.le_of_lt r1p)
  have qs := Int.mul_nonneg q0 h.S1p
  have qt := Int.mul_nonneg q0 h.T1p
  obtain ⟨he, S0p, S1p, T0p, T1p, s0e, s1e, t0e, t1e, r0p, _, hB, hA, l0, l1, ord, bS, bT⟩ := h
  generalize hq : r0 / r1 = q at *
  refine ⟨⟨by omega, S1p, by omega, T1p, by omega, ?_, ?_, ?_, ?_, r1p, by omega, ?_, ?_, l1, ?_, .inl (by omega), ?_, ?_⟩, by omega⟩
  · rw [s1e, Int.neg_mul]
  · rw [s0e, s1e]; grind
  · rw [t1e]; grind
  · rw [t0e, t1e]; grind
  · grind
  · grind
  · grind
  · rcases ord with o | ⟨o, _⟩
    · left
      have a := Int.mul_le_mul_of_nonneg_right o S1p
      have b := Int.mul_nonneg (Int.le_of_lt r1p) S0p
      omega
    · left
      rw [o, Int.mul_zero]
      have b := Int.mul_nonneg (Int.le_of_lt r1p) S0p
      rw [o, Int.mul_zero] at hB
      omega
  · by_cases o : r1 ≤ r0
    · left
      have a := Int.mul_le_mul_of_nonneg_right o T1p
      have b := Int.mul_nonneg (Int.le_of_lt r1p) T0p
      omega
    · right
      have o2 := ord.resolve_left o
      have e0 : q = 0 := by rw [← hq]; exact Int.ediv_eq_zero_of_lt (Int.le_of_lt r0p) (by omega)
      rw [o2.2, e0, Int.zero_mul]; rfl
theorem natAbs_mul_nonneg {e x : Int} (h : e = 1 ∨ e = -1) : (e * x).natAbs = x.natAbs := by
  rcases h with rfl | rfl
  · rw [Int.one_mul]
  · rw [Int.neg_mul, Int.one_mul, Int.natAbs_neg]
/-- what the sizes of the rows are -/
theorem CInv.small {A B r0 s0 t0 r1 s1 t1 e S0 S1 T0 T1 : Int} (h : CInv A B r0 s0 t0 r1 s1 t1 e S0 S1 T0 T1) : s1.natAbs ≤ B.natAbs ∧ t1.natAbs ≤ A.natAbs := by
  have a := Int.mul_nonneg h.r1p h.S0p
  have b := Int.mul_nonneg h.r1p h.T0p
  have c := Int.mul_le_mul_of_nonneg_right (show (1 : Int) ≤ r0 by have := h.r0p; omega) h.S1p
  have d := Int.mul_le_mul_of_nonneg_right (show (1 : Int) ≤ r0 by have := h.r0p; omega) h.T1p
  have := h.hB; have := h.hA; have := h.S1p; have := h.T1p
  rw [h.s1e, h.t1e, Int.natAbs_neg, natAbs_mul_nonneg h.he, natAbs_mul_nonneg h.he]
  omega
theorem CInv.done {a b A B r0 s0 t0 s1 t1 e S0 S1 T0 T1 : Int} (h : CInv A B r0 s0 t0 0 s1 t1 e S0 S1 T0 T1) (ha : A = a.natAbs) (hb : B = b.natAbs) (a0 : a ≠ 0) (b0 : b ≠ 0) :
    ComOk a b r0 (if 0 < a then s0 else -s0) (if 0 < b then t0 else -t0) := by
  have hB := h.hB; have hA := h.hA
  rw [Int.zero_mul, Int.add_zero] at hB hA
  have B0 : 0 < B := by omega
  have A0 : 0 < A := by omega
  have S1n : S1 ≠ 0 := by rintro rfl; rw [Int.mul_zero] at hB; omega
  have T1n : T1 ≠ 0 := by rintro rfl; rw [Int.mul_zero] at hA; omega
  have lS : S0 ≤ S1 := by
    have := h.bS.resolve_right S1n
    rw [← hB] at this
    exact Int.le_of_mul_le_mul_left this h.r0p
  have lT : T0 ≤ T1 := by
    have := h.bT.resolve_right T1n
    rw [← hA] at this
    exact Int.le_of_mul_le_mul_left this h.r0p
  have l0 := h.l0
  have n0 := h.S0p; have n1 := h.T0p
  have sabs : s0.natAbs = S0.natAbs := by rw [h.s0e, natAbs_mul_nonneg h.he]
  have tabs : t0.natAbs = T0.natAbs := by rw [h.t0e, Int.natAbs_neg, natAbs_mul_nonneg h.he]
  right
  refine ⟨fun z => a0 z.1, h.r0p, ?_, ⟨if 0 < a then T1 else -T1, ?_, fun _ _ => ?_⟩, ⟨if 0 < b then S1 else -S1, ?_, fun _ _ => ?_⟩, fun z => absurd z b0, fun z => absurd z a0⟩
  · by_cases pa : 0 < a <;> by_cases pb : 0 < b <;> simp only [pa, pb, if_true, if_false]
    · rw [show a = A by omega, show b = B by omega]; exact l0
    · rw [show a = A by omega, show b = -B by omega]; grind
    · rw [show a = -A by omega, show b = B by omega]; grind
    · rw [show a = -A by omega, show b = -B by omega]; grind
  · split <;> grind
  · split <;> split <;> omega
  · split <;> grind
  · split <;> split <;> omega
theorem p_common : ∀ ds S Q XX, Closed S → a_common ds S Q XX → w_common (endOf Q S.length) (startD ["a", "b", "first", "second", "q", "g", "s", "t"] ds) S (GivesX XX S.length) := by
  rintro ds S Q XX hC ⟨a, b, rfl, ha, hb, q⟩
  unfold w_common
  refine seq_cut (fun σ S' => S = S' ∧ σ = [some (.int a), some (.int b), none, none, none, none, none, none] ∧ ¬(a = 0 ∧ b = 0)) ?_ ?_
  rotate_left
  · intro R hR
    walk_at "aw"
    split
    · split
      · exact gives_now (q _ _ _ (.inl ⟨by assumption, by assumption, rfl, rfl, rfl⟩))
      · exact hR _ _ ⟨rfl, rfl, by omega⟩
    · exact hR _ _ ⟨rfl, rfl, by omega⟩
  rintro _ _ ⟨rfl, rfl, h0⟩
  refine seq_cut (fun σ S' => S = S' ∧ σ = [some (.int a), some (.int b), none, none, none, none, none, none] ∧ b ≠ 0) ?_ ?_
  rotate_left
  · intro R hR
    walk_at "aw"
    split
    · rename_i e
      subst e
      have a0 : a ≠ 0 := fun z => h0 ⟨z, rfl⟩
      have gen : ∀ s : Int, s * a = a.natAbs → s.natAbs = 1 → ComOk a 0 a.natAbs s 0 := fun s hs h1 =>
        .inr ⟨h0, by omega, by rw [Int.zero_mul, Int.add_zero]; exact hs, ⟨s, by rcases Int.natAbs_eq s with z | z <;> (rw [h1] at z; rw [z] at hs ⊢; omega), fun _ z => absurd rfl z⟩, ⟨0, by omega, fun _ z => absurd rfl z⟩, fun _ => ⟨rfl, h1⟩, fun z => absurd z a0⟩
      split
      · exact gives_now (q _ _ _ (gen 1 (by omega) rfl))
      · exact gives_now (q _ _ _ (gen (-1) (by omega) rfl))
    · exact hR _ _ ⟨rfl, rfl, by assumption⟩
  rintro _ _ ⟨rfl, rfl, b0⟩
  refine seq_cut (fun σ S' => S = S' ∧ σ = [some (.int a), some (.int b), none, none, none, none, none, none] ∧ a ≠ 0) ?_ ?_
  rotate_left
  · intro R hR
    walk_at "aw"
    split
    · rename_i e
      subst e
      have gen : ∀ s : Int, s * b = b.natAbs → s.natAbs = 1 → ComOk 0 b b.natAbs 0 s := fun s hs h1 =>
        .inr ⟨h0, by omega, by rw [Int.zero_mul, Int.zero_add]; exact hs, ⟨0, by omega, fun z => absurd rfl z⟩, ⟨s, by rcases Int.natAbs_eq s with z | z <;> (rw [h1] at z; rw [z] at hs ⊢; omega), fun z => absurd rfl z⟩, fun z => absurd z b0, fun _ => ⟨rfl, h1⟩⟩
      split
      · exact gives_now (q _ _ _ (gen 1 (by omega) rfl))
      · exact gives_now (q _ _ _ (gen (-1) (by omega) rfl))
    · exact hR _ _ ⟨rfl, rfl, by assumption⟩
  rintro _ _ ⟨rfl, rfl, a0⟩
  let P : Nat → ASt → Sto → Prop := fun m σ S' => S = S' ∧ ∃ r0 s0 t0 r1 s1 t1 e S0 S1 T0 T1 y, CInv a.natAbs b.natAbs r0 s0 t0 r1 s1 t1 e S0 S1 T0 T1 ∧ m = r1.toNat ∧
    r0 ≤ max a.natAbs b.natAbs ∧ r1 ≤ max a.natAbs b.natAbs ∧
    σ = [some (.int a), some (.int b), some (.tup [.int r0, .int s0, .int t0]), some (.tup [.int r1, .int s1, .int t1]), y, none, none, none]
  refine seq_cut (fun σ S' => S = S' ∧ σ = [some (.int a), some (.int b), some (.tup [.int a.natAbs, .int 1, .int 0]), none, none, none, none, none]) ?_ ?_
  rotate_left
  · intro R hR
    walk_at "aw"
    exact hR _ _ ⟨rfl, rfl⟩
  rintro _ _ ⟨rfl, rfl⟩
  refine seq_cut (fun σ S' => P b.natAbs σ S') ?_ ?_
  rotate_left
  · intro R hR
    walk_at "aw"
    refine hR _ _ ⟨rfl, a.natAbs, 1, 0, b.natAbs, 0, 1, 1, 1, 0, 0, 1, none, ⟨.inl rfl, by decide, by decide, by decide, by decide, rfl, rfl, rfl, rfl, by omega, by omega, by omega, by omega, by omega, by omega, .inr ⟨rfl, rfl⟩, .inr rfl, .inl (by omega)⟩, by omega, by omega, by omega, rfl⟩
  intro σ S' hP
  refine seq_cut (fun σ S' => P 0 σ S') ?_ ?_
  rotate_left
  · intro R hR
    refine while_cut P _ hP ?_
    rintro m σ S' R2 ⟨rfl, r0, s0, t0, r1, s1, t1, e, S0, S1, T0, T1, y, hI, rfl, m0, m1, rfl⟩ hR2
    walk_at "aw"
    by_cases hr : r1 = 0
    · rw [if_pos hr]
      subst hr
      exact hR _ _ ⟨rfl, r0, s0, t0, 0, s1, t1, e, S0, S1, T0, T1, y, hI, rfl, m0, m1, rfl⟩
    · rw [if_neg hr]
      obtain ⟨hJ, hlt⟩ := hI.step hr
      have r0p := hI.r0p
      have r1p := hI.r1p
      have h2 := hJ.r1p
      have big : ∀ x : Int, 0 ≤ x → x ≤ ((max a.natAbs b.natAbs : Nat) : Int) → x.natAbs < 2 ^ 50000000 := by
        intro x h0 hx
        generalize (2 : Nat) ^ 50000000 = z at *
        omega
      have q0 : 0 ≤ r0 / r1 := Int.ediv_nonneg (by omega) (by omega)
      have q1 : r0 / r1 ≤ r0 := Int.ediv_le_self _ (by omega)
      obtain ⟨z1, z2⟩ := hI.small
      have bq := big (r0 / r1) q0 (by omega)
      have b1 := big r1 (by omega) m1
      have bs : s1.natAbs < 2 ^ 50000000 := by
        generalize (2 : Nat) ^ 50000000 = z at *
        omega
      have bt : t1.natAbs < 2 ^ 50000000 := by
        generalize (2 : Nat) ^ 50000000 = z at *
        omega
      rw [fdiv_pos (by omega)]
      refine ⟨hr, mulOk_of bq b1 (by decide), mulOk_of bq bs (by decide), mulOk_of bq bt (by decide), ?_⟩
      exact hR2 _ _ _ (by omega) ⟨rfl, _, _, _, _, _, _, _, _, _, _, _, _, hJ, rfl, m1, by omega, rfl⟩
  rintro σ S' ⟨rfl, r0, s0, t0, r1, s1, t1, e, S0, S1, T0, T1, y, hI, hm, m0, m1, rfl⟩
  have r1p := hI.r1p
  have hr : r1 = 0 := by omega
  subst hr
  have fin := hI.done rfl rfl a0 b0
  walk_at "aw"
  split <;> split <;> rename_i x1 x2 <;> simp only [x1, x2, if_true, if_false] at fin <;> exact gives_now (q _ _ _ fin)
/-! ### primes by trial division -/
def IsP (n : Int) : Prop := 1 < n ∧ ∀ k : Int, 2 ≤ k → k * k ≤ n → n % k ≠ 0
def a_isp : ASp := fun ds S Q _ => ∃ n : Int, ds = [.int n] ∧ n.natAbs < 2 ^ 64 ∧ ∀ b : Bool, (b = true ↔ IsP n) → Q (.bl b) S
def a_next : ASp := fun ds S Q _ => ∃ n : Int, ds = [.int n] ∧ (0 ≤ n ∧ n ≤ 2147483648) ∧ ∀ p : Int, (n < p ∧ p ≤ 2147483659 ∧ IsP p ∧ ∀ j, n < j → j < p → ¬IsP j) → Q (.int p) S
theorem len_isp : ∀ ds S Q XX, a_isp ds S Q XX → ds.length = 1 := by rintro ds S Q XX ⟨n, rfl, _⟩; rfl
theorem len_is_prime : ∀ ds S Q XX, a_isp ds S Q XX → ds.length = 1 := len_isp
theorem len_next : ∀ ds S Q XX, a_next ds S Q XX → ds.length = 1 := by rintro ds S Q XX ⟨n, rfl, _⟩; rfl
theorem len_next_prime : ∀ ds S Q XX, a_next ds S Q XX → ds.length = 1 := len_next
theorem isp_small {n : Int} (h : n < 4) : (decide (1 < n) = true ↔ IsP n) := by
  rw [decide_eq_true_eq]
  refine ⟨fun h1 => ⟨h1, fun k k2 kk => ?_⟩, fun h => h.1⟩
  have := Int.mul_le_mul k2 k2 (by decide) (by omega)
  omega
theorem isp_not {n k : Int} (k2 : 2 ≤ k) (kk : k * k ≤ n) (h : n % k = 0) : (false = true ↔ IsP n) := ⟨fun z => (nomatch z), fun p => absurd h (p.2 k k2 kk)⟩
theorem isp_yes {n k : Int} (h4 : 4 ≤ n) (h2 : n % 2 ≠ 0) (hk : 3 ≤ k) (odd : k % 2 = 1) (hi : ∀ j, 2 ≤ j → j < k → n % j ≠ 0) (h : n < k * k) : (true = true ↔ IsP n) := by
  refine ⟨fun _ => ⟨by omega, fun j j2 jj hj => ?_⟩, fun _ => rfl⟩
  rcases Int.lt_or_le j k with x | x
  · exact hi j j2 x hj
  · have := Int.mul_le_mul x x (by omega) (by omega)
    omega
theorem isp_turn {n k : Int} (h2 : n % 2 ≠ 0) (odd : k % 2 = 1) (hi : ∀ j, 2 ≤ j → j < k → n % j ≠ 0) (h : n % k ≠ 0) : ∀ j, 2 ≤ j → j < k + 2 → n % j ≠ 0 := by
  intro j j2 jk hj
  rcases Int.lt_or_le j k with x | x
  · exact hi j j2 x hj
  · rcases (show j = k ∨ j = k + 1 by omega) with rfl | rfl
    · exact h hj
    · have a : (k + 1) ∣ n := Int.dvd_of_emod_eq_zero hj
      have b : (2 : Int) ∣ (k + 1) := Int.dvd_of_emod_eq_zero (by omega)
      exact h2 (Int.emod_eq_zero_of_dvd (Int.dvd_trans b a))
theorem p_is_prime : ∀ ds S Q XX, Closed S → a_isp ds S Q XX → w_is_prime (endOf Q S.length) (startD ["n", "k"] ds) S (GivesX XX S.length) := by
  rintro ds S Q XX hC ⟨n, rfl, hn, q⟩
  unfold w_is_prime
  refine seq_cut (fun σ S' => S = S' ∧ σ = [some (.int n), none] ∧ 4 ≤ n) ?_ ?_
  rotate_left
  · intro R hR
    walk_at "aw"
    split
    · rename_i h
      exact gives_now (q _ (isp_small h))
    · exact hR _ _ ⟨rfl, rfl, by omega⟩
  rintro _ _ ⟨rfl, rfl, h4⟩
  refine seq_cut (fun σ S' => S = S' ∧ σ = [some (.int n), none] ∧ n % 2 ≠ 0) ?_ ?_
  rotate_left
  · intro R hR
    walk_at "aw"
    rw [fmod_pos (by decide)]
    split
    · rename_i h
      exact gives_now (q _ (isp_not (k := 2) (by decide) (by omega) h))
    · rename_i h
      exact hR _ _ ⟨rfl, rfl, h⟩
  rintro _ _ ⟨rfl, rfl, h2⟩
  walk_at "aw"
  let P : Nat → ASt → Sto → Prop := fun m σ S' => S = S' ∧ ∃ k : Int, (3 ≤ k ∧ k ≤ n + 2) ∧ k % 2 = 1 ∧ (∀ j, 2 ≤ j → j < k → n % j ≠ 0) ∧ m = (n + 3 - k).toNat ∧ σ = [some (.int n), some (.int k)]
  refine while_cut P n.natAbs ⟨rfl, 3, by omega, by decide, fun j a b => by rw [show j = 2 by omega]; exact h2, by omega, rfl⟩ ?_
  rintro m σ S' R2 ⟨rfl, k, ⟨k3, kn⟩, odd, hi, rfl, rfl⟩ hR2
  have kb : k.natAbs < 2 ^ 65 := by omega
  walk_at "aw"
  refine ⟨mulOk_of kb kb (by decide), ?_⟩
  split
  · rename_i kk
    have kn : k ≤ n := Int.le_trans (by have := Int.mul_le_mul_of_nonneg_left (show 1 ≤ k by omega) (show 0 ≤ k by omega); omega) kk
    refine ⟨by omega, ?_⟩
    rw [fmod_pos (by omega)]
    split
    · rename_i h
      exact gives_now (q _ (isp_not (by omega) kk h))
    · rename_i h
      exact hR2 _ _ _ (by omega) ⟨rfl, k + 2, by omega, by omega, isp_turn h2 odd hi h, rfl, rfl⟩
  · exact gives_now (q _ (isp_yes h4 h2 k3 odd hi (by omega)))
def allB (n : Nat) : Nat → Nat → Bool
  | 0, s => n % (2 * s + 1) != 0 || decide (s = 0)
  | d + 1, s => allB n d (2 * s) && allB n d (2 * s + 1)
theorem allB_of {n : Nat} : ∀ (d s : Nat), allB n d s = true → ∀ t, s * 2 ^ d ≤ t → t < (s + 1) * 2 ^ d → t ≠ 0 → n % (2 * t + 1) ≠ 0
  | 0, s, h, t, a, b, c => by
    rw [Nat.pow_zero, Nat.mul_one] at a b
    have : t = s := by omega
    subst this
    simp only [allB, Bool.or_eq_true, bne_iff_ne, decide_eq_true_eq] at h
    exact h.resolve_right c
  | d + 1, s, h, t, a, b, c => by
    simp only [allB, Bool.and_eq_true] at h
    have e1 : s * 2 ^ (d + 1) = 2 * s * 2 ^ d := by rw [Nat.pow_succ]; grind
    have e2 : (s + 1) * 2 ^ (d + 1) = (2 * s + 1 + 1) * 2 ^ d := by rw [Nat.pow_succ]; grind
    rw [e1] at a
    rw [e2] at b
    rcases Nat.lt_or_ge t ((2 * s + 1) * 2 ^ d) with x | x
    · exact allB_of d _ h.1 t a x c
    · exact allB_of d _ h.2 t x b c
theorem big_prime : IsP 2147483659 := by
  have h : allB 2147483659 15 0 = true := by decide +kernel
  refine ⟨by decide, fun k k2 kk hk => ?_⟩
  have k0 : k < 46342 := by
    rcases Int.lt_or_le k 46342 with x | x
    · exact x
    · have := Int.mul_le_mul x x (by decide) (by omega); omega
  rcases Int.emod_two_eq k with e | e
  · have a : k ∣ 2147483659 := Int.dvd_of_emod_eq_zero hk
    have b : (2 : Int) ∣ k := Int.dvd_of_emod_eq_zero e
    have c := Int.emod_eq_zero_of_dvd (Int.dvd_trans b a)
    exact absurd c (by decide)
  · have := allB_of 15 0 h (k.toNat / 2) (by omega) (by omega) (by omega)
    rw [show 2 * (k.toNat / 2) + 1 = k.toNat by omega] at this
    have e3 : (2147483659 : Int) % k = ((2147483659 % k.toNat : Nat) : Int) := by
      rw [Int.natCast_emod, show ((k.toNat : Nat) : Int) = k by omega]
      rfl
    omega
/-! ### fields -/
def a_isint : ASp := fun ds S Q _ => ∃ d, ds = [d] ∧ d.pure = true ∧ Q (.bl (match d with | .int _ => true | _ => false)) S
theorem len_is_integer : ∀ ds S Q XX, a_isint ds S Q XX → ds.length = 1 := by rintro ds S Q XX ⟨_, rfl, _⟩; rfl
theorem p_is_integer : ∀ ds S Q XX, Closed S → a_isint ds S Q XX → w_is_integer (endOf Q S.length) (startD ["x"] ds) S (GivesX XX S.length) := by
  rintro ds S Q XX hC ⟨d, rfl, hp, q⟩
  unfold w_is_integer
  cases d with
  | ref n => exact absurd hp (by unfold D.pure; decide)
  | exc n => exact absurd hp (by unfold D.pure; decide)
  | _ => walk_at "ax"; exact gives_now q
/-- what the program takes for a field -/
def FieldD : D → Prop
  | .tup [.str x] => x = "Q"
  | .tup [.str x, .int p] => x = "F" ∧ 1 < p ∧ p ≤ 65521 ∧ IsP p
  | _ => False
def a_isfield : ASp := fun ds S Q _ => ∃ d, ds = [d] ∧ d.pure = true ∧ ∀ b : Bool, (b = true ↔ FieldD d) → Q (.bl b) S
theorem len_is_field : ∀ ds S Q XX, a_isfield ds S Q XX → ds.length = 1 := by rintro ds S Q XX ⟨_, rfl, _⟩; rfl
theorem p_is_field : ∀ ds S Q XX, Closed S → a_isfield ds S Q XX → w_is_field a_isint a_isp (endOf Q S.length) (startD ["d"] ds) S (GivesX XX S.length) := by
  rintro ds S Q XX hC ⟨d, rfl, hp, q⟩
  unfold w_is_field
  cases d with
  | ref n => exact absurd hp (by unfold D.pure; decide)
  | exc n => exact absurd hp (by unfold D.pure; decide)
  | tup ds =>
    cases ds with
    | nil =>
      walk_at "ax"
      exact gives_now (q false ⟨fun z => by (cases z), fun z => z.elim⟩)
    | cons x r =>
      have px : x.pure = true := by
        unfold D.pure at hp
        unfold pureL at hp
        exact (Bool.and_eq_true_iff.mp hp).1
      have pr : pureL r = true := by
        unfold D.pure at hp
        unfold pureL at hp
        exact (Bool.and_eq_true_iff.mp hp).2
      cases x with
      | ref n => exact absurd px (by unfold D.pure; decide)
      | exc n => exact absurd px (by unfold D.pure; decide)
      | str s =>
        refine seq_same ?_ fun R hR => by
          walk_at "ax"
          rw [if_neg (by omega)]
          walk_at "ax"
          exact hR
        by_cases hQ : s = "Q"
        · subst hQ
          walk_at "ax"
          refine gives_now (q _ ?_)
          rw [decide_eq_true_eq]
          cases r with
          | nil => exact ⟨fun _ => rfl, fun _ => rfl⟩
          | cons y r => exact ⟨fun z => by rw [List.length_cons] at z; omega, fun z => absurd z (by cases r <;> cases y <;> first | exact id | exact fun z => absurd z.1 (by decide))⟩
        · refine seq_same ?_ fun R hR => by
            walk_at "ax"
            rw [if_neg hQ]
            walk_at "ax"
            exact hR
          walk_at "ax"
          by_cases hF : s = "F"
          · subst hF
            rw [if_pos rfl]
            cases r with
            | nil =>
              walk_at "ax"
              exact gives_now (q false ⟨fun z => by (cases z), fun z => absurd (show Str.ofString "F" = Str.ofString "Q" from z) (by decide)⟩)
            | cons y r =>
              cases r with
              | nil =>
                have py : y.pure = true := by
                  unfold pureL at pr
                  exact (Bool.and_eq_true_iff.mp pr).1
                walk_at "ax"
                refine ⟨y, rfl, py, ?_⟩
                cases y with
                | int p =>
                  walk_at "ax"
                  split
                  · rename_i h1
                    walk_at "ax"
                    split
                    · rename_i h2
                      walk_at "ax"
                      exact ⟨p, rfl, by omega, fun b hb => gives_now (q b ⟨fun z => ⟨rfl, h1, h2, hb.mp z⟩, fun z => hb.mpr z.2.2.2⟩)⟩
                    · rename_i h2
                      walk_at "ax"
                      refine gives_now (q _ ⟨fun z => ?_, fun z => absurd z.2.2.1 h2⟩)
                      exact absurd (of_decide_eq_true z) h2
                  · rename_i h1
                    walk_at "ax"
                    exact gives_now (q false ⟨fun z => by (cases z), fun z => absurd z.2.1 h1⟩)
                | _ =>
                  walk_at "ax"
                  exact gives_now (q false ⟨fun z => by (cases z), fun z => z.elim⟩)
              | cons z r =>
                walk_at "ax"
                rw [if_neg (by omega)]
                walk_at "ax"
                refine gives_now (q _ ?_)
                rw [decide_eq_true_eq]
                exact ⟨fun h => by omega, fun h => by cases y <;> exact h.elim⟩
          · rw [if_neg hF]
            walk_at "ax"
            refine gives_now (q _ ?_)
            rw [decide_eq_true_eq]
            refine ⟨fun h => absurd h hF, fun h => ?_⟩
            cases r with
            | nil => exact absurd h hQ
            | cons y r => cases r <;> cases y <;> first | exact h.elim | exact h.1
      | _ =>
        walk_at "ax"
        rw [if_neg (by omega)]
        walk_at "ax"
        refine gives_now (q false ⟨fun z => by (cases z), fun z => ?_⟩)
        cases r with
        | nil => exact z.elim
        | cons y r => cases r <;> cases y <;> exact z.elim
  | _ => walk_at "ax"; exact gives_now (q false ⟨fun z => by (cases z), fun z => z.elim⟩)
def a_needf (e : XN → Value) : ASp := fun ds S Q XX => ∃ d, ds = [d] ∧ d.pure = true ∧ (FieldD d → Q .non S) ∧ (¬FieldD d → XX (e .dom) none S)
theorem len_need_field {e : XN → Value} : ∀ ds S Q XX, a_needf e ds S Q XX → ds.length = 1 := by rintro ds S Q XX ⟨_, rfl, _⟩; rfl
theorem p_need_field {e : XN → Value} : ∀ ds S Q XX, Closed S → a_needf e ds S Q XX → w_need_field e a_isfield (endOf Q S.length) (startD ["d"] ds) S (GivesX XX S.length) := by
  rintro ds S Q XX hC ⟨d, rfl, hp, q, q2⟩
  unfold w_need_field
  walk_at "ax"
  refine ⟨d, rfl, hp, fun b hb => ?_⟩
  walk_at "ax"
  split
  · rename_i h
    walk_at "ax"
    exact gives_now (q (hb.mp h))
  · rename_i h
    exact .inl (q2 fun f => h (hb.mpr f))
/-! ### domains that are fields -/
def Dk.isF : Dk → Bool
  | .b .q => true
  | .b (.f _) => true
  | _ => false
theorem IsP_of {p : Nat} (h : Pr p) : IsP (p : Nat) := by
  obtain ⟨h2, h⟩ := h
  refine ⟨by omega, fun k k2 kk e => ?_⟩
  obtain ⟨j, rfl⟩ : ∃ j : Nat, k = (j : Nat) := ⟨k.toNat, by omega⟩
  rw [← Int.natCast_mul] at kk
  exact h j (by omega) (by omega) (by rw [← Int.natCast_emod] at e; omega)
theorem Bk.fld.fieldD {k : Bk} (h : k.fld) : FieldD k.dom := by
  rcases h with rfl | ⟨m, rfl, hm, h5⟩
  · rfl
  · exact ⟨rfl, by omega, by omega, IsP_of hm⟩
theorem Dk.dr.fieldD : {k : Dk} → k.dr → k.isF = false → ¬FieldD k.dom
  | .b .z, _, _, h => absurd (show Str.ofString "Z" = Str.ofString "Q" from h) (by decide)
  | .b .q, _, h, _ => nomatch h
  | .b (.f _), _, h, _ => nomatch h
  | .p .z, _, _, h => h
  | .p .q, _, _, h => h
  | .p (.f _), _, _, h => h
theorem Bk.dom_pure (k : Bk) : k.dom.pure = true := by cases k <;> simp [Bk.dom, D.pure, pureL]
theorem Dk.dom_pure : (k : Dk) → k.dom.pure = true
  | .b k => k.dom_pure
  | .p k => by simp only [Dk.dom, D.pure, pureL, k.dom_pure, Bool.and_self]
/-- small enough to be turned -/
def Bk.InvOk : (k : Bk) → k.T → Prop
  | .z, _ => True
  | .q, x => x.num.natAbs < 2 ^ 50000000 ∧ x.den < 2 ^ 50000000
  | .f n, _ => n < 2 ^ 20
theorem rat_inv {x : Rat} (h : x ≠ 0) : x * Rat.divInt (x.den : Nat) x.num = 1 := by
  have n0 : x.num ≠ 0 := fun z => h (Rat.num_eq_zero.mp z)
  have nr : (x.num : Rat) ≠ 0 := fun z => n0 (Rat.intCast_inj.mp (z.trans (show (0 : Rat) = ((0 : Int) : Rat) from rfl)))
  have dr : ((x.den : Nat) : Rat) ≠ 0 := fun z => x.den_nz (Rat.natCast_eq_zero_iff.mp z)
  have hx : x = (x.num : Rat) / ((x.den : Nat) : Rat) := by rw [← Rat.mkRat_eq_div, Rat.mkRat_self]
  have e1 : x * ((x.den : Nat) : Rat) = (x.num : Rat) := by
    have h1 : (x.num : Rat) / ((x.den : Nat) : Rat) * ((x.den : Nat) : Rat) = (x.num : Rat) := Rat.div_mul_cancel dr
    rwa [← hx] at h1
  rw [Rat.divInt_eq_div, Rat.intCast_natCast, Rat.div_def, ← Rat.mul_assoc, e1]
  exact Rat.mul_inv_cancel _ nr
theorem rat_unit {x z : Rat} (h : x * z = 1) : z.num.natAbs ≤ x.den ∧ z.den ≤ x.num.natAbs := by
  have e : x.num * z.num = (x.den : Nat) * (z.den : Nat) := by
    have h2 := h
    rw [Rat.mul_def'] at h2
    have h3 : mkRat (x.num * z.num) (x.den * z.den) = mkRat 1 1 := h2.trans (by rfl)
    rw [Rat.mkRat_eq_iff (Nat.mul_ne_zero x.den_nz z.den_nz) (by decide)] at h3
    simpa using h3
  have e2 : x.num.natAbs * z.num.natAbs = x.den * z.den := by
    have := congrArg Int.natAbs e
    rwa [Int.natAbs_mul, Int.natAbs_mul, Int.natAbs_natCast, Int.natAbs_natCast] at this
  have d1 : z.num.natAbs ∣ x.den := Nat.Coprime.dvd_of_dvd_mul_right z.reduced (by rw [← e2]; exact Nat.dvd_mul_left _ _)
  have d2 : z.den ∣ x.num.natAbs := Nat.Coprime.dvd_of_dvd_mul_right (Nat.Coprime.symm z.reduced) (by rw [e2]; exact Nat.dvd_mul_left _ _)
  have n0 : x.num.natAbs ≠ 0 := fun q => by
    rw [q, Nat.zero_mul] at e2
    exact Nat.mul_ne_zero x.den_nz z.den_nz e2.symm
  exact ⟨Nat.le_of_dvd (Nat.pos_of_ne_zero x.den_nz) d1, Nat.le_of_dvd (Nat.pos_of_ne_zero n0) d2⟩
theorem Bk.InvOk.inv : {k : Bk} → k.fld → {x w : k.T} → k.InvOk x → x * w = 1 → k.InvOk w
  | .z, h, _, _, _, _ => by rcases h with h | ⟨_, h, _⟩ <;> cases h
  | .q, _, x, w, h, e => by
    obtain ⟨a, b⟩ := rat_unit e
    exact ⟨Nat.lt_of_le_of_lt a h.2, Nat.lt_of_le_of_lt b h.1⟩
  | .f _, _, _, _, h, _ => h
theorem Bk.InvOk.ok : {k : Bk} → k.fld → {x : k.T} → k.InvOk x → k.Ok x
  | .z, h, _, _ => by rcases h with h | ⟨_, h, _⟩ <;> cases h
  | .q, _, x, h => ⟨Nat.lt_of_lt_of_le h.1 (Nat.pow_le_pow_right (by decide) (by decide)), h.2⟩
  | .f _, _, _, h => h
theorem Dk.Fi.inv {m n L : Nat} : {k : Bk} → k.fld → {x u : k.T} → (Dk.b k).Fi m n L x → x * u = 1 → (Dk.b k).Fi n m 1 u
  | .z, h, _, _, _, _ => by rcases h with h | ⟨_, h, _⟩ <;> cases h
  | .q, _, x, u, ⟨ok, D, d0, d1, hi⟩, e => by
    obtain ⟨a, b⟩ := szq_parts d0 hi
    obtain ⟨c, d⟩ := rat_unit e
    refine ⟨ok, u.den, Nat.pos_of_ne_zero u.den_nz, Nat.le_trans d b, u.num, ?_, Nat.le_trans c (Nat.le_trans (Nat.le_of_dvd d0 a) d1)⟩
    have dr : ((u.den : Nat) : Rat) ≠ 0 := fun z => u.den_nz (Rat.natCast_eq_zero_iff.mp z)
    have hx : u = (u.num : Rat) / ((u.den : Nat) : Rat) := by rw [← Rat.mkRat_eq_div, Rat.mkRat_self]
    have h1 : (u.num : Rat) / ((u.den : Nat) : Rat) * ((u.den : Nat) : Rat) = (u.num : Rat) := Rat.div_mul_cancel dr
    rwa [← hx] at h1
  | .f _, _, _, _, ⟨ok, _⟩, _ => ⟨ok, 1, by decide, Nat.pow_pos (by decide), trivial⟩
/-- an element that is drawn may be turned -/
theorem Bk.InvOk_of {k : Bk} {m n L : Nat} {x : k.T} (h : (Dk.b k).Fi m n L x) (hm : m < 50000000) (hn : n < 50000000) : k.InvOk x := by
  obtain ⟨ok, D, d0, d1, hi⟩ := h
  have hi : k.sz D (2 ^ n) x := hi
  cases k with
  | z => trivial
  | q =>
    obtain ⟨a, b⟩ := szq_parts d0 hi
    exact ⟨Nat.lt_of_le_of_lt b (Nat.pow_lt_pow_right (by decide) hn), Nat.lt_of_le_of_lt (Nat.le_trans (Nat.le_of_dvd d0 a) d1) (Nat.pow_lt_pow_right (by decide) hm)⟩
  | f m => exact ok
def a_inverse (e : XN → Value) : ASp := fun ds S Q XX => (∃ (k : Dk) (x : D), ds = [k.dom, x] ∧ k.dr ∧ k.isF = false ∧ XX (e .dom) none S) ∨
  (∃ (k : Bk) (a : k.T), ds = [k.dom, k.enc a] ∧ k.fld ∧ k.InvOk a ∧ (a = 0 → XX (e .sing) none S) ∧ (a ≠ 0 → ∀ z, a * z = 1 → Q (k.enc z) S))
theorem len_inverse {e : XN → Value} : ∀ ds S Q XX, a_inverse e ds S Q XX → ds.length = 2 := by rintro ds S Q XX (⟨_, _, rfl, _⟩ | ⟨_, _, rfl, _⟩) <;> rfl
theorem Pr.dvd {p d : Nat} (h : Pr p) (hd : d ∣ p) : d = 1 ∨ d = p := by
  obtain ⟨e, rfl⟩ := hd
  obtain ⟨h2, h⟩ := h
  have d0 : d ≠ 0 := fun q => by rw [q, Nat.zero_mul] at h2; omega
  have e0 : e ≠ 0 := fun q => by rw [q, Nat.mul_zero] at h2; omega
  by_cases d1 : d = 1
  · exact .inl d1
  by_cases e1 : e = 1
  · rw [e1, Nat.mul_one]; exact .inr rfl
  exfalso
  rcases Nat.le_total d e with q | q
  · exact h d (by omega) (Nat.mul_le_mul_left d q) (Nat.mul_mod_right d e)
  · exact h e (by omega) (Nat.mul_le_mul_right e q) (Nat.mul_mod_left d e)
theorem fin_unit {m : Nat} (hm : Pr (m + 2)) {x : Fin (m + 2)} (hx : x ≠ 0) {g s t : Int} (h : ComOk (x.val : Nat) ((m + 2 : Nat) : Int) g s t) : ∃ z : Fin (m + 2), Int.fmod s ((m + 2 : Nat) : Int) = (z.val : Nat) ∧ x * z = 1 := by
  have x0 : x.val ≠ 0 := fun q => hx (Fin.ext q)
  have xl := x.isLt
  obtain ⟨q, _⟩ | ⟨_, g0, hg, ⟨a', ha, _⟩, ⟨b', hb, _⟩, _⟩ := h
  · omega
  have g1 : g = 1 := by
    obtain ⟨n, rfl⟩ : ∃ n : Nat, g = (n : Nat) := ⟨g.toNat, by omega⟩
    have d1 : n ∣ m + 2 := Int.natCast_dvd_natCast.mp ⟨b', hb⟩
    have d2 : n ∣ x.val := Int.natCast_dvd_natCast.mp ⟨a', ha⟩
    have := Nat.le_of_dvd (Nat.pos_of_ne_zero x0) d2
    rcases hm.dvd d1 with q | q <;> omega
  rw [g1] at hg
  have p0 : ((m + 2 : Nat) : Int) ≠ 0 := by omega
  have n0 := Int.emod_nonneg s p0
  have nl := Int.emod_lt_of_pos s (show (0 : Int) < ((m + 2 : Nat) : Int) by omega)
  refine ⟨⟨(s % ((m + 2 : Nat) : Int)).toNat, by omega⟩, ?_, ?_⟩
  · rw [fmod_pos (by omega)]
    show _ = (((s % ((m + 2 : Nat) : Int)).toNat : Nat) : Int)
    omega
  · apply Fin.ext
    show (x.val * (s % ((m + 2 : Nat) : Int)).toNat) % (m + 2) = 1 % (m + 2)
    apply Int.ofNat.inj
    show ((x.val * (s % ((m + 2 : Nat) : Int)).toNat % (m + 2) : Nat) : Int) = ((1 % (m + 2) : Nat) : Int)
    rw [Int.natCast_emod, Int.natCast_emod, Int.natCast_mul, Int.toNat_of_nonneg n0, Int.mul_emod, Int.emod_emod_of_dvd _ (Int.dvd_refl _), ← Int.mul_emod,
      show ((x.val : Nat) : Int) * s = 1 + ((m + 2 : Nat) : Int) * (-t) by rw [Int.mul_neg, Int.mul_comm _ t, Int.mul_comm _ s]; omega, Int.add_mul_emod_self_left]
    rfl
theorem p_inverse {e : XN → Value} : ∀ ds S Q XX, Closed S → a_inverse e ds S Q XX → w_inverse e (a_needf e) a_zero a_fr a_common (endOf Q S.length) (startD ["f", "x", "g", "s", "t"] ds) S (GivesX XX S.length) := by
  rintro ds S Q XX hC (⟨k, x, rfl, dr, nf, q⟩ | ⟨k, a, rfl, fl, iv, q0, q1⟩)
  · unfold w_inverse
    walk_at "ax"
    exact ⟨k.dom, rfl, k.dom_pure, fun f => absurd f (dr.fieldD nf), fun _ => .inl q⟩
  · unfold w_inverse
    walk_at "ax"
    refine ⟨k.dom, rfl, k.dom_pure, fun _ => ?_, fun f => absurd fl.fieldD f⟩
    walk_at "ax"
    refine ⟨.b k, rfl, fun z hz => ?_⟩
    have hz : z = 0 := hz
    subst hz
    walk_at "ax"
    refine fEq_cl (X := GivesX XX S.length) (Bk.enc_cl k a) (Bk.enc_cl k 0) enc_zero_iff ?_
    walk_at "ax"
    split
    · rename_i h
      exact .inl (q0 h)
    · rename_i h
      have q1 := q1 h
      rcases fl with rfl | ⟨m, rfl, hm, h5⟩
      · have h : (a : Rat) ≠ 0 := h
        simp only [Bk.dom, Bk.enc, qe]
        walk_at "ax"
        refine ⟨fun z => h (Rat.num_eq_zero.mp z), gives_now (q1 _ (rat_inv h))⟩
      · have h : (a : Fin (m + 2)) ≠ 0 := h
        simp only [Bk.dom, Bk.enc]
        walk_at "ax"
        have := a.isLt
        refine ⟨(a.val : Nat), ((m + 2 : Nat) : Int), rfl, Nat.lt_of_lt_of_le (show _ < 2 ^ 64 by omega) (Nat.pow_le_pow_right (by decide) (by decide)), Nat.lt_of_lt_of_le (show _ < 2 ^ 64 by omega) (Nat.pow_le_pow_right (by decide) (by decide)), fun g s t hc => ?_⟩
        obtain ⟨z, e1, e2⟩ := fin_unit hm h hc
        walk_at "ax"
        rw [e1]
        exact ⟨by omega, gives_now (q1 z e2)⟩
def a_quotient (e : XN → Value) : ASp := fun ds S Q XX => (∃ (k : Dk) (x y : D), ds = [k.dom, x, y] ∧ k.dr ∧ k.isF = false ∧ XX (e .dom) none S) ∨
  (∃ (k : Bk) (a b : k.T), ds = [k.dom, k.enc a, k.enc b] ∧ k.fld ∧ k.Ok a ∧ k.InvOk b ∧ (b = 0 → XX (e .sing) none S) ∧ (b ≠ 0 → ∀ z, z * b = a → Q (k.enc z) S))
theorem len_quotient {e : XN → Value} : ∀ ds S Q XX, a_quotient e ds S Q XX → ds.length = 3 := by rintro ds S Q XX (⟨_, _, _, rfl, _⟩ | ⟨_, _, _, rfl, _⟩) <;> rfl
theorem p_quotient {e : XN → Value} : ∀ ds S Q XX, Closed S → a_quotient e ds S Q XX → w_quotient a_mul (a_inverse e) (endOf Q S.length) (startD ["f", "x", "y"] ds) S (GivesX XX S.length) := by
  rintro ds S Q XX hC (⟨k, x, y, rfl, dr, nf, q⟩ | ⟨k, a, b, rfl, fl, oa, iv, q0, q1⟩)
  · unfold w_quotient
    walk_at "ax"
    exact .inl ⟨k, y, rfl, dr, nf, .inl q⟩
  · unfold w_quotient
    walk_at "ax"
    refine .inr ⟨k, b, rfl, fl, iv, fun h => .inl (q0 h), fun h z hz => ?_⟩
    walk_at "ax"
    refine ⟨.b k, a, z, rfl, ⟨oa, (iv.inv fl hz).ok fl⟩, fun w hw => gives_now (q1 h w ?_)⟩
    have hw : w = a * z := hw
    rw [hw]
    have hz : b * z = 1 := hz
    grind
theorem Bk.enc_last {k : Bk} {y : List k.T} {a : k.T} (h : y.getLast? = some a) : L2.atI (y.map k.enc) (-1) = some (k.enc a) := by
  rw [atI_last1, List.getLast?_map, h]; rfl
/-! ### domains, Euclidean domains -/
theorem D.dt_pure {n : Nat} {d : D} (h : d.dt n = true) : d.pure = true := (D.dt_ok n d h).1
/-- what the program takes for a domain -/
def DomD : D → Prop
  | .tup [.str x] => x = "Z" ∨ x = "Q"
  | .tup [.str x, y] => (x = "P" ∧ FieldD y) ∨ FieldD (.tup [.str x, y])
  | _ => False
def a_isdomain : ASp := fun ds S Q _ => ∃ d, ds = [d] ∧ d.dt 9 = true ∧ ∀ b : Bool, (b = true ↔ DomD d) → Q (.bl b) S
theorem len_is_domain : ∀ ds S Q XX, a_isdomain ds S Q XX → ds.length = 1 := by rintro ds S Q XX ⟨_, rfl, _⟩; rfl
theorem not_str_field {x : D} {r : List D} (h : ∀ s, x ≠ .str s) : ¬DomD (.tup (x :: r)) := by
  intro z
  cases x with
  | str s => exact h s rfl
  | _ =>
    cases r with
    | nil => exact z
    | cons y r => cases r <;> exact z
theorem eqv_z {s : Str} {r : List D} (b : Bool) (h : D.eqb (.tup (.str s :: r)) (.tup [.str "Z"]) = b) : (b = true ↔ s = "Z" ∧ r = []) := by
  subst h
  constructor
  · intro h
    have h : PyData.eqv (.tuple (.str s :: pyL r)) (.tuple [.str "Z"]) = true := h
    cases r with
    | nil => simp [PyData.eqv, PyData.eqvAll, pyL] at h; exact ⟨h, rfl⟩
    | cons y r => simp [PyData.eqv, PyData.eqvAll, pyL] at h
  · rintro ⟨rfl, rfl⟩
    exact eqv_self _
theorem p_is_domain : ∀ ds S Q XX, Closed S → a_isdomain ds S Q XX → w_is_domain a_isfield (endOf Q S.length) (startD ["d"] ds) S (GivesX XX S.length) := by
  rintro ds S Q XX hC ⟨d, rfl, hp, q⟩
  have no : ¬DomD d → AW.Gives Q S.length (.bl false) S := fun h => gives_now (q false ⟨fun z => by (cases z), fun z => absurd z h⟩)
  unfold w_is_domain
  cases d with
  | ref n => cases hp
  | exc n => cases hp
  | scr n => cases hp
  | tup ds =>
    cases ds with
    | nil =>
      walk_at "ax"
      exact no id
    | cons x r =>
      have hp2 : (x :: r).all (D.dt 8) = true := hp
      rw [List.all_cons, Bool.and_eq_true] at hp2
      obtain ⟨px, pr⟩ := hp2
      cases x with
      | ref n => cases px
      | exc n => cases px
      | scr n => cases px
      | str s =>
        refine seq_same ?_ fun R hR => by
          walk_at "ax"
          rw [if_neg (by omega)]
          walk_at "ax"
          exact hR
        by_cases hP : s = "P"
        · subst hP
          walk_at "ax"
          cases r with
          | nil =>
            walk_at "ax"
            exact no fun z => absurd (show Str.ofString "P" = Str.ofString "Z" ∨ Str.ofString "P" = Str.ofString "Q" from z) (by decide)
          | cons y r =>
            cases r with
            | nil =>
              have py : y.pure = true := by
                rw [List.all_cons, Bool.and_eq_true] at pr
                exact D.dt_pure pr.1
              walk_at "ax"
              refine ⟨y, rfl, py, fun b hb => gives_now (q b ⟨fun z => .inl ⟨rfl, hb.mp z⟩, fun z => ?_⟩)⟩
              rcases z with z | z
              · exact hb.mpr z.2
              · exfalso
                cases y <;> first | exact z | exact absurd z.1 (by decide)
            | cons z r =>
              walk_at "ax"
              rw [if_neg (by omega)]
              walk_at "ax"
              refine gives_now (q _ ⟨fun h => absurd (of_decide_eq_true h) (by omega), fun h => ?_⟩)
              exact h.elim
        · refine seq_same ?_ fun R hR => by
            walk_at "ax"
            rw [if_neg hP]
            walk_at "ax"
            exact hR
          have fld : DomD (.tup (.str s :: r)) ↔ (s = "Z" ∧ r = []) ∨ FieldD (.tup (.str s :: r)) := by
            cases r with
            | nil => exact ⟨fun h => h.elim (fun z => .inl ⟨z, rfl⟩) .inr, fun h => h.elim (fun z => .inl z.1) .inr⟩
            | cons y r =>
              cases r with
              | nil => exact ⟨fun h => h.elim (fun z => absurd z.1 hP) .inr, fun h => h.elim (fun z => nomatch z.2) .inr⟩
              | cons z r => exact ⟨fun h => h.elim, fun h => h.elim (fun z => nomatch z.2) fun z => by cases y <;> exact z.elim⟩
          walk_at "ax"
          refine ⟨eqOk_dt (n := 9) (m := 2) hp (by decide +kernel), ?_⟩
          split
          · rename_i h
            walk_at "ax"
            exact gives_now (q _ ((eqv_z _ rfl).trans ⟨fun z => fld.mpr (.inl z), fun _ => (eqv_z _ rfl).mp h⟩))
          · rename_i h
            walk_at "ax"
            exact ⟨_, rfl, D.dt_pure hp, fun b hb => gives_now (q b (hb.trans ⟨fun z => fld.mpr (.inr z), fun z => (fld.mp z).resolve_left fun y => h ((eqv_z _ rfl).mpr y)⟩))⟩
      | _ =>
        walk_at "ax"
        rw [if_neg (by omega)]
        walk_at "ax"
        exact no (not_str_field (fun s h => by cases h))
  | _ => walk_at "ax"; exact no id
theorem DomD.shape {d : D} (h : DomD d) : ∃ s r, d = .tup (.str s :: r) := by
  cases d with
  | tup ds =>
    cases ds with
    | nil => exact h.elim
    | cons x r =>
      cases x with
      | str s => exact ⟨s, r, rfl⟩
      | _ => exact absurd h (not_str_field (fun s h => by cases h))
  | _ => exact h.elim
def EucD (d : D) : Prop := DomD d ∧ ∃ s r, d = .tup (.str s :: r) ∧ (s = "Z" ∨ s = "P")
def a_iseuclid : ASp := fun ds S Q _ => ∃ d, ds = [d] ∧ d.dt 9 = true ∧ ∀ b : Bool, (b = true ↔ EucD d) → Q (.bl b) S
theorem len_is_euclidean : ∀ ds S Q XX, a_iseuclid ds S Q XX → ds.length = 1 := by rintro ds S Q XX ⟨_, rfl, _⟩; rfl
def a_needeu (e : XN → Value) : ASp := fun ds S Q XX => ∃ d, ds = [d] ∧ d.dt 9 = true ∧ (EucD d → Q .non S) ∧ (¬EucD d → XX (e .dom) none S)
theorem len_need_euclidean {e : XN → Value} : ∀ ds S Q XX, a_needeu e ds S Q XX → ds.length = 1 := by rintro ds S Q XX ⟨_, rfl, _⟩; rfl
/-- Euclidean domains that are drawn -/
def Dk.euc : Dk → Prop
  | .b k => k = .z
  | .p k => k.fld
theorem Dk.euc.dr : {k : Dk} → k.euc → k.dr
  | .b _, h => .inl h
  | .p _, h => h
theorem D.dt_int (n : Nat) (i : Int) : D.dt n (.int i) = true := by cases n <;> simp [D.dt]
theorem Bk.dom_dtn (k : Bk) (n : Nat) : k.dom.dt (n + 1) = true := by
  have st : ∀ x : Str, PyData.strOk x = true → D.dt n (.str x) = true := fun x h => by cases n <;> simpa [D.dt] using h
  cases k with
  | z =>
    show [D.str "Z"].all (D.dt n) = true
    rw [List.all_cons, st _ (by decide +kernel)]; rfl
  | q =>
    show [D.str "Q"].all (D.dt n) = true
    rw [List.all_cons, st _ (by decide +kernel)]; rfl
  | f m =>
    show [D.str "F", D.int _].all (D.dt n) = true
    rw [List.all_cons, List.all_cons, st _ (by decide +kernel), D.dt_int]; rfl
theorem Dk.dom_dt : (k : Dk) → k.dom.dt 9 = true
  | .b k => k.dom_dtn 8
  | .p k => by
    show [D.str "P", k.dom].all (D.dt 8) = true
    rw [List.all_cons, List.all_cons, k.dom_dtn 7, show D.dt 8 (.str "P") = true by decide +kernel]
    rfl
theorem Dk.euc.eucD : {k : Dk} → k.euc → EucD k.dom
  | .b _, h => by subst h; exact ⟨.inl rfl, _, _, rfl, .inl rfl⟩
  | .p _, h => ⟨.inl ⟨rfl, Bk.fld.fieldD h⟩, _, _, rfl, .inr rfl⟩
theorem Bk.fld.notEuc {k : Bk} (h : k.fld) : ¬EucD k.dom := by
  rintro ⟨_, s, r, e, hs⟩
  rcases h with rfl | ⟨m, rfl, _, _⟩
  · have e : Str.ofString "Q" = s := by injection e with e; injection e with e; injection e
    subst e
    revert hs
    decide
  · have e : Str.ofString "F" = s := by injection e with e; injection e with e; injection e
    subst e
    revert hs
    decide
theorem needeu_ok {e : XN → Value} {k : Dk} {S : Sto} {Q : VKD} {X : XKD} (eu : k.euc) (q : Q .non S) : a_needeu e [k.dom] S Q X := ⟨k.dom, rfl, k.dom_dt, fun _ => q, fun h => absurd eu.eucD h⟩
theorem needeu_no {e : XN → Value} {d : D} {S : Sto} {Q : VKD} {X : XKD} (hd : d.dt 9 = true) (nd : ¬EucD d) (q : X (e .dom) none S) : a_needeu e [d] S Q X := ⟨d, rfl, hd, fun h => absurd h nd, fun _ => q⟩
/-! ### a domain is needed -/
def a_needd (e : XN → Value) : ASp := fun ds S Q XX => ∃ d, ds = [d] ∧ d.dt 9 = true ∧ (DomD d → Q .non S) ∧ (¬DomD d → XX (e .dom) none S)
theorem len_need_domain {e : XN → Value} : ∀ ds S Q XX, a_needd e ds S Q XX → ds.length = 1 := by rintro ds S Q XX ⟨_, rfl, _⟩; rfl
theorem Dk.dr.domD : {k : Dk} → k.dr → DomD k.dom
  | .b .z, _ => .inl rfl
  | .b .q, _ => .inr rfl
  | .b (.f n), h => by
    have h : (Bk.f n).fld := h.resolve_left (by intro z; cases z)
    exact .inr h.fieldD
  | .p _, h => .inl ⟨rfl, Bk.fld.fieldD h⟩
theorem needd_ok {e : XN → Value} {k : Dk} {S : Sto} {Q : VKD} {X : XKD} (dr : k.dr) (q : Q .non S) : a_needd e [k.dom] S Q X := ⟨k.dom, rfl, k.dom_dt, fun _ => q, fun h => absurd dr.domD h⟩
theorem needd_no {e : XN → Value} {d : D} {S : Sto} {Q : VKD} {X : XKD} (hd : d.dt 9 = true) (nd : ¬DomD d) (q : X (e .dom) none S) : a_needd e [d] S Q X := ⟨d, rfl, hd, fun h => absurd h nd, fun _ => q⟩
/-! ### domains as rings with encodings; vectors and matrices of values -/
noncomputable def Dk.of : (k : Dk) → k.R → k.E
  | .b _, v => v
  | .p k, v => by
    classical
    exact if h : ∃ z : (Dk.p k).E, (Dk.p k).val z = v then h.choose else ⟨[], Ser.nt_nil⟩
theorem Dk.of_val : (k : Dk) → (z : k.E) → k.of (k.val z) = z
  | .b _, z => rfl
  | .p k, z => by
    have h : ∃ y : (Dk.p k).E, (Dk.p k).val y = (Dk.p k).val z := ⟨z, rfl⟩
    show (@dite (Dk.p k).E (∃ y : (Dk.p k).E, (Dk.p k).val y = (Dk.p k).val z) (Classical.propDecidable _) (fun h => h.choose) fun _ => ⟨[], Ser.nt_nil⟩) = z
    rw [dif_pos h]
    exact (Dk.p k).val_inj h.choose_spec
theorem Dk.of_eq {k : Dk} {z : k.E} {v : k.R} (h : k.val z = v) : k.of v = z := by rw [← h, k.of_val]
noncomputable def Dk.en (k : Dk) (v : k.R) : D := k.enc (k.of v)
theorem Dk.en_eq {k : Dk} {z : k.E} {v : k.R} (h : k.val z = v) : k.enc z = k.en v := by unfold Dk.en; rw [Dk.of_eq h]
theorem Dk.en_b {k : Bk} (v : k.T) : (Dk.b k).en v = k.enc v := rfl
/-- v is an element's value, that is not large -/
def Dk.Has (k : Dk) (e L : Nat) (v : k.R) : Prop := ∃ z : k.E, k.val z = v ∧ k.Fi e e L z
theorem Dk.en_cl (k : Dk) (v : k.R) : (k.en v).cl 2 = true := k.enc_cl _
theorem Dk.en_inj {k : Dk} {e L e' L' : Nat} {u v : k.R} (hu : k.Has e L u) (hv : k.Has e' L' v) (h : k.en u = k.en v) : u = v := by
  obtain ⟨z, rfl, _⟩ := hu
  obtain ⟨y, rfl, _⟩ := hv
  unfold Dk.en at h
  rw [k.of_val, k.of_val] at h
  rw [k.enc_inj h]
section
variable {k : Dk} {e e' L L' : Nat} {u v : k.R}
theorem Dk.Has.mono (h : k.Has e L u) (he : e ≤ e') (hL : L ≤ L') : k.Has e' L' u := by
  obtain ⟨z, q, f⟩ := h
  exact ⟨z, q, f.mono he he hL⟩
theorem Dk.Has.ok (h : k.Has e L u) : k.base.ok := by
  obtain ⟨z, _, f⟩ := h
  exact f.ok
theorem Dk.Has.fi (h : k.Has e L u) {z : k.E} (hz : k.val z = u) : k.Fi e e L z := by
  obtain ⟨y, q, f⟩ := h
  rwa [k.val_inj (hz.trans q.symm)]
end
theorem Dk.has_neg : (k : Dk) → (x : k.E) → ∃ y : k.E, k.val y = -k.val x
  | .b k, x => ⟨-x, rfl⟩
  | .p k, ⟨l, hl⟩ => by
    have e : Ser.of (l.map fun a => -a) = -Ser.of l := Ser.ext fun i => by
      rw [Ser.c_neg]
      show Ser.cf _ i = -Ser.cf l i
      unfold Ser.cf
      rw [List.getElem?_map]
      cases l[i]? with
      | none => show (0 : k.T) = -0; grind
      | some a => rfl
    refine ⟨⟨l.map fun a => -a, fun a h => ?_⟩, e⟩
    rw [List.getLast?_map] at h
    cases z : l.getLast? with
    | none => rw [z] at h; cases h
    | some b =>
      rw [z] at h
      cases h
      have := hl b z
      intro w
      apply this
      grind
theorem Dk.Fi.sub {k : Dk} {m n L m' n' L' : Nat} {x y z : k.E} (h : k.Fi m n L x) (g : k.Fi m' n' L' y) (e : k.val z = k.val x - k.val y) {p : Nat} (h1 : n + m' ≤ p) (h2 : n' + m ≤ p) : k.Fi (m + m') (p + 1) (max L L') z := by
  obtain ⟨w, hw⟩ := k.has_neg y
  exact h.add (g.neg hw) (by rw [e, hw]; grind) h1 h2
/-! #### calls of the ring's operations -/
section
variable {k : Dk} {e e' L L' : Nat} {u v : k.R} {S : Sto} {Q : VKD} {X : XKD}
theorem add_at (hu : k.Has e L u) (hv : k.Has e' L' v) (hb : e + e' < 45000000 ∧ L < 1000000 ∧ L' < 1000000) (q : k.Has (e + e' + 1) (max L L') (u + v) → Q (k.en (u + v)) S) : a_add [k.dom, k.en u, k.en v] S Q X := by
  obtain ⟨x, rfl, fx⟩ := hu
  obtain ⟨y, rfl, fy⟩ := hv
  rw [← Dk.en_eq (k := k) (z := x) rfl, ← Dk.en_eq (k := k) (z := y) rfl]
  refine ⟨k, x, y, rfl, fx.Ok (by omega) (by omega) (by omega), fy.Ok (by omega) (by omega) (by omega), fun z hz => ?_⟩
  rw [Dk.en_eq hz]
  exact q ⟨z, hz, (fx.add fy hz (p := e + e') (Nat.le_refl _) (by omega)).mono (by omega) (Nat.le_refl _) (Nat.le_refl _)⟩
theorem mul_at (hu : k.Has e L u) (hv : k.Has e' L' v) {l : Nat} (hL : 0 < L ∧ 0 < L' ∧ L + L' ≤ 2 ^ l) (hb : e + e' + l < 45000000 ∧ L < 1000000 ∧ L' < 1000000) (q : k.Has (e + e' + l) (L + L' - 1) (u * v) → Q (k.en (u * v)) S) : a_mul [k.dom, k.en u, k.en v] S Q X := by
  obtain ⟨x, rfl, fx⟩ := hu
  obtain ⟨y, rfl, fy⟩ := hv
  rw [← Dk.en_eq (k := k) (z := x) rfl, ← Dk.en_eq (k := k) (z := y) rfl]
  refine ⟨k, x, y, rfl, fx.mulOk fy (by omega) (by omega) (by omega) (by omega), fun z hz => ?_⟩
  rw [Dk.en_eq hz]
  exact q ⟨z, hz, (fx.mul fy hz hL.1 hL.2.1 hL.2.2).mono (by omega) (Nat.le_refl _) (Nat.le_refl _)⟩
theorem sub_at (hu : k.Has e L u) (hv : k.Has e' L' v) (hb : e + e' < 45000000 ∧ L < 1000000 ∧ L' < 1000000) (q : k.Has (e + e' + 1) (max L L') (u - v) → Q (k.en (u - v)) S) : a_sub [k.dom, k.en u, k.en v] S Q X := by
  obtain ⟨x, rfl, fx⟩ := hu
  obtain ⟨y, rfl, fy⟩ := hv
  rw [← Dk.en_eq (k := k) (z := x) rfl, ← Dk.en_eq (k := k) (z := y) rfl]
  refine ⟨k, x, y, rfl, fx.Ok (by omega) (by omega) (by omega), fy.sok (by omega) (by omega) (by omega), fun z hz => ?_⟩
  rw [Dk.en_eq hz]
  exact q ⟨z, hz, (fx.sub fy hz (p := e + e') (Nat.le_refl _) (by omega)).mono (by omega) (Nat.le_refl _) (Nat.le_refl _)⟩
theorem neg_at (hu : k.Has e L u) (hb : e < 45000000 ∧ L < 1000000) (q : k.Has e L (-u) → Q (k.en (-u)) S) : a_neg [k.dom, k.en u] S Q X := by
  obtain ⟨x, rfl, fx⟩ := hu
  rw [← Dk.en_eq (k := k) (z := x) rfl]
  refine ⟨k, x, rfl, fx.Len (by omega), fun z hz => ?_⟩
  rw [Dk.en_eq hz]
  exact q ⟨z, hz, fx.neg hz⟩
theorem zero_at (ok : k.base.ok) (q : k.Has 0 1 0 → Q (k.en 0) S) : a_zero [k.dom] S Q X := by
  refine ⟨k, rfl, fun z hz => ?_⟩
  rw [Dk.en_eq hz]
  exact q ⟨z, hz, Dk.Fi.zero ok hz⟩
theorem one_at (ok : k.base.ok) (q : k.Has 0 1 1 → Q (k.en 1) S) : a_one [k.dom] S Q X := by
  refine ⟨k, rfl, fun z hz => ?_⟩
  rw [Dk.en_eq hz]
  exact q ⟨z, hz, Dk.Fi.one ok hz⟩
end
theorem Dk.has_zero (k : Dk) (ok : k.base.ok) : k.Has 0 1 0 := by
  obtain ⟨z, hz⟩ : ∃ z : k.E, k.val z = 0 := by
    cases k with
    | b k => exact ⟨0, rfl⟩
    | p k => exact ⟨_, Dk.nil_val⟩
  exact ⟨z, hz, Dk.Fi.zero ok hz⟩
theorem Dk.has_o (k : Dk) (ok : k.base.ok) : k.Has 0 1 1 := by
  obtain ⟨z, hz⟩ := k.has_one
  exact ⟨z, hz, Dk.Fi.one ok hz⟩
/-! #### sums -/
def sm {R : Type} [Lean.Grind.CommRing R] : Nat → (Nat → R) → R
  | 0, _ => 0
  | n + 1, f => sm n f + f n
section
variable {R : Type} [Lean.Grind.CommRing R]
theorem sm_congr {n : Nat} {f g : Nat → R} (h : ∀ i, i < n → f i = g i) : sm n f = sm n g := by
  induction n with
  | zero => rfl
  | succ n ih => simp only [sm]; rw [ih fun i hi => h i (by omega), h n (by omega)]
theorem sm_zero (n : Nat) : sm n (fun _ => (0 : R)) = 0 := by
  induction n with
  | zero => rfl
  | succ n ih => simp only [sm]; rw [ih]; grind
theorem sm_add (n : Nat) (f g : Nat → R) : sm n (fun i => f i + g i) = sm n f + sm n g := by
  induction n with
  | zero => simp only [sm]; grind
  | succ n ih => simp only [sm]; rw [ih]; grind
theorem sm_mul_left (n : Nat) (a : R) (f : Nat → R) : sm n (fun i => a * f i) = a * sm n f := by
  induction n with
  | zero => simp only [sm]; grind
  | succ n ih => simp only [sm]; rw [ih]; grind
theorem sm_mul_right (n : Nat) (a : R) (f : Nat → R) : sm n (fun i => f i * a) = sm n f * a := by
  induction n with
  | zero => simp only [sm]; grind
  | succ n ih => simp only [sm]; rw [ih]; grind
theorem sm_comm (n m : Nat) (f : Nat → Nat → R) : sm n (fun i => sm m fun j => f i j) = sm m fun j => sm n fun i => f i j := by
  induction n with
  | zero => simp only [sm]; rw [sm_zero]
  | succ n ih => simp only [sm]; rw [ih, sm_add]
theorem sm_one {n : Nat} {f : Nat → R} {j : Nat} (hj : j < n) (h : ∀ i, i < n → i ≠ j → f i = 0) : sm n f = f j := by
  induction n with
  | zero => omega
  | succ n ih =>
    simp only [sm]
    by_cases e : j = n
    · subst e
      rw [sm_congr (g := fun _ => 0) fun i hi => h i (by omega) (by omega), sm_zero]
      grind
    · rw [ih (by omega) fun i hi => h i (by omega), h n (by omega) (Ne.symm e)]
      grind
end
/-! #### vectors and matrices -/
abbrev Vc (k : Dk) := Nat → k.R
abbrev Mt (k : Dk) := Nat → Nat → k.R
noncomputable def Dk.vs (k : Dk) (n : Nat) (v : Vc k) : List D := (List.range n).map fun j => k.en (v j)
noncomputable def Dk.ev (k : Dk) (n : Nat) (v : Vc k) : D := .tup (k.vs n v)
noncomputable def Dk.rs (k : Dk) (m n : Nat) (A : Mt k) : List D := (List.range m).map fun i => k.ev n (A i)
noncomputable def Dk.em (k : Dk) (m n : Nat) (A : Mt k) : D := .tup [.int (m : Nat), .int (n : Nat), .tup (k.rs m n A)]
def Dk.VHas (k : Dk) (e L n : Nat) (v : Vc k) : Prop := ∀ j, j < n → k.Has e L (v j)
def Dk.MHas (k : Dk) (e L m n : Nat) (A : Mt k) : Prop := ∀ i, i < m → k.VHas e L n (A i)
theorem Dk.vs_len (k : Dk) (n : Nat) (v : Vc k) : (k.vs n v).length = n := by unfold Dk.vs; rw [List.length_map, List.length_range]
theorem Dk.rs_len (k : Dk) (m n : Nat) (A : Mt k) : (k.rs m n A).length = m := by unfold Dk.rs; rw [List.length_map, List.length_range]
theorem Dk.vs_get {k : Dk} {n j : Nat} {v : Vc k} (h : j < n) : (k.vs n v)[j]? = some (k.en (v j)) := by unfold Dk.vs; rw [List.getElem?_map, List.getElem?_range h]; rfl
theorem Dk.rs_get {k : Dk} {m n i : Nat} {A : Mt k} (h : i < m) : (k.rs m n A)[i]? = some (k.ev n (A i)) := by unfold Dk.rs; rw [List.getElem?_map, List.getElem?_range h]; rfl
theorem Dk.vs_at {k : Dk} {n j : Nat} {v : Vc k} (h : j < n) : L2.atI (k.vs n v) (j : Nat) = some (k.en (v j)) := atI_of (by omega) (by rw [Int.toNat_natCast]; exact Dk.vs_get h)
theorem Dk.rs_at {k : Dk} {m n i : Nat} {A : Mt k} (h : i < m) : L2.atI (k.rs m n A) (i : Nat) = some (k.ev n (A i)) := atI_of (by omega) (by rw [Int.toNat_natCast]; exact Dk.rs_get h)
theorem range_map_congr {α : Type} {n : Nat} {f g : Nat → α} (h : ∀ i, i < n → f i = g i) : (List.range n).map f = (List.range n).map g := List.map_congr_left fun i hi => h i (List.mem_range.mp hi)
theorem Dk.vs_congr {k : Dk} {n : Nat} {u v : Vc k} (h : ∀ j, j < n → u j = v j) : k.vs n u = k.vs n v := range_map_congr fun j hj => by rw [h j hj]
theorem Dk.ev_congr {k : Dk} {n : Nat} {u v : Vc k} (h : ∀ j, j < n → u j = v j) : k.ev n u = k.ev n v := by unfold Dk.ev; rw [Dk.vs_congr h]
theorem Dk.rs_congr {k : Dk} {m n : Nat} {A B : Mt k} (h : ∀ i, i < m → ∀ j, j < n → A i j = B i j) : k.rs m n A = k.rs m n B := range_map_congr fun i hi => Dk.ev_congr (h i hi)
theorem Dk.em_congr {k : Dk} {m n : Nat} {A B : Mt k} (h : ∀ i, i < m → ∀ j, j < n → A i j = B i j) : k.em m n A = k.em m n B := by unfold Dk.em; rw [Dk.rs_congr h]
theorem Dk.vs_succ {k : Dk} {n : Nat} {v : Vc k} : k.vs (n + 1) v = k.vs n v ++ [k.en (v n)] := by unfold Dk.vs; rw [List.range_succ, List.map_append]; rfl
theorem Dk.rs_succ {k : Dk} {m n : Nat} {A : Mt k} : k.rs (m + 1) n A = k.rs m n A ++ [k.ev n (A m)] := by unfold Dk.rs; rw [List.range_succ, List.map_append]; rfl
theorem Dk.VHas.succ {k : Dk} {e L n : Nat} {v : Vc k} (h : k.VHas e L n v) (g : k.Has e L (v n)) : k.VHas e L (n + 1) v := fun j hj => by
  by_cases hj' : j = n
  · subst hj'; exact g
  · exact h j (by omega)
theorem Dk.MHas.succ {k : Dk} {e L m n : Nat} {A : Mt k} (h : k.MHas e L m n A) (g : k.VHas e L n (A m)) : k.MHas e L (m + 1) n A := fun j hj => by
  by_cases hj' : j = m
  · subst hj'; exact g
  · exact h j (by omega)
theorem D.cl_le : ∀ {n m : Nat} {d : D}, d.cl n = true → n ≤ m → d.cl m = true := by
  intro n m d h hm
  induction hm with
  | refl => exact h
  | step _ ih => exact D.cl_up _ _ ih
theorem tup_cl {n : Nat} {ds : List D} (h : ∀ d ∈ ds, d.cl n = true) : (D.tup ds).cl (n + 1) = true := by rw [D.cl, List.all_eq_true]; exact h
theorem Dk.vs_cl {k : Dk} {n : Nat} {v : Vc k} : ∀ d ∈ k.vs n v, d.cl 2 = true := by
  intro d hd
  obtain ⟨j, _, rfl⟩ := List.mem_map.mp hd
  exact k.en_cl _
theorem Dk.ev_cl (k : Dk) (n : Nat) (v : Vc k) : (k.ev n v).cl 3 = true := tup_cl Dk.vs_cl
theorem Dk.rs_cl {k : Dk} {m n : Nat} {A : Mt k} : ∀ d ∈ k.rs m n A, d.cl 3 = true := by
  intro d hd
  obtain ⟨i, _, rfl⟩ := List.mem_map.mp hd
  exact k.ev_cl n _
theorem Dk.em_cl (k : Dk) (m n : Nat) (A : Mt k) : (k.em m n A).cl 5 = true := by
  refine tup_cl fun d hd => ?_
  rcases List.mem_cons.mp hd with rfl | hd
  · rfl
  rcases List.mem_cons.mp hd with rfl | hd
  · rfl
  rw [List.mem_singleton.mp hd]
  exact tup_cl Dk.rs_cl
/-- equal trees: what != says of them -/
theorem ne_cl {x y : D} (n : Nat) (h : x = y) (hx : x.cl n = true) {S : Sto} {Q : VKD} {X : XKD} (q : Q (.bl false) S) (hn : n ≤ 64 := by decide) : fNe x y S Q X := by
  subst h
  exact ne_same (D.cl_dt _ _ hx) q hn
theorem eq_cl {x y : D} (n : Nat) (h : x = y) (hx : x.cl n = true) {S : Sto} {Q : VKD} {X : XKD} (q : Q (.bl true) S) (hn : n ≤ 64 := by decide) : fEq x y S Q X := by
  subst h
  exact eq_same (D.cl_dt _ _ hx) q hn
def mmul {R : Type} [Lean.Grind.CommRing R] (n : Nat) (A B : Nat → Nat → R) : Nat → Nat → R := fun i j => sm n fun l => A i l * B l j
def mid {R : Type} [Lean.Grind.CommRing R] : Nat → Nat → R := fun i j => if i = j then 1 else 0
theorem mmul_assoc {R : Type} [Lean.Grind.CommRing R] (n m : Nat) (A B C : Nat → Nat → R) (i j : Nat) : mmul m (mmul n A B) C i j = mmul n A (mmul m B C) i j := by
  unfold mmul
  rw [sm_congr (g := fun l => sm n fun t => A i t * B t l * C l j) fun l _ => (sm_mul_right n (C l j) fun t => A i t * B t l).symm, sm_comm]
  refine sm_congr fun t _ => ?_
  rw [← sm_mul_left]
  exact sm_congr fun l _ => by grind
theorem mmul_id_left {R : Type} [Lean.Grind.CommRing R] {n : Nat} {A : Nat → Nat → R} {i j : Nat} (hi : i < n) : mmul n mid A i j = A i j := by
  unfold mmul mid
  rw [sm_one hi fun l _ hl => by rw [if_neg (Ne.symm hl)]; grind, if_pos rfl]
  grind
theorem mmul_id_right {R : Type} [Lean.Grind.CommRing R] {n : Nat} {A : Nat → Nat → R} {i j : Nat} (hj : j < n) : mmul n A mid i j = A i j := by
  unfold mmul mid
  rw [sm_one hj fun l _ hl => by rw [if_neg hl]; grind, if_pos rfl]
  grind
theorem mmul_congr {R : Type} [Lean.Grind.CommRing R] {n i j : Nat} {A A' B B' : Nat → Nat → R} (hA : ∀ l, l < n → A i l = A' i l) (hB : ∀ l, l < n → B l j = B' l j) : mmul n A B i j = mmul n A' B' i j :=
  sm_congr fun l hl => by rw [hA l hl, hB l hl]
section
variable {k : Dk} {m n : Nat} {A : Mt k} {v : Vc k} {S : Sto} {Q : VKD} {X : XKD}
theorem em_ix0 : fIx (k.em m n A) (.int 0) S Q X = Q (.int (m : Nat)) S := id rfl
theorem em_ix1 : fIx (k.em m n A) (.int 1) S Q X = Q (.int (n : Nat)) S := id rfl
theorem em_ix2 : fIx (k.em m n A) (.int 2) S Q X = Q (.tup (k.rs m n A)) S := id rfl
theorem ev_len : gLen [k.ev n v] S Q X = Q (.int (n : Nat)) S := by
  show Q (.int ((k.vs n v).length : Nat)) S = _
  rw [k.vs_len]
end
theorem num_neg {R : Type} [Lean.Grind.CommRing R] (i : Int) : (Lean.Grind.Ring.intCast.intCast (-i) : R) = -(Lean.Grind.Ring.intCast.intCast i : R) := Lean.Grind.Ring.intCast_neg i
theorem has_b1 {k : Bk} {e L L' : Nat} {v : (Dk.b k).R} (h : (Dk.b k).Has e L v) : (Dk.b k).Has e L' v := by
  obtain ⟨z, hz, ok, D, d0, d1, hi⟩ := h
  exact ⟨z, hz, ok, D, d0, d1, hi⟩
theorem vhas_b1 {k : Bk} {e L L' n : Nat} {v : Vc (.b k)} (h : (Dk.b k).VHas e L n v) : (Dk.b k).VHas e L' n v := fun j hj => has_b1 (h j hj)
theorem mhas_b1 {k : Bk} {e L L' m n : Nat} {A : Mt (.b k)} (h : (Dk.b k).MHas e L m n A) : (Dk.b k).MHas e L' m n A := fun i hi => vhas_b1 (h i hi)
theorem MHas_mono {k : Dk} {e e' L L' m n : Nat} {A : Mt k} (h : k.MHas e L m n A) (he : e ≤ e') (hL : L ≤ L') : k.MHas e' L' m n A := fun i hi j hj => (h i hi j hj).mono he hL
theorem sm_front {R : Type} [Lean.Grind.CommRing R] (n : Nat) (f : Nat → R) : sm (n + 1) f = f 0 + sm n fun i => f (i + 1) := by
  induction n with
  | zero => simp only [sm]; grind
  | succ n ih =>
    show sm (n + 1) f + f (n + 1) = _
    rw [ih]
    simp only [sm]
    grind
theorem Dk.fld_dr {k : Bk} (h : k.fld) : (Dk.b k).dr := .inr h
theorem same_ok {d : D} (n : Nat) (h : d.cl n = true) (hn : n ≤ 64 := by decide) : EqOk d d := eqOk_dt (D.cl_dt _ _ h) (D.cl_dt _ _ h) hn hn
theorem eqb_refl (d : D) : D.eqb d d = true := eqv_self d
/-! ### sizes fit, or do not -/
def a_needs (e : XN → Value) : ASp := fun ds S Q XX => ∃ b : Bool, ds = [.bl b] ∧ (b = true → Q .non S) ∧ (b = false → XX (e .shape) none S)
theorem len_need_shape {e : XN → Value} : ∀ ds S Q XX, a_needs e ds S Q XX → ds.length = 1 := by rintro ds S Q XX ⟨_, rfl, _⟩; rfl
theorem needs_ok {e : XN → Value} {b : Bool} {S : Sto} {Q : VKD} {X : XKD} (h : b = true) (q : Q .non S) : a_needs e [.bl b] S Q X := ⟨b, rfl, fun _ => q, fun g => absurd (h.symm.trans g) (by decide)⟩
theorem needs_no {e : XN → Value} {b : Bool} {S : Sto} {Q : VKD} {X : XKD} (h : b = false) (q : X (e .shape) none S) : a_needs e [.bl b] S Q X := ⟨b, rfl, fun g => absurd (h.symm.trans g) (by decide), fun _ => q⟩
/-- a square matrix, or none -/
def a_needq (e : XN → Value) : ASp := fun ds S Q XX => ∃ (m n : Nat) (x : D), ds = [.tup [.int (m : Nat), .int (n : Nat), x]] ∧ (m = n → Q .non S) ∧ (m ≠ n → XX (e .shape) none S)
theorem len_need_square {e : XN → Value} : ∀ ds S Q XX, a_needq e ds S Q XX → ds.length = 1 := by rintro ds S Q XX ⟨_, _, _, rfl, _⟩; rfl
theorem cut2 {α : Type} (a b c : α) : cutL [a, b, c] none (some 2) = [a, b] := rfl
theorem pair_eqb (m n m' n' : Nat) : D.eqb (.tup [.int (m : Nat), .int (n : Nat)]) (.tup [.int (m' : Nat), .int (n' : Nat)]) = decide (m = m' ∧ n = n') :=
  eqv_dec (n := 1) (m := 1) rfl rfl ⟨fun h => by injection h with h; injection h with h1 h2; injection h1 with h1; injection h2 with h2; injection h2 with h2; omega, fun h => by rw [h.1, h.2]⟩
theorem pair_ok (m n m' n' : Nat) : EqOk (.tup [.int (m : Nat), .int (n : Nat)]) (.tup [.int (m' : Nat), .int (n' : Nat)]) := eqOk_dt (n := 1) (m := 1) rfl rfl
/-! ### products of vectors -/
/-- how large a product of vectors may be -/
abbrev dotE (n e e' l : Nat) : Nat := n * (e + e' + l + 1)
def a_dot : ASp := fun ds S Q _ => ∃ (k : Dk) (n : Nat) (u v : Vc k) (e L e' L' l : Nat), ds = [k.dom, k.ev n u, k.ev n v] ∧ k.base.ok ∧ k.VHas e L n u ∧ k.VHas e' L' n v ∧ (0 < L ∧ 0 < L' ∧ L + L' ≤ 2 ^ l) ∧ (dotE n e e' l + (e + e' + l) < 45000000 ∧ L + L' < 1000000 ∧ n < 1000000) ∧
  (k.Has (dotE n e e' l) (L + L' - 1) (sm n fun i => u i * v i) → Q (k.en (sm n fun i => u i * v i)) S)
theorem len_dot : ∀ ds S Q XX, a_dot ds S Q XX → ds.length = 3 := by rintro ds S Q XX ⟨_, _, _, _, _, _, _, _, _, rfl, _⟩; rfl
theorem len_ldot : ∀ ds S Q XX, a_dot ds S Q XX → ds.length = 3 := len_dot
theorem dot_turn {k : Dk} {n : Nat} {u v : Vc k} {e L e' L' l i : Nat} (hu : k.VHas e L n u) (hv : k.VHas e' L' n v) (hL : 0 < L ∧ 0 < L' ∧ L + L' ≤ 2 ^ l) (hb : dotE n e e' l + (e + e' + l) < 45000000 ∧ L + L' < 1000000 ∧ n < 1000000) (hi : i < n) (h : k.Has (dotE i e e' l) (L + L' - 1) (sm i fun i => u i * v i)) :
    dotE i e e' l + (e + e' + l) < 45000000 ∧ ∀ {z : k.R}, k.Has (e + e' + l) (L + L' - 1) z → z = u i * v i → k.Has (dotE i e e' l + (e + e' + l) + 1) (max (L + L' - 1) (L + L' - 1)) (sm i (fun i => u i * v i) + z) → k.Has (dotE (i + 1) e e' l) (L + L' - 1) (sm (i + 1) fun i => u i * v i) := by
  refine ⟨?_, fun {z} _ ez h2 => ?_⟩
  · have : dotE i e e' l ≤ dotE n e e' l := Nat.mul_le_mul_right _ (by omega)
    omega
  · subst ez
    refine h2.mono ?_ (by omega)
    show _ ≤ (i + 1) * (e + e' + l + 1)
    rw [Nat.add_mul]
    show i * (e + e' + l + 1) + (e + e' + l) + 1 ≤ _
    omega
theorem p_ldot : ∀ ds S Q XX, Closed S → a_dot ds S Q XX → w__law_dot a_zero a_add a_mul (endOf Q S.length) (startD ["d", "u", "v", "total", "k"] ds) S (GivesX XX S.length) := by
  rintro ds S Q XX hC ⟨k, n, u, v, e, L, e', L', l, rfl, ok, hu, hv, hL, hb, q⟩
  unfold w__law_dot
  refine seq_to [some k.dom, some (k.ev n u), some (k.ev n v), some (k.en 0), none] S ?_ fun R hR => by
    walk_at "ax"
    exact zero_at ok fun _ => by walk_at "ax"; exact hR
  refine seq_cut (fun σ S' => S' = S ∧ k.Has (dotE n e e' l) (L + L' - 1) (sm n fun i => u i * v i) ∧ ∃ a, σ = [some k.dom, some (k.ev n u), some (k.ev n v), some (k.en (sm n fun i => u i * v i)), a]) ?_ fun R hR => ?_
  · rintro _ _ ⟨rfl, h, _, rfl⟩
    walk_at "ax"
    exact gives_now (q h)
  · simp only [Dk.ev]
    walk_at "ax"
    rw [k.vs_len]
    refine ⟨by omega, ?_⟩
    rw [Int.toNat_natCast]
    refine rng_cut 0 n (fun i σ S' => S' = S ∧ k.Has (dotE i e e' l) (L + L' - 1) (sm i fun i => u i * v i) ∧ ∃ a, σ = [some k.dom, some (k.ev n u), some (k.ev n v), some (k.en (sm i fun i => u i * v i)), a]) ⟨rfl, (k.has_zero ok).mono (Nat.zero_le _) (by omega), _, rfl⟩ ?_ ?_
    · rintro i σ S' R2 hi ⟨rfl, h, a, rfl⟩ hR2
      obtain ⟨b1, b2⟩ := dot_turn hu hv hL hb hi h
      rw [Int.zero_add]
      simp only [Dk.ev]
      walk_at "ax"
      rw [atQ_of (Dk.vs_at hi)]
      walk_at "ax"
      rw [atQ_of (Dk.vs_at hi)]
      walk_at "ax"
      refine mul_at (hu i hi) (hv i hi) hL (by omega) fun h2 => ?_
      walk_at "ax"
      refine add_at h h2 (by omega) fun h3 => ?_
      walk_at "ax"
      exact hR2 _ _ ⟨rfl, b2 h2 rfl h3, _, rfl⟩
    · rintro σ S' ⟨rfl, h, a, rfl⟩
      exact hR _ _ ⟨rfl, h, a, rfl⟩
/-! ### transposed -/
def a_transposed : ASp := fun ds S Q _ => ∃ (k : Dk) (m n : Nat) (A : Mt k), ds = [k.em m n A] ∧ m < 1000000 ∧ n < 1000000 ∧ Q (k.em n m fun i j => A j i) S
theorem len_transposed : ∀ ds S Q XX, a_transposed ds S Q XX → ds.length = 1 := by rintro ds S Q XX ⟨_, _, _, _, rfl, _⟩; rfl
theorem line_of {n : Nat} (h : n < 1000000) : n ≤ sizeLine := small_line (by omega)
/-! ### times -/
def prodOk (k : Dk) (ds : List D) (S : Sto) (Q : VKD) : Prop := ∃ (m n p : Nat) (A B : Mt k) (e L e' L' l : Nat), ds = [k.dom, k.em m n A, k.em n p B] ∧ k.base.ok ∧ k.MHas e L m n A ∧ k.MHas e' L' n p B ∧ (0 < L ∧ 0 < L' ∧ L + L' ≤ 2 ^ l) ∧ (dotE n e e' l + (e + e' + l) < 45000000 ∧ L + L' < 1000000 ∧ m < 1000000 ∧ n < 1000000 ∧ p < 1000000) ∧
  (k.MHas (dotE n e e' l) (L + L' - 1) m p (mmul n A B) → Q (k.em m p (mmul n A B)) S)
def a_product : ASp := fun ds S Q _ => ∃ k, prodOk k ds S Q
theorem len_product : ∀ ds S Q XX, a_product ds S Q XX → ds.length = 3 := by rintro ds S Q XX ⟨_, _, _, _, _, _, _, _, _, _, _, rfl, _⟩; rfl
/-- a wrong domain; sizes that do not fit; else -/
def a_times (e : XN → Value) : ASp := fun ds S Q XX => (∃ (k : Dk) (m n n' p : Nat) (x y : D), ds = [k.dom, .tup [.int (m : Nat), .int (n : Nat), x], .tup [.int (n' : Nat), .int (p : Nat), y]] ∧ k.dr ∧ n ≠ n' ∧ XX (e .shape) none S) ∨ (∃ k : Dk, k.dr ∧ prodOk k ds S Q)
theorem len_times {e : XN → Value} : ∀ ds S Q XX, a_times e ds S Q XX → ds.length = 3 := by
  rintro ds S Q XX (⟨_, _, _, _, _, _, _, rfl, _⟩ | ⟨_, _, h⟩)
  · rfl
  · exact len_product ds S Q XX ⟨_, h⟩
theorem Dk.vs_row {k : Dk} {n : Nat} {A : Mt k} {m : Nat} : (List.range m).map (fun i => k.ev n (A i)) = k.rs m n A := rfl
/-! ### plus -/
def plusOk (k : Dk) (ds : List D) (S : Sto) (Q : VKD) : Prop := ∃ (m n : Nat) (A B : Mt k) (e L e' L' : Nat), ds = [k.dom, k.em m n A, k.em m n B] ∧ k.MHas e L m n A ∧ k.MHas e' L' m n B ∧ (e + e' < 45000000 ∧ L < 1000000 ∧ L' < 1000000 ∧ m < 1000000 ∧ n < 1000000) ∧
  (k.MHas (e + e' + 1) (max L L') m n (fun i j => A i j + B i j) → Q (k.em m n fun i j => A i j + B i j) S)
def a_plus (e : XN → Value) : ASp := fun ds S Q XX => (∃ (k : Dk) (m n m' n' : Nat) (x y : D), ds = [k.dom, .tup [.int (m : Nat), .int (n : Nat), x], .tup [.int (m' : Nat), .int (n' : Nat), y]] ∧ k.dr ∧ ¬(m = m' ∧ n = n') ∧ XX (e .shape) none S) ∨ (∃ k : Dk, k.dr ∧ plusOk k ds S Q)
theorem len_plus {e : XN → Value} : ∀ ds S Q XX, a_plus e ds S Q XX → ds.length = 3 := by
  rintro ds S Q XX (⟨_, _, _, _, _, _, _, rfl, _⟩ | ⟨_, _, _, _, _, _, _, _, _, _, rfl, _⟩) <;> rfl
/-! ### minus -/
def minusOk (k : Dk) (ds : List D) (S : Sto) (Q : VKD) : Prop := ∃ (m n : Nat) (A B : Mt k) (e L e' L' : Nat), ds = [k.dom, k.em m n A, k.em m n B] ∧ k.MHas e L m n A ∧ k.MHas e' L' m n B ∧ (e + e' < 45000000 ∧ L < 1000000 ∧ L' < 1000000 ∧ m < 1000000 ∧ n < 1000000) ∧
  (k.MHas (e + e' + 1) (max L L') m n (fun i j => A i j - B i j) → Q (k.em m n fun i j => A i j - B i j) S)
def a_minus (e : XN → Value) : ASp := fun ds S Q XX => (∃ (k : Dk) (m n m' n' : Nat) (x y : D), ds = [k.dom, .tup [.int (m : Nat), .int (n : Nat), x], .tup [.int (m' : Nat), .int (n' : Nat), y]] ∧ k.dr ∧ ¬(m = m' ∧ n = n') ∧ XX (e .shape) none S) ∨ (∃ k : Dk, k.dr ∧ minusOk k ds S Q)
theorem len_minus {e : XN → Value} : ∀ ds S Q XX, a_minus e ds S Q XX → ds.length = 3 := by
  rintro ds S Q XX (⟨_, _, _, _, _, _, _, rfl, _⟩ | ⟨_, _, _, _, _, _, _, _, _, _, rfl, _⟩) <;> rfl
/-! ### identity -/
def a_identity (e : XN → Value) : ASp := fun ds S Q XX => ∃ (k : Dk) (n : Nat), ds = [k.dom, .int (n : Nat)] ∧ k.dr ∧ n < 1000000 ∧ (k.MHas 0 1 n n mid → Q (k.em n n mid) S)
theorem len_identity {e : XN → Value} : ∀ ds S Q XX, a_identity e ds S Q XX → ds.length = 2 := by rintro ds S Q XX ⟨_, _, rfl, _⟩; rfl
theorem mid_has {k : Dk} (ok : k.base.ok) (i j : Nat) : k.Has 0 1 (mid i j) := by
  unfold mid
  split
  · exact k.has_o ok
  · exact k.has_zero ok
/-! ### scaled -/
def a_scaled (e : XN → Value) : ASp := fun ds S Q XX => ∃ (k : Dk) (m n : Nat) (x : k.R) (A : Mt k) (e L e' L' l : Nat), ds = [k.dom, k.en x, k.em m n A] ∧ k.dr ∧ k.Has e L x ∧ k.MHas e' L' m n A ∧ (0 < L ∧ 0 < L' ∧ L + L' ≤ 2 ^ l) ∧ (e + e' + l < 45000000 ∧ L < 1000000 ∧ L' < 1000000 ∧ m < 1000000 ∧ n < 1000000) ∧
  (k.MHas (e + e' + l) (L + L' - 1) m n (fun i j => x * A i j) → Q (k.em m n fun i j => x * A i j) S)
theorem len_scaled {e : XN → Value} : ∀ ds S Q XX, a_scaled e ds S Q XX → ds.length = 3 := by rintro ds S Q XX ⟨_, _, _, _, _, _, _, _, _, _, rfl, _⟩; rfl
/-! ### products with vectors -/
def appOk (k : Dk) (ds : List D) (S : Sto) (Q : VKD) : Prop := ∃ (m n : Nat) (A : Mt k) (v : Vc k) (e L e' L' l : Nat), ds = [k.dom, k.em m n A, k.ev n v] ∧ k.MHas e L m n A ∧ k.VHas e' L' n v ∧ (0 < L ∧ 0 < L' ∧ L + L' ≤ 2 ^ l) ∧ (dotE n e e' l + (e + e' + l) < 45000000 ∧ L + L' < 1000000 ∧ m < 1000000 ∧ n < 1000000) ∧
  (k.VHas (dotE n e e' l) (L + L' - 1) m (fun i => sm n fun j => A i j * v j) → Q (k.ev m fun i => sm n fun j => A i j * v j) S)
def a_applied (e : XN → Value) : ASp := fun ds S Q XX => (∃ (k : Dk) (m n : Nat) (x : D) (l : List D), ds = [k.dom, .tup [.int (m : Nat), .int (n : Nat), x], .tup l] ∧ k.dr ∧ n ≠ l.length ∧ XX (e .shape) none S) ∨ (∃ k : Dk, k.dr ∧ appOk k ds S Q)
theorem len_applied {e : XN → Value} : ∀ ds S Q XX, a_applied e ds S Q XX → ds.length = 3 := by
  rintro ds S Q XX (⟨_, _, _, _, _, rfl, _⟩ | ⟨_, _, _, _, _, _, _, _, _, _, _, rfl, _⟩) <;> rfl
def rowOk (k : Dk) (ds : List D) (S : Sto) (Q : VKD) : Prop := ∃ (m n : Nat) (A : Mt k) (v : Vc k) (e L e' L' l : Nat), ds = [k.dom, k.ev m v, k.em m n A] ∧ k.MHas e L m n A ∧ k.VHas e' L' m v ∧ (0 < L ∧ 0 < L' ∧ L' + L ≤ 2 ^ l) ∧ (dotE m e' e l + (e' + e + l) < 45000000 ∧ L' + L < 1000000 ∧ m < 1000000 ∧ n < 1000000) ∧
  (k.VHas (dotE m e' e l) (L' + L - 1) n (fun j => sm m fun i => v i * A i j) → Q (k.ev n fun j => sm m fun i => v i * A i j) S)
def a_rowtimes (e : XN → Value) : ASp := fun ds S Q XX => (∃ (k : Dk) (m n : Nat) (x : D) (l : List D), ds = [k.dom, .tup l, .tup [.int (m : Nat), .int (n : Nat), x]] ∧ k.dr ∧ m ≠ l.length ∧ XX (e .shape) none S) ∨ (∃ k : Dk, k.dr ∧ rowOk k ds S Q)
theorem len_row_times {e : XN → Value} : ∀ ds S Q XX, a_rowtimes e ds S Q XX → ds.length = 3 := by
  rintro ds S Q XX (⟨_, _, _, _, _, rfl, _⟩ | ⟨_, _, _, _, _, _, _, _, _, _, _, rfl, _⟩) <;> rfl
/-! ### the trace -/
def a_trace (e : XN → Value) : ASp := fun ds S Q XX => (∃ (k : Dk) (m n : Nat) (x : D), ds = [k.dom, .tup [.int (m : Nat), .int (n : Nat), x]] ∧ k.dr ∧ m ≠ n ∧ XX (e .shape) none S) ∨
  (∃ (k : Dk) (n : Nat) (A : Mt k) (e1 L : Nat), ds = [k.dom, k.em n n A] ∧ k.dr ∧ k.MHas e1 L n n A ∧ 0 < L ∧ (n * (e1 + 1) + e1 < 45000000 ∧ L < 1000000 ∧ n < 1000000) ∧ (k.Has (n * (e1 + 1)) L (sm n fun i => A i i) → Q (k.en (sm n fun i => A i i)) S))
theorem len_trace {e : XN → Value} : ∀ ds S Q XX, a_trace e ds S Q XX → ds.length = 2 := by
  rintro ds S Q XX (⟨_, _, _, _, rfl, _⟩ | ⟨_, _, _, _, _, rfl, _⟩) <;> rfl
theorem trace_turn {k : Dk} {n : Nat} {f : Nat → k.R} {e L i : Nat} (hi : i < n) (hb : n * (e + 1) + e < 45000000) (h : k.Has (i * (e + 1)) L (sm i f)) : i * (e + 1) + e < 45000000 ∧ (k.Has (i * (e + 1) + e + 1) (max L L) (sm i f + f i) → k.Has ((i + 1) * (e + 1)) L (sm (i + 1) f)) := by
  refine ⟨?_, fun h => h.mono (by rw [Nat.add_mul]; omega) (by omega)⟩
  have : i * (e + 1) ≤ n * (e + 1) := Nat.mul_le_mul_right _ (by omega)
  omega
/-! ### powers: up to the fifth, of at most four rows -/
def mpw {R : Type} [Lean.Grind.CommRing R] (n : Nat) (A : Nat → Nat → R) : Nat → Nat → Nat → R
  | 0 => mid
  | t + 1 => mmul n (mpw n A t) A
theorem mpw_congr {R : Type} [Lean.Grind.CommRing R] {n : Nat} {A B : Nat → Nat → R} (h : ∀ i, i < n → ∀ j, j < n → A i j = B i j) : ∀ t i, i < n → ∀ j, j < n → mpw n A t i j = mpw n B t i j
  | 0, _, _, _, _ => rfl
  | t + 1, i, hi, j, hj => mmul_congr (fun l hl => mpw_congr h t i hi l hl) fun l hl => h l hl j hj
theorem mpw_add {R : Type} [Lean.Grind.CommRing R] {n : Nat} (A : Nat → Nat → R) (s : Nat) : ∀ t i, i < n → ∀ j, j < n → mmul n (mpw n A s) (mpw n A t) i j = mpw n A (s + t) i j
  | 0, i, hi, j, hj => mmul_id_right hj
  | t + 1, i, hi, j, hj => by
    show mmul n (mpw n A s) (mmul n (mpw n A t) A) i j = mmul n (mpw n A (s + t)) A i j
    rw [← mmul_assoc]
    exact mmul_congr (fun l hl => mpw_add A s t i hi l hl) fun _ _ => rfl
/-- sizes of a, its square, the square's square; of what is found -/
def pE : Nat → Nat := fun s => match s with | 0 => 6 | 1 => 68 | 2 => 564 | _ => 4532
def pL : Nat → Nat := fun s => match s with | 0 => 2 | 1 => 3 | 2 => 5 | _ => 9
def fE : Nat → Nat := fun s => match s with | 0 => 0 | 1 => 44 | 2 => 468 | _ => 4148
def fL : Nat → Nat := fun s => match s with | 0 => 1 | 1 => 2 | 2 => 4 | _ => 8
def a_mpower (e : XN → Value) : ASp := fun ds S Q XX => (∃ (k : Dk) (m n : Nat) (x y : D), ds = [k.dom, .tup [.int (m : Nat), .int (n : Nat), x], y] ∧ k.dr ∧ m ≠ n ∧ XX (e .shape) none S) ∨
  (∃ (k : Dk) (n t : Nat) (A : Mt k), ds = [k.dom, k.em n n A, .int (t : Nat)] ∧ k.dr ∧ k.MHas 6 2 n n A ∧ n ≤ 4 ∧ t ≤ 5 ∧ Q (k.em n n (mpw n A t)) S)
theorem len_matrix_power {e : XN → Value} : ∀ ds S Q XX, a_mpower e ds S Q XX → ds.length = 3 := by
  rintro ds S Q XX (⟨_, _, _, _, _, rfl, _⟩ | ⟨_, _, _, _, rfl, _⟩) <;> rfl
theorem needf_ok {e : XN → Value} {k : Bk} {S : Sto} {Q : VKD} {X : XKD} (fl : k.fld) (q : Q .non S) : a_needf e [k.dom] S Q X := ⟨k.dom, rfl, k.dom_pure, fun _ => q, fun h => absurd fl.fieldD h⟩
theorem needq_ok {e : XN → Value} {k : Dk} {n : Nat} {A : Mt k} {S : Sto} {Q : VKD} {X : XKD} (q : Q .non S) : a_needq e [k.em n n A] S Q X := ⟨n, n, _, rfl, fun _ => q, fun h => absurd rfl h⟩
/-! ### the law's matrices -/
def a_lmatrix : ASp := fun ds S Q _ => ∃ (c : Nat) (k : Dk) (m n : Nat), ds = [.ref c, k.dom, .int (m : Nat), .int (n : Nat)] ∧ Dr S c ∧ k.base.ok ∧ m < 1000000 ∧ n < 1000000 ∧ ∀ (A : Mt k) S', k.MHas 6 2 m n A → DrTo S c S' → Q (k.em m n A) S'
theorem len_lmatrix : ∀ ds S Q XX, a_lmatrix ds S Q XX → ds.length = 4 := by rintro ds S Q XX ⟨_, _, _, _, rfl, _⟩; rfl
theorem vs_put {k : Dk} {n : Nat} {v : Vc k} {x : k.R} : k.vs n v ++ [k.en x] = k.vs (n + 1) fun j => if j = n then x else v j := by
  rw [Dk.vs_succ, if_pos rfl]
  congr 1
  exact Dk.vs_congr fun j hj => (if_neg (by omega)).symm
theorem rs_put {k : Dk} {m n : Nat} {A : Mt k} {v : Vc k} : k.rs m n A ++ [k.ev n v] = k.rs (m + 1) n fun i => if i = m then v else A i := by
  rw [Dk.rs_succ, if_pos rfl]
  congr 1
  exact Dk.rs_congr fun i hi j _ => by rw [if_neg (by omega)]
theorem Dk.VHas.put {k : Dk} {e L n : Nat} {v : Vc k} {x : k.R} (h : k.VHas e L n v) (g : k.Has e L x) : k.VHas e L (n + 1) fun j => if j = n then x else v j := fun j hj => by
  show k.Has e L (if j = n then x else v j)
  by_cases c : j = n
  · rw [if_pos c]; exact g
  · rw [if_neg c]; exact h j (by omega)
theorem Dk.MHas.put {k : Dk} {e L m n : Nat} {A : Mt k} {v : Vc k} (h : k.MHas e L m n A) (g : k.VHas e L n v) : k.MHas e L (m + 1) n fun i => if i = m then v else A i := fun i hi => by
  show k.VHas e L n (if i = m then v else A i)
  by_cases c : i = m
  · rw [if_pos c]; exact g
  · rw [if_neg c]; exact h i (by omega)
theorem small_has {k : Dk} {x : k.E} (h : k.Fi 3 6 2 x) : k.Has 6 2 (k.val x) := ⟨x, rfl, h.mono (by decide) (by decide) (by decide)⟩
/-- a drawn vector -/
theorem lc_small {c : Nat} {k : Dk} {n : Nat} {σ : ASt} {S : Sto} {Q : List D → Sto → Prop} {wg : WG} {we : WE} (hd : Dr S c) (ok : k.base.ok)
    (hs : ∀ (i : Nat) acc S1 (R : List D → Sto → Prop), Dr S1 c → (∀ (x : k.E) S2, k.Fi 3 6 2 x → DrTo S1 c S2 → R (acc ++ [k.enc x]) S2) → lcTurn wg wYes we σ (.int (0 + (i : Nat))) acc S1 R)
    (q : ∀ (v : Vc k) S', k.VHas 6 2 n v → DrTo S c S' → Q (k.vs n v) S') : lcL wg wYes we σ Q (rangeD 0 n) [] S := by
  refine lc_cut (rangeD 0 n) (fun i acc S' => DrTo S c S' ∧ ∃ v : Vc k, k.VHas 6 2 i v ∧ acc = k.vs i v) ⟨hd.self, fun _ => 0, fun j hj => absurd hj (Nat.not_lt_zero j), rfl⟩ ?_ ?_
  · rintro i d acc S1 R hg ⟨t, v, hv, rfl⟩ hR
    obtain ⟨_, rfl⟩ := rangeD_get hg
    refine hs i _ _ _ (hd.to t) fun x S2 hx t2 => ?_
    rw [Dk.en_eq (v := k.val x) rfl, vs_put]
    exact hR _ _ ⟨t.trans t2, _, hv.put (small_has hx), rfl⟩
  · rintro acc S1 ⟨t, v, hv, rfl⟩
    rw [rangeD_len] at hv ⊢
    exact q v _ hv t
theorem p_lmatrix : ∀ ds S Q XX, Closed S → a_lmatrix ds S Q XX → w__law_matrix a_smalld (endOf Q S.length) (startD ["c", "d", "m", "n", "i", "j"] ds) S (GivesX XX S.length) := by
  rintro ds S Q XX hC ⟨c, k, m, n, rfl, hd, ok, hm, hn, q⟩
  unfold w__law_matrix
  walk_at "ax"
  rw [rangeD_len, Int.toNat_natCast]
  refine ⟨by omega, by omega, ?_⟩
  refine lc_cut (rangeD 0 m) (fun i acc S' => DrTo S c S' ∧ ∃ A : Mt k, k.MHas 6 2 i n A ∧ acc = k.rs i n A) ⟨hd.self, fun _ _ => 0, fun j hj => absurd hj (Nat.not_lt_zero j), rfl⟩ ?_ ?_
  · rintro i d acc S1 R hg ⟨t, A, hA, rfl⟩ hR
    obtain ⟨_, rfl⟩ := rangeD_get hg
    walk_at "ax"
    rw [rangeD_len, Int.toNat_natCast]
    refine ⟨by omega, by omega, ?_⟩
    refine lc_small (hd.to t) ok ?_ ?_
    · intro j acc2 S2 R2 h2 hR2
      walk_at "ax"
      refine ⟨c, k, rfl, h2, ok, fun x S3 hx t3 => ?_⟩
      walk_at "ax"
      exact hR2 x S3 hx t3
    · intro v S2 hv t2
      walk_at "ax"
      have := rs_put (k := k) (m := i) (n := n) (A := A) (v := v)
      rw [show D.tup (k.vs n v) = k.ev n v from rfl, this]
      exact hR _ _ ⟨t.trans t2, _, hA.put hv, rfl⟩
  · rintro acc S1 ⟨t, A, hA, rfl⟩
    rw [rangeD_len] at hA ⊢
    walk_at "ax"
    exact gives_now (q A _ hA t)
/-! #### columns, products -/
def a_column : ASp := fun ds S Q _ => ∃ (k : Dk) (m n j : Nat) (A : Mt k), ds = [k.em m n A, .int (j : Nat)] ∧ m < 1000000 ∧ j < n ∧ Q (k.ev m fun i => A i j) S
theorem len_column : ∀ ds S Q XX, a_column ds S Q XX → ds.length = 2 := by rintro ds S Q XX ⟨_, _, _, _, _, rfl, _⟩; rfl
theorem p_column : ∀ ds S Q XX, Closed S → a_column ds S Q XX → w__law_column (endOf Q S.length) (startD ["a", "j", "row"] ds) S (GivesX XX S.length) := by
  rintro ds S Q XX hC ⟨k, m, n, j, A, rfl, hm, hj, q⟩
  unfold w__law_column
  simp only [Dk.em]
  walk_at "ax"
  rw [k.rs_len]
  refine ⟨by omega, ?_⟩
  refine lcL_each (List.range m) (fun i => k.ev n (A i)) (fun i => k.en (A i j)) ?_ ?_
  · intro i a acc2 R2 ha hR2
    simp only [Dk.ev]
    walk_at "ax"
    rw [atQ_of (Dk.vs_at hj)]
    walk_at "ax"
    exact hR2
  · walk_at "ax"
    exact gives_now q
theorem p_product : ∀ ds S Q XX, Closed S → a_product ds S Q XX → w__law_product a_column a_dot (endOf Q S.length) (startD ["d", "a", "b", "columns", "j", "row", "column"] ds) S (GivesX XX S.length) := by
  rintro ds S Q XX hC ⟨k, m, n, p, A, B, e1, L, e2, L', l, rfl, ok, hA, hB, hL, hb, q⟩
  unfold w__law_product
  refine seq_to [some k.dom, some (k.em m n A), some (k.em n p B), some (.fl (k.rs p n fun i j => B j i)), none, none, none] S ?_ fun R hR => by
    simp only [Dk.em]
    walk_at "ax"
    rw [rangeD_len, Int.toNat_natCast]
    refine ⟨by omega, by omega, ?_⟩
    refine lcL_range 0 p (fun j => k.ev n fun i => B i j) ?_ ?_
    · intro j acc R2 hj hR2
      walk_at "ax"
      refine ⟨k, n, p, j, B, by rw [Int.zero_add]; rfl, by omega, hj, ?_⟩
      walk_at "ax"
      exact hR2
    · walk_at "ax"
      exact hR
  simp only [Dk.em]
  walk_at "ax"
  rw [k.rs_len]
  refine ⟨by omega, ?_⟩
  refine lc_cut (k.rs m n A) (fun i acc S2 => S2 = S ∧ acc = k.rs i p (mmul n A B) ∧ k.MHas (dotE n e1 e2 l) (L + L' - 1) i p (mmul n A B)) ⟨rfl, rfl, fun j hj => absurd hj (Nat.not_lt_zero j)⟩ ?_ ?_
  · rintro i d acc S2 R hd ⟨rfl, rfl, h⟩ hR
    have hi : i < m := by rw [← k.rs_len m n A]; exact (List.getElem?_eq_some_iff.mp hd).1
    rw [Dk.rs_get hi] at hd
    cases hd
    walk_at "ax"
    rw [k.rs_len]
    refine ⟨by omega, ?_⟩
    have cols : ∀ j, j < p → k.VHas e2 L' n fun i => B i j := fun j hj i hi => hB i hi j hj
    refine lc_cut (k.rs p n fun i j => B j i) (fun j acc2 S3 => S3 = S2 ∧ acc2 = k.vs j (mmul n A B i) ∧ k.VHas (dotE n e1 e2 l) (L + L' - 1) j (mmul n A B i)) ⟨rfl, rfl, fun j hj => absurd hj (Nat.not_lt_zero j)⟩ ?_ ?_
    · rintro j d acc2 S3 R3 hd ⟨rfl, rfl, hv⟩ hR3
      have hj : j < p := by rw [← k.rs_len p n fun i j => B j i]; exact (List.getElem?_eq_some_iff.mp hd).1
      rw [Dk.rs_get hj] at hd
      cases hd
      walk_at "ax"
      refine ⟨k, n, A i, fun l => B l j, e1, L, e2, L', l, rfl, ok, hA i hi, cols j hj, hL, by omega, fun hz => ?_⟩
      walk_at "ax"
      exact hR3 _ _ ⟨rfl, Dk.vs_succ.symm, Dk.VHas.succ hv hz⟩
    · rintro acc2 S3 ⟨rfl, rfl, hv⟩
      rw [k.rs_len] at hv ⊢
      walk_at "ax"
      exact hR _ _ ⟨rfl, by rw [Dk.rs_succ]; rfl, Dk.MHas.succ h hv⟩
  · rintro acc S2 ⟨rfl, rfl, h⟩
    rw [k.rs_len] at h ⊢
    walk_at "ax"
    exact gives_now (q h)
def a_lidentity : ASp := fun ds S Q _ => ∃ (k : Dk) (n : Nat), ds = [k.dom, .int (n : Nat)] ∧ k.base.ok ∧ n < 1000000 ∧ (k.MHas 0 1 n n mid → Q (k.em n n mid) S)
theorem len_lidentity : ∀ ds S Q XX, a_lidentity ds S Q XX → ds.length = 2 := by rintro ds S Q XX ⟨_, _, rfl, _⟩; rfl
theorem num_at {k : Dk} {n : Int} {v : k.R} {S : Sto} {Q : VKD} {X : XKD} (h : (Lean.Grind.Ring.intCast.intCast n : k.R) = v) (q : Q (k.en v) S) : a_int [k.dom, .int n] S Q X := by
  refine ⟨k, n, rfl, fun z hz => ?_⟩
  rw [Dk.en_eq (hz.trans h)]
  exact q
theorem num0 {R : Type} [Lean.Grind.CommRing R] : (Lean.Grind.Ring.intCast.intCast (0 : Int) : R) = 0 := Lean.Grind.Ring.intCast_zero
theorem num1 {R : Type} [Lean.Grind.CommRing R] : (Lean.Grind.Ring.intCast.intCast (1 : Int) : R) = 1 := Lean.Grind.Ring.intCast_one
theorem p_lidentity : ∀ ds S Q XX, Closed S → a_lidentity ds S Q XX → w__law_identity a_int (endOf Q S.length) (startD ["d", "n", "units", "i", "j"] ds) S (GivesX XX S.length) := by
  rintro ds S Q XX hC ⟨k, n, rfl, ok, hn, q⟩
  unfold w__law_identity
  refine seq_to [some k.dom, some (.int (n : Nat)), some (.fl [k.en 0, k.en 1]), none, none] S ?_ fun R hR => by
    walk_at "ax"
    refine num_at num0 ?_
    walk_at "ax"
    refine num_at num1 ?_
    walk_at "ax"
    exact hR
  walk_at "ax"
  rw [rangeD_len, Int.toNat_natCast]
  refine ⟨by omega, by omega, ?_⟩
  refine lcL_range 0 n (fun i => k.ev n (mid i)) ?_ ?_
  · intro i acc R hi hR
    walk_at "ax"
    rw [rangeD_len, Int.toNat_natCast]
    refine ⟨by omega, by omega, ?_⟩
    refine lcL_range 0 n (fun j => k.en (mid i j)) ?_ ?_
    · intro j acc2 R2 hj hR2
      walk_at "ax"
      rw [if_pos True.intro]
      by_cases c : i = j
      · rw [decide_eq_true (show (0 : Int) + (i : Nat) = 0 + (j : Nat) by omega), if_pos rfl]
        walk_at "ax"
        have : mid (R := k.R) i j = 1 := by unfold mid; rw [if_pos c]
        rw [this] at hR2
        exact hR2
      · rw [decide_eq_false (show ¬((0 : Int) + (i : Nat) = 0 + (j : Nat)) by omega), if_neg (by decide)]
        walk_at "ax"
        have : mid (R := k.R) i j = 0 := by unfold mid; rw [if_neg c]
        rw [this] at hR2
        exact hR2
    · walk_at "ax"
      exact hR
  · walk_at "ax"
    exact gives_now (q fun i _ j _ => mid_has ok i j)
def a_shape : ASp := fun ds S Q _ => ∃ c, ds = [.ref c] ∧ Dr S c ∧ ∀ (s : Nat) S', s ≤ 4 → DrTo S c S' → Q (.int (s : Nat)) S'
theorem len_shape : ∀ ds S Q XX, a_shape ds S Q XX → ds.length = 1 := by rintro ds S Q XX ⟨_, rfl, _⟩; rfl
theorem p_shape : ∀ ds S Q XX, Closed S → a_shape ds S Q XX → w__law_shape a_take (endOf Q S.length) (startD ["c"] ds) S (GivesX XX S.length) := by
  rintro ds S Q XX hC ⟨c, rfl, hd, q⟩
  unfold w__law_shape
  walk_at "ax"
  refine ⟨c, 4, rfl, hd, by omega, fun r1 S1 t1 a0 a1 => ?_⟩
  walk_at "ax"
  refine ⟨c, 4, rfl, hd.to t1, by omega, fun r2 S2 t2 b0 b1 => ?_⟩
  walk_at "ax"
  refine ⟨c, 6, rfl, (hd.to t1).to t2, by omega, fun r3 S3 t3 c0 c1 => ?_⟩
  obtain ⟨x, hx, e⟩ := at_ints [r1, 1 + r2, 0, 1, 2, 3] c0 c1
  simp only [List.map_cons, List.map_nil] at e
  walk_at "ax"
  rw [atQ_of e]
  walk_at "ax"
  simp only [List.mem_cons, List.not_mem_nil, or_false] at hx
  have h0 : 0 ≤ x ∧ x ≤ 4 := by omega
  have := q x.toNat S3 (by omega) ((t1.trans t2).trans t3)
  rw [Int.toNat_of_nonneg h0.1] at this
  exact gives_now this
/-! ### Fermat's little theorem -/
namespace Ser
open Lean.Grind
theorem perm_of_sub {α : Type} [DecidableEq α] : ∀ {l r : List α}, l.Nodup → (∀ x ∈ l, x ∈ r) → r.length ≤ l.length → l.Perm r
  | [], r, _, _, h => by rw [List.eq_nil_of_length_eq_zero (Nat.le_zero.mp h)]
  | x :: l, r, hn, hs, h => by
    have hx := hs x (.head _)
    have p := List.perm_cons_erase hx
    rw [List.nodup_cons] at hn
    refine (List.Perm.cons x (perm_of_sub hn.2 (fun y hy => ?_) ?_)).trans p.symm
    · exact (List.mem_erase_of_ne (fun z => hn.1 (by rw [← z]; exact hy))).mpr (hs y (.tail _ hy))
    · have := p.length_eq
      simp only [List.length_cons] at this h
      omega
variable {F : Type} [CommRing F]
def prod (l : List F) : F := l.foldr (· * ·) 1
theorem prod_perm {l r : List F} (h : l.Perm r) : prod l = prod r := by
  induction h with
  | nil => rfl
  | cons x _ ih => show x * prod _ = x * prod _; rw [ih]
  | swap x y l => show y * (x * prod l) = x * (y * prod l); grind
  | trans _ _ h1 h2 => exact h1.trans h2
theorem prod_map (a : F) : ∀ l : List F, prod (l.map fun x => a * x) = a ^ l.length * prod l
  | [] => by show (1 : F) = a ^ 0 * 1; rw [Semiring.pow_zero]; grind
  | x :: l => by
    show a * x * prod (l.map fun x => a * x) = a ^ (l.length + 1) * (x * prod l)
    rw [prod_map a l, Semiring.pow_succ]
    grind
theorem fermat [DecidableEq F] (one : (1 : F) ≠ 0) (nzd : ∀ a b : F, a * b = 0 → a = 0 ∨ b = 0) {l : List F} (hl : l.Nodup) (hm : ∀ x, x ∈ l ↔ x ≠ 0) {a : F} (ha : a ≠ 0) : a ^ l.length = 1 := by
  have inj : ∀ x y, a * x = a * y → x = y := fun x y h => by
    rcases nzd a (x - y) (by grind) with z | z
    · exact absurd z ha
    · grind
  have nd : (l.map fun x => a * x).Nodup := by
    rw [List.nodup_iff_pairwise_ne, List.pairwise_map]
    exact (List.nodup_iff_pairwise_ne.mp hl).imp fun h e => h (inj _ _ e)
  have p : (l.map fun x => a * x).Perm l := perm_of_sub nd (fun y hy => by
    obtain ⟨x, hx, rfl⟩ := List.mem_map.mp hy
    refine (hm _).mpr fun z => ?_
    rcases nzd _ _ z with z | z
    · exact ha z
    · exact (hm x).mp hx z) (by rw [List.length_map]; exact Nat.le_refl _)
  have e := (prod_map a l).symm.trans (prod_perm p)
  have p0 : ∀ r : List F, (∀ x ∈ r, x ≠ 0) → prod r ≠ 0 := by
    intro r
    induction r with
    | nil => intro _; exact one
    | cons x r ih =>
      intro h z
      rcases nzd x (prod r) z with z | z
      · exact h x (.head _) z
      · exact ih (fun y hy => h y (.tail _ hy)) z
  rcases nzd (a ^ l.length - 1) (prod l) (by grind) with z | z
  · grind
  · exact absurd z (p0 l fun x hx => (hm x).mp hx)
end Ser
theorem fin_fermat {m : Nat} (h : Pr (m + 2)) {a : (Bk.f m).T} (ha : a ≠ 0) : a * a ^ m = 1 := by
  have fl : (Bk.f m).fld → True := fun _ => trivial
  have nzd : ∀ a b : (Bk.f m).T, a * b = 0 → a = 0 ∨ b = 0 := by
    intro a b e
    have e2 : (a.val * b.val) % (m + 2) = 0 := congrArg Fin.val e
    have d : m + 2 ∣ a.val * b.val := Nat.dvd_of_mod_eq_zero e2
    rcases h.dvd (Nat.gcd_dvd_left (m + 2) a.val) with g | g
    · exact .inr (Fin.ext (Nat.eq_zero_of_dvd_of_lt (Nat.Coprime.dvd_of_dvd_mul_left (show Nat.Coprime (m + 2) a.val from g) d) b.isLt))
    · have := Nat.gcd_dvd_right (m + 2) a.val
      rw [g] at this
      exact .inl (Fin.ext (Nat.eq_zero_of_dvd_of_lt this a.isLt))
  have := Ser.fermat (F := (Bk.f m).T) (Bk.f m).one_ne nzd (l := (List.finRange (m + 1)).map Fin.succ) (by
    rw [List.nodup_iff_pairwise_ne, List.pairwise_map]
    exact (List.nodup_iff_pairwise_ne.mp (List.nodup_finRange (m + 1))).imp fun h e => h (Fin.succ_inj.mp e)) (fun x => by
    rw [List.mem_map]
    constructor
    · rintro ⟨y, _, rfl⟩
      exact Fin.succ_ne_zero y
    · intro hx
      exact ⟨Fin.pred x hx, List.mem_finRange _, Fin.succ_pred x hx⟩) ha
  rw [List.length_map, List.length_finRange, Lean.Grind.Semiring.pow_succ] at this
  rw [← this]
  grind
theorem Bk.fld.ex_inv {k : Bk} (h : k.fld) {a : k.T} (ha : a ≠ 0) : ∃ u, a * u = 1 := by
  rcases h with rfl | ⟨m, rfl, hm, h5⟩
  · exact ⟨_, rat_inv ha⟩
  · exact ⟨_, fin_fermat hm ha⟩
/-! ### the law's inverse -/
def a_linv : ASp := fun ds S Q _ => ∃ (k : Bk) (a : k.T), ds = [k.dom, k.enc a] ∧ k.fld ∧ k.InvOk a ∧ a ≠ 0 ∧ ∀ z, a * z = 1 → Q (k.enc z) S
theorem len_linverse : ∀ ds S Q XX, a_linv ds S Q XX → ds.length = 2 := by rintro ds S Q XX ⟨_, _, rfl, _⟩; rfl
theorem p_linverse : ∀ ds S Q XX, Closed S → a_linv ds S Q XX → w__law_inverse a_fr a_power (endOf Q S.length) (startD ["f", "x"] ds) S (GivesX XX S.length) := by
  rintro ds S Q XX hC ⟨k, a, rfl, fl, iv, h, q⟩
  unfold w__law_inverse
  rcases fl with rfl | ⟨m, rfl, hm, h5⟩
  · have h : (a : Rat) ≠ 0 := h
    simp only [Bk.dom, Bk.enc, qe]
    walk_at "ax"
    refine ⟨fun z => h (Rat.num_eq_zero.mp z), gives_now (q _ (rat_inv h))⟩
  · simp only [Bk.dom, Bk.enc]
    walk_at "ax"
    refine ⟨.b (.f m), a, m, ?_, iv, .inl ⟨by omega, fun x y => ⟨iv, iv⟩⟩, fun z hz => gives_now (q z ?_)⟩
    · rw [show ((m + 2 : Nat) : Int) - 2 = ((m : Nat) : Int) by omega]; rfl
    · have hz : z = a ^ m := hz
      rw [hz]
      exact fin_fermat hm h
/-! ### changes of domain -/
theorem enc_int {n : Nat} (i : Int) : D.int (Int.fmod i ((n + 2 : Nat) : Int)) = (Bk.f n).enc (Lean.Grind.Ring.intCast.intCast i) := by rw [int_fin]; rfl
/-- num / den modulo n + 2 -/
noncomputable def quo (n : Nat) (x : Rat) : Fin (n + 2) := Classical.epsilon fun y => y * (Lean.Grind.Ring.intCast.intCast (x.den : Int) : (Bk.f n).T) = (Lean.Grind.Ring.intCast.intCast x.num : (Bk.f n).T)
theorem den_zero {n : Nat} {d : Int} : (Lean.Grind.Ring.intCast.intCast d : Fin (n + 2)) = 0 ↔ Int.fmod d ((n + 2 : Nat) : Int) = 0 := by
  rw [int_fin]
  constructor
  · intro h
    rw [h]
    rfl
  · intro h
    exact Fin.ext (by simpa using h)
theorem quo_eq {n : Nat} (fl : (Bk.f n).fld) {x : Rat} (h : (Lean.Grind.Ring.intCast.intCast (x.den : Int) : (Bk.f n).T) ≠ 0) {y : (Bk.f n).T} (e : y * (Lean.Grind.Ring.intCast.intCast (x.den : Int) : (Bk.f n).T) = (Lean.Grind.Ring.intCast.intCast x.num : (Bk.f n).T)) : y = quo n x := by
  have s : quo n x * (Lean.Grind.Ring.intCast.intCast (x.den : Int) : (Bk.f n).T) = (Lean.Grind.Ring.intCast.intCast x.num : (Bk.f n).T) :=
    Classical.epsilon_spec (p := fun y : Fin (n + 2) => y * (Lean.Grind.Ring.intCast.intCast (x.den : Int) : (Bk.f n).T) = (Lean.Grind.Ring.intCast.intCast x.num : (Bk.f n).T)) ⟨y, e⟩
  obtain ⟨u, hu⟩ := fl.ex_inv h
  generalize (Lean.Grind.Ring.intCast.intCast (x.den : Int) : (Bk.f n).T) = b at *
  generalize (Lean.Grind.Ring.intCast.intCast x.num : (Bk.f n).T) = a at *
  generalize quo n x = z at *
  have z : (Bk.f n).T := z
  grind
def may : Dk → Dk → Prop
  | .b .z, .b .q => True
  | .b .z, .b (.f _) => True
  | .b .q, .b .z => True
  | .b .q, .b (.f _) => True
  | .b k, .p j => k = j
  | _, _ => False
open Classical in
noncomputable def cv : (k j : Dk) → k.R → Option D
  | .b .z, .b .q, x => some (Bk.q.enc (Lean.Grind.Ring.intCast.intCast (x : Int)))
  | .b .z, .b (.f n), x => some ((Bk.f n).enc (Lean.Grind.Ring.intCast.intCast (x : Int)))
  | .b .q, .b .z, x => if Rat.den x = 1 then some (.int (Rat.num x)) else none
  | .b .q, .b (.f n), x => if Int.fmod (Rat.den x : Int) ((n + 2 : Nat) : Int) = 0 then none else some ((Bk.f n).enc (quo n x))
  | .b k, .p j, x => if k = j then some (pe k (Ser.trim [x])) else none
  | _, _, _ => none
theorem Bk.dom_inj : {k j : Bk} → k.dom = j.dom → k = j
  | .z, .z, _ => rfl
  | .q, .q, _ => rfl
  | .f n, .f m, h => by
    injection h with h
    injection h with _ h
    injection h with h _
    injection h with h
    rw [show n = m by omega]
  | .z, .q, h => by injection h with h; injection h with h _; injection h with h; exact absurd h (by decide)
  | .q, .z, h => by injection h with h; injection h with h _; injection h with h; exact absurd h (by decide)
  | .z, .f _, h => by injection h with h; injection h with _ h; cases h
  | .f _, .z, h => by injection h with h; injection h with _ h; cases h
  | .q, .f _, h => by injection h with h; injection h with _ h; cases h
  | .f _, .q, h => by injection h with h; injection h with _ h; cases h
theorem p_ne {k j : Bk} : k.dom ≠ .tup [.str "P", j.dom] := fun h => by
  cases k with
  | f n => injection h with h; injection h with _ h; injection h with h _; cases j <;> cases h
  | _ => injection h with h; injection h with _ h; cases h
theorem Dk.dom_inj : {k j : Dk} → k.dom = j.dom → k = j
  | .b _, .b _, h => congrArg Dk.b (Bk.dom_inj h)
  | .p _, .p _, h => by
    injection h with h
    injection h with _ h
    injection h with h _
    exact congrArg Dk.p (Bk.dom_inj h)
  | .b _, .p _, h => absurd h p_ne
  | .p _, .b _, h => absurd h.symm p_ne
theorem Bk.dom_cl (k : Bk) : k.dom.cl 1 = true := by
  cases k with
  | f n =>
    refine tup_cl fun d hd => ?_
    rcases List.mem_cons.mp hd with rfl | hd
    · show PyData.strOk _ = true
      decide +kernel
    · rw [List.mem_singleton.mp hd]
      rfl
  | z => decide +kernel
  | q => decide +kernel
theorem P_cl {d : D} {n : Nat} (h : d.cl (n + 1) = true) : (D.tup [.str "P", d]).cl (n + 2) = true := by
  refine tup_cl fun x hx => ?_
  rcases List.mem_cons.mp hx with rfl | hx
  · show PyData.strOk _ = true
    decide +kernel
  · rw [List.mem_singleton.mp hx]
    exact h
theorem Dk.dom_cl : (k : Dk) → k.dom.cl 2 = true
  | .b k => D.cl_up _ _ k.dom_cl
  | .p k => P_cl k.dom_cl
theorem Dk.dom_iff {k j : Dk} : k.dom = j.dom ↔ k = j := ⟨Dk.dom_inj, fun h => h ▸ rfl⟩
/-- e == ("P", d) -/
theorem Dk.pdom_iff {k j : Dk} : j.dom = .tup [.str "P", k.dom] ↔ ∃ b, k = .b b ∧ j = .p b := by
  constructor
  · intro h
    cases j with
    | b j =>
      cases k with
      | b k => exact absurd h p_ne
      | p k =>
        exfalso
        cases j <;> injection h with h <;> injection h with _ h <;> first | cases h | (injection h with h _; cases h)
    | p j =>
      have h : (D.tup [.str "P", j.dom]) = .tup [.str "P", k.dom] := h
      injection h with h
      injection h with _ h
      injection h with h _
      exact ⟨j, Dk.dom_inj (k := k) (j := .b j) h.symm, rfl⟩
  · rintro ⟨b, rfl, rfl⟩
    rfl
theorem dom_z : (Dk.b .z).dom = .tup [.str "Z"] := rfl
theorem dom_q : (Dk.b .q).dom = .tup [.str "Q"] := rfl
theorem dom_f {n : Nat} : (Dk.b (.f n)).dom = .tup [.str "F", .int (n + 2 : Nat)] := rfl
theorem dom_p {k : Bk} : (Dk.p k).dom = .tup [.str "P", k.dom] := rfl
theorem if_yes {c : Prop} [Decidable c] {p q : Prop} (h : c) (x : p) : if c then p else q := by rw [if_pos h]; exact x
theorem if_no {c : Prop} [Decidable c] {p q : Prop} (h : ¬c) (x : q) : if c then p else q := by rw [if_neg h]; exact x
theorem neq_ok {x y : D} (n m : Nat) (hx : x.cl n = true) (hy : y.cl m = true) (h : x ≠ y) (hn : n ≤ 64 := by decide) (hm : m ≤ 64 := by decide) : EqOk x y ∧ D.eqb x y = false :=
  ⟨eqOk_dt (D.cl_dt _ _ hx) (D.cl_dt _ _ hy) hn hm, eqv_dec hx hy (p := False) ⟨h, False.elim⟩⟩
def a_maych23 : ASp := fun ds S Q _ => ∃ k j : Dk, ds = [k.dom, j.dom] ∧ k.dr ∧ j.dr ∧ k ≠ j ∧ ∀ b : Bool, (b = true ↔ may k j) → Q (.bl b) S
theorem len_maych23 : ∀ ds S Q XX, a_maych23 ds S Q XX → ds.length = 2 := by rintro ds S Q XX ⟨_, _, rfl, _⟩; rfl
theorem p_maych23 : ∀ ds S Q XX, Closed S → a_maych23 ds S Q XX → w_may_change a_isfield (endOf Q S.length) (startD ["d", "e"] ds) S (GivesX XX S.length) := by
  rintro ds S Q XX hC ⟨k, j, rfl, dk, dj, hne, q⟩
  unfold w_may_change
  have pe : ∀ {Q : VKD} {X : XKD}, (∀ b : Bool, (b = true ↔ ∃ b, k = .b b ∧ j = .p b) → Q (.bl b) S) → fEq j.dom (.tup [.str "P", k.dom]) S Q X := fun {Q X} h => by
    haveI := Classical.propDecidable (∃ b, k = .b b ∧ j = .p b)
    exact fEq_cl (n := 2) (m := 3) j.dom_cl (P_cl k.dom_cl) Dk.pdom_iff (h _ (by simp))
  rcases k with (_ | _ | n) | k
  · simp only [dom_z]
    walk_at "ax"
    refine ⟨j.dom, rfl, j.dom_pure, fun b hb => ?_⟩
    walk_at "ax"
    refine gives_now (q b (hb.trans ?_))
    rcases j with (_ | _ | m) | j
    · exact absurd rfl hne
    · exact ⟨fun _ => trivial, fun _ => rfl⟩
    · exact ⟨fun _ => trivial, fun _ => (dj.resolve_left (by intro z; cases z)).fieldD⟩
    · refine ⟨fun h => absurd h (dj.fieldD rfl), fun h => ?_⟩
      have h : Bk.z = j := h
      subst h
      exact absurd dj (by rintro (h | ⟨_, h, _⟩) <;> cases h)
  · rcases j with (_ | _ | m) | j
    · simp only [dom_z, dom_q, dom_f, dom_p]
      walk_at "ax"
      refine ⟨by decide +kernel, if_yes (by decide +kernel) ?_⟩
      walk_at "ax"
      exact gives_now (q true ⟨fun _ => trivial, fun _ => rfl⟩)
    · exact absurd rfl hne
    · simp only [dom_z, dom_q, dom_f, dom_p]
      walk_at "ax"
      refine ⟨by decide +kernel, if_yes (by decide +kernel) ?_⟩
      walk_at "ax"
      exact gives_now (q true ⟨fun _ => trivial, fun _ => rfl⟩)
    · simp only [dom_z, dom_q, dom_f, dom_p]
      walk_at "ax"
      refine ⟨by decide +kernel, if_no (by decide +kernel) ?_⟩
      walk_at "ax"
      refine pe (X := X0) fun b hb => ?_
      walk_at "ax"
      refine gives_now (q b (hb.trans ?_))
      exact ⟨fun ⟨b, h1, h2⟩ => (by cases h1; cases h2; rfl), fun h => (by cases (show Bk.q = j from h); exact ⟨_, rfl, rfl⟩)⟩
  · simp only [dom_f]
    walk_at "ax"
    refine pe (X := X0) fun b hb => ?_
    walk_at "ax"
    refine gives_now (q b (hb.trans ?_))
    rcases j with (_ | _ | m) | j
    · exact ⟨fun ⟨b, h1, h2⟩ => (by cases h2), fun h => False.elim h⟩
    · exact ⟨fun ⟨b, h1, h2⟩ => (by cases h2), fun h => False.elim h⟩
    · exact ⟨fun ⟨b, h1, h2⟩ => (by cases h2), fun h => False.elim h⟩
    · exact ⟨fun ⟨b, h1, h2⟩ => (by cases h1; cases h2; rfl), fun h => (by cases (show Bk.f n = j from h); exact ⟨_, rfl, rfl⟩)⟩
  · simp only [dom_p]
    walk_at "ax"
    refine pe (X := X0) fun b hb => ?_
    walk_at "ax"
    exact gives_now (q b (hb.trans ⟨fun ⟨b, h1, h2⟩ => (by cases h1), fun h => False.elim h⟩))
/-- x : an element, not large -/
def a_changed23 (e : XN → Value) : ASp := fun ds S Q XX => ∃ (k j : Dk) (x : k.R), ds = [k.dom, j.dom, k.en x] ∧ k.dr ∧ j.dr ∧ k.Has 6 2 x ∧ (k = j → Q (k.en x) S) ∧ (k ≠ j → may k j ∧ (∀ y, cv k j x = some y → Q y S) ∧ (cv k j x = none → XX (e .dom) none S))
theorem len_changed23 {e : XN → Value} : ∀ ds S Q XX, a_changed23 e ds S Q XX → ds.length = 3 := by rintro ds S Q XX ⟨_, _, _, rfl, _⟩; rfl
theorem p_changed23 {e : XN → Value} : ∀ ds S Q XX, Closed S → a_changed23 e ds S Q XX → w_changed e a_isfield a_int (a_quotient e) a_trim (endOf Q S.length) (startD ["d", "e", "x"] ds) S (GivesX XX S.length) := by
  rintro ds S Q XX hC ⟨k, j, x, rfl, dk, dj, hx, q0, q1⟩
  unfold w_changed
  haveI := Classical.propDecidable (k = j)
  walk_at "ax"
  refine fEq_cl (n := 2) (m := 2) k.dom_cl j.dom_cl Dk.dom_iff ?_
  by_cases h : k = j
  · rw [decide_eq_true h]
    walk_at "ax"
    exact gives_now (q0 h)
  rw [decide_eq_false h]
  obtain ⟨hm, q1, q2⟩ := q1 h
  rcases k with (_ | _ | n) | k <;> rcases j with (_ | _ | m) | j <;> try exact False.elim hm
  · simp only [dom_z, dom_q, Dk.en_b, Bk.enc]
    walk_at "ax"
    refine ⟨_, rfl, (Dk.b .q).dom_pure, fun b hb => ?_⟩
    obtain rfl := hb.mpr (Bk.fld.fieldD (k := .q) (.inl rfl))
    walk_at "ax"
    refine num_at (k := .b .q) rfl ?_
    walk_at "ax"
    exact gives_now (q1 _ rfl)
  · simp only [dom_z, dom_f, Dk.en_b, Bk.enc]
    walk_at "ax"
    refine ⟨_, rfl, (Dk.b (.f m)).dom_pure, fun b hb => ?_⟩
    obtain rfl := hb.mpr (Bk.fld.fieldD (k := .f m) (dj.resolve_left (by intro z; cases z)))
    walk_at "ax"
    refine num_at (k := .b (.f m)) rfl ?_
    walk_at "ax"
    exact gives_now (q1 _ rfl)
  · cases (show Bk.z = j from hm)
    exact absurd dj (by rintro (h | ⟨_, h, _⟩) <;> cases h)
  · simp only [dom_z, dom_q, Dk.en_b, Bk.enc, qe]
    walk_at "ax"
    have hcv : cv (.b .q) (.b .z) x = if Rat.den x = 1 then some (.int (Rat.num x)) else none := by unfold cv; congr
    split
    · rename_i h1
      walk_at "ax"
      exact gives_now (q1 _ (by rw [hcv, if_pos (by omega)]))
    · rename_i h1
      walk_at "ax"
      obtain ⟨k1, k2⟩ := neq_ok 2 3 (Dk.b .z).dom_cl (P_cl (Dk.b .q).dom_cl) (p_ne (k := .z) (j := .q))
      refine ⟨k1, ?_⟩
      rw [show D.eqb (D.tup [.str "Z"]) (D.tup [.str "P", .tup [.str "Q"]]) = false from k2]
      walk_at "ax"
      exact .inl (q2 (by rw [hcv, if_neg (by omega)]))
  · have fl : (Bk.f m).fld := dj.resolve_left (by intro z; cases z)
    have ok : m < 2 ^ 20 := fl.ok
    have hcv : cv (.b .q) (.b (.f m)) x = if Int.fmod (Rat.den x : Int) ((m + 2 : Nat) : Int) = 0 then none else some ((Bk.f m).enc (quo m x)) := by unfold cv; congr
    simp only [dom_f, dom_q, Dk.en_b, Bk.enc, qe]
    walk_at "ax"
    refine ⟨by omega, ?_⟩
    split
    · rename_i h1
      walk_at "ax"
      obtain ⟨k1, k2⟩ := neq_ok 2 3 (Dk.b (.f m)).dom_cl (P_cl (Dk.b .q).dom_cl) (p_ne (k := .f m) (j := .q))
      refine ⟨k1, ?_⟩
      rw [show D.eqb (D.tup [.str "F", .int (m + 2 : Nat)]) (D.tup [.str "P", .tup [.str "Q"]]) = false from k2]
      walk_at "ax"
      exact .inl (q2 (by rw [hcv, if_pos h1]))
    · rename_i h1
      walk_at "ax"
      refine ⟨by omega, by omega, ?_⟩
      rw [enc_int, enc_int]
      have nz : (Lean.Grind.Ring.intCast.intCast (Rat.den x : Int) : (Bk.f m).T) ≠ 0 := fun z => h1 (den_zero.mp z)
      refine .inr ⟨.f m, _, _, rfl, fl, ok, ok, fun z => absurd z nz, fun _ z hz => ?_⟩
      rw [quo_eq fl nz hz]
      walk_at "ax"
      exact gives_now (q1 _ (by rw [hcv, if_neg h1]))
  · cases (show Bk.q = j from hm)
    simp only [dom_p, dom_q]
    walk_at "ax"
    refine ⟨same_ok 2 (P_cl (Bk.dom_cl .q)), ?_⟩
    rw [show D.tup [.str "Q"] = Bk.q.dom from rfl, eqb_refl]
    walk_at "ax"
    refine ⟨.q, [x], _, rfl, rfl, ?_⟩
    walk_at "ax"
    exact gives_now (q1 _ (by unfold cv; simp))
  · cases (show Bk.f n = j from hm)
    simp only [dom_p, dom_f]
    walk_at "ax"
    refine ⟨same_ok 2 (P_cl (Bk.dom_cl (.f n))), ?_⟩
    rw [show D.tup [.str "F", .int (n + 2 : Nat)] = (Bk.f n).dom from rfl, eqb_refl]
    walk_at "ax"
    refine ⟨.f n, [x], _, rfl, rfl, ?_⟩
    walk_at "ax"
    exact gives_now (q1 _ (by unfold cv; simp))
/-! the whole matrix -/
open Classical in
noncomputable def cvx (k j : Dk) (x : k.R) : Option D := if k = j then some (k.en x) else cv k j x
theorem cvx_pos {k j : Dk} {x : k.R} (h : k = j) : cvx k j x = some (k.en x) := if_pos h
theorem cvx_neg {k j : Dk} {x : k.R} (h : k ≠ j) : cvx k j x = cv k j x := if_neg h
def a_change23 (e : XN → Value) : ASp := fun ds S Q XX => ∃ (k j : Dk) (m n : Nat) (A : Mt k), ds = [k.dom, j.dom, k.em m n A] ∧ k.dr ∧ j.dr ∧ m < 1000000 ∧ n < 1000000 ∧ k.MHas 6 2 m n A ∧
  (k = j → Q (k.em m n A) S) ∧ (k ≠ j → ¬may k j → XX (e .dom) none S) ∧
  (k ≠ j → may k j → (∀ B : Nat → Nat → D, (∀ i, i < m → ∀ l, l < n → cv k j (A i l) = some (B i l)) → Q (.tup [.int (m : Nat), .int (n : Nat), .tup ((List.range m).map fun i => .tup ((List.range n).map fun l => B i l))]) S)) ∧
  (k ≠ j → (∃ i, i < m ∧ ∃ l, l < n ∧ cv k j (A i l) = none) → XX (e .dom) none S)
theorem len_change23 {e : XN → Value} : ∀ ds S Q XX, a_change23 e ds S Q XX → ds.length = 3 := by rintro ds S Q XX ⟨_, _, _, _, _, rfl, _⟩; rfl
theorem p_change23 {e : XN → Value} : ∀ ds S Q XX, Closed S → a_change23 e ds S Q XX → w_change e a_isdomain a_maych23 (a_changed23 e) (endOf Q S.length) (startD ["d", "e", "a", "row", "x"] ds) S (GivesX XX S.length) := by
  rintro ds S Q XX hC ⟨k, j, m, n, A, rfl, dk, dj, hm, hn, hA, q0, q1, q2, q3⟩
  unfold w_change
  haveI := Classical.propDecidable (k = j)
  walk_at "ax"
  refine ⟨k.dom, rfl, k.dom_dt, fun b hb => ?_⟩
  obtain rfl := hb.mpr dk.domD
  walk_at "ax"
  refine ⟨j.dom, rfl, j.dom_dt, fun b hb => ?_⟩
  obtain rfl := hb.mpr dj.domD
  walk_at "ax"
  refine fNe_cl (n := 2) (m := 2) k.dom_cl j.dom_cl Dk.dom_iff ?_
  have key : ∀ i l, (k = j ∨ may k j) → ∀ {P : D → Prop} {bad : Prop}, (∀ y, cvx k j (A i l) = some y → P y) → (cvx k j (A i l) = none → bad) → (k = j → P (k.en (A i l))) ∧ (k ≠ j → may k j ∧ (∀ y, cv k j (A i l) = some y → P y) ∧ (cv k j (A i l) = none → bad)) := by
    intro i l hh P bad h1 h2
    refine ⟨fun h => h1 _ (cvx_pos h), fun h => ⟨hh.resolve_left h, fun y hy => h1 y ((cvx_neg h).trans hy), fun hy => h2 ((cvx_neg h).trans hy)⟩⟩
  by_cases h : k = j
  case' pos =>
    rw [decide_eq_true h]
    walk_at "ax"
    have hh : k = j ∨ may k j := .inl h
  case' neg =>
    rw [decide_eq_false h]
    walk_at "ax"
    refine ⟨k, j, rfl, dk, dj, h, fun b hb => ?_⟩
    by_cases h2 : may k j
    case' neg =>
      obtain rfl : b = false := by cases b <;> first | rfl | exact absurd (hb.mp rfl) h2
      walk_at "ax"
      exact .inl (q1 h h2)
    obtain rfl : b = true := hb.mpr h2
    walk_at "ax"
    have hh : k = j ∨ may k j := .inr h2
  all_goals
    rw [em_ix0]
    walk_at "ax"
    rw [em_ix1]
    walk_at "ax"
    rw [em_ix2]
    walk_at "ax"
    rw [Dk.rs_len]
    refine ⟨by omega, ?_⟩
    refine lcx_each (List.range m) (fun i => k.ev n (A i)) (fun i => .tup ((List.range n).map fun l => (cvx k j (A i l)).getD .non)) (fun i => ∀ l, l < n → cvx k j (A i l) ≠ none) (GivesX XX S.length (e .dom) none S) ?_ ?_ ?_
    · intro i acc R hi g b
      have hi : i < m := List.mem_range.mp hi
      simp only [Dk.ev]
      walk_at "ax"
      rw [Dk.vs_len]
      refine ⟨by omega, ?_⟩
      refine lcx_each (List.range n) (fun l => k.en (A i l)) (fun l => (cvx k j (A i l)).getD .non) (fun l => cvx k j (A i l) ≠ none) (GivesX XX S.length (e .dom) none S) ?_ ?_ ?_
      · intro l acc2 R2 hl g2 b2
        have hl : l < n := List.mem_range.mp hl
        walk_at "ax"
        refine ⟨k, j, A i l, rfl, dk, dj, hA i hi l hl, key i l hh (P := fun y => R2 (acc2 ++ [y]) S) (fun y hy => ?_) fun hy => b2 fun z => z hy⟩
        have z := g2 (by rw [hy]; exact Option.some_ne_none y)
        rw [hy] at z
        exact z
      · rintro ⟨l, hl, hl2⟩
        exact b fun z => hl2 (z l (List.mem_range.mp hl))
      · intro z
        walk_at "ax"
        exact g fun l hl => z l (List.mem_range.mpr hl)
    · rintro ⟨i, hi, hi2⟩
      obtain ⟨l, hl, hl2⟩ : ∃ l, l < n ∧ cvx k j (A i l) = none := by
        refine Classical.byContradiction fun z => hi2 fun l hl hl2 => z ⟨l, hl, hl2⟩
      have hne : k ≠ j := fun z => by rw [cvx_pos z] at hl2; cases hl2
      exact .inl (q3 hne ⟨i, List.mem_range.mp hi, l, hl, (cvx_neg hne).symm.trans hl2⟩)
    · intro z
      walk_at "ax"
      refine gives_now ?_
      have full : ∀ i, i < m → ∀ l, l < n → cvx k j (A i l) = some ((cvx k j (A i l)).getD .non) := fun i hi l hl => by
        cases q : cvx k j (A i l) with
        | none => exact absurd q (z i (List.mem_range.mpr hi) l hl)
        | some y => rfl
      first
        | exact q2 h (hh.resolve_left h) (fun i l => (cvx k j (A i l)).getD .non) fun i hi l hl => (cvx_neg h).symm.trans (full i hi l hl)
        | (have e : (fun i => D.tup ((List.range n).map fun l => (cvx k j (A i l)).getD .non)) = fun i => k.ev n (A i) := funext fun i => congrArg D.tup (List.map_congr_left fun l _ => by rw [cvx_pos h]; rfl)
           rw [e]
           exact q0 h)
def a_told23 : ASp := fun ds S Q _ => ∃ (k j : Dk) (m n : Nat) (A : Mt k), ds = [k.dom, j.dom, k.em m n A] ∧ k.dr ∧ j.dr ∧ m < 1000000 ∧ n < 1000000 ∧ k.MHas 6 2 m n A ∧
  (k = j → Q (k.em m n A) S) ∧ (k ≠ j → ¬may k j → Q .non S) ∧
  (k ≠ j → may k j → (∀ B : Nat → Nat → D, (∀ i, i < m → ∀ l, l < n → cv k j (A i l) = some (B i l)) → Q (.tup [.int (m : Nat), .int (n : Nat), .tup ((List.range m).map fun i => .tup ((List.range n).map fun l => B i l))]) S)) ∧
  (k ≠ j → (∃ i, i < m ∧ ∃ l, l < n ∧ cv k j (A i l) = none) → Q .non S)
theorem len_told23 : ∀ ds S Q XX, a_told23 ds S Q XX → ds.length = 3 := by rintro ds S Q XX ⟨_, _, _, _, _, rfl, _⟩; rfl
theorem p_told23 {e : XN → Value} : ∀ ds S Q XX, Closed S → a_told23 ds S Q XX → w__law_told e (a_change23 e) (endOf Q S.length) (startD ["d", "e", "a"] ds) S (GivesX XX S.length) := by
  rintro ds S Q XX hC ⟨k, j, m, n, A, rfl, dk, dj, hm, hn, hA, q0, q1, q2, q3⟩
  unfold w__law_told wTry
  walk_at "ax"
  have no : Q .non S → tryX xns e 3 [(.dom, none, fun a n => wRet (wC .non))] (endOf Q S.length) (GivesX XX S.length) (e .dom) none S := by
    intro q
    refine ⟨rfl, .dom, by decide, rfl, ?_⟩
    rw [tryD, if_pos (by decide)]
    intro a
    walk_at "ax"
    exact gives_now q
  refine ⟨k, j, m, n, A, rfl, dk, dj, hm, hn, hA, fun h => ?_, fun h h2 => no (q1 h h2), fun h h2 B hB => ?_, fun h h2 => no (q3 h h2)⟩
  · walk_at "ax"
    exact gives_now (q0 h)
  · walk_at "ax"
    exact gives_now (q2 h h2 B hB)
def a_lchanged23 : ASp := fun ds S Q _ => ∃ (k j : Dk) (x : k.R), ds = [k.dom, j.dom, k.en x] ∧ k.dr ∧ j.dr ∧ k.Has 6 2 x ∧ k ≠ j ∧ (∀ y, cv k j x = some y → Q y S) ∧ (cv k j x = none → Q .non S)
theorem len_lchanged23 : ∀ ds S Q XX, a_lchanged23 ds S Q XX → ds.length = 3 := by rintro ds S Q XX ⟨_, _, _, rfl, _⟩; rfl
theorem cv_qz {x : Rat} : cv (.b .q) (.b .z) x = if Rat.den x = 1 then some (.int (Rat.num x)) else none := by unfold cv; congr
theorem cv_qf {m : Nat} {x : Rat} : cv (.b .q) (.b (.f m)) x = if Int.fmod (Rat.den x : Int) ((m + 2 : Nat) : Int) = 0 then none else some ((Bk.f m).enc (quo m x)) := by unfold cv; congr
theorem cv_p1 {k : Bk} {x : (Dk.b k).R} : cv (.b k) (.p k) x = some (pe k (Ser.trim [x])) := by cases k <;> (unfold cv; exact if_pos rfl)
theorem cv_p0 {k j : Bk} {x : (Dk.b k).R} (h : k ≠ j) : cv (.b k) (.p j) x = none := by cases k <;> (unfold cv; exact if_neg h)
theorem pj_at {k j : Bk} {S : Sto} {Q : VKD} (h1 : k = j → Q (.bl true) S) (h2 : k ≠ j → Q (.bl false) S) : fEq j.dom k.dom S Q X0 := by
  haveI := Classical.propDecidable (k = j)
  refine fEq_cl (n := 1) (m := 1) j.dom_cl k.dom_cl (p := k = j) ⟨fun h => (Bk.dom_inj h).symm, fun h => h ▸ rfl⟩ ?_
  by_cases h : k = j
  · rw [decide_eq_true h]
    exact h1 h
  · rw [decide_eq_false h]
    exact h2 h
theorem turn3 {R : Type} [Lean.Grind.CommRing R] {a b z : R} (h : b * z = 1) : a * z * b = a := by grind
theorem p_lchanged23 : ∀ ds S Q XX, Closed S → a_lchanged23 ds S Q XX → w__law_changed a_int a_mul a_linv a_trim (endOf Q S.length) (startD ["d", "e", "x"] ds) S (GivesX XX S.length) := by
  rintro ds S Q XX hC ⟨k, j, x, rfl, dk, dj, hx, hne, q1, q2⟩
  unfold w__law_changed
  rcases k with (_ | _ | n) | k <;> rcases j with (_ | _ | m) | j
  · exact absurd rfl hne
  · simp only [dom_z, dom_q, Dk.en_b, Bk.enc]
    walk_at "ax"
    refine ⟨by decide +kernel, if_yes (by decide +kernel) ?_⟩
    walk_at "ax"
    refine num_at (k := .b .q) rfl ?_
    walk_at "ax"
    exact gives_now (q1 _ rfl)
  · simp only [dom_z, dom_f, Dk.en_b, Bk.enc]
    walk_at "ax"
    refine ⟨by decide +kernel, if_yes (by decide +kernel) ?_⟩
    walk_at "ax"
    refine num_at (k := .b (.f m)) rfl ?_
    walk_at "ax"
    exact gives_now (q1 _ rfl)
  · simp only [dom_z, dom_p]
    walk_at "ax"
    refine ⟨by decide +kernel, if_no (by decide +kernel) ?_⟩
    walk_at "ax"
    refine pj_at (k := .z) (j := j) (fun h => ?_) fun h => ?_
    · cases h
      walk_at "ax"
      refine ⟨.z, [x], _, rfl, rfl, ?_⟩
      walk_at "ax"
      exact gives_now (q1 _ cv_p1)
    · walk_at "ax"
      exact gives_now (q2 (cv_p0 h))
  · simp only [dom_z, dom_q, Dk.en_b, Bk.enc, qe]
    walk_at "ax"
    split
    · rename_i h1
      walk_at "ax"
      exact gives_now (q1 _ (by rw [cv_qz, if_pos (by omega)]))
    · rename_i h1
      walk_at "ax"
      exact gives_now (q2 (by rw [cv_qz, if_neg (by omega)]))
  · exact absurd rfl hne
  · have fl : (Bk.f m).fld := dj.resolve_left (by intro z; cases z)
    have ok : m < 2 ^ 20 := fl.ok
    simp only [dom_f, dom_q, Dk.en_b, Bk.enc, qe]
    walk_at "ax"
    refine ⟨by omega, ?_⟩
    split
    · rename_i h1
      walk_at "ax"
      exact gives_now (q2 (by rw [cv_qf, if_pos h1]))
    · rename_i h1
      have nz : (Lean.Grind.Ring.intCast.intCast (Rat.den x : Int) : (Bk.f m).T) ≠ 0 := fun z => h1 (den_zero.mp z)
      walk_at "ax"
      refine num_at (k := .b (.f m)) rfl ?_
      walk_at "ax"
      refine num_at (k := .b (.f m)) rfl ?_
      walk_at "ax"
      refine ⟨.f m, _, rfl, fl, ok, nz, fun z hz => ?_⟩
      walk_at "ax"
      refine ⟨.b (.f m), _, z, rfl, ⟨ok, ok⟩, fun w hw => ?_⟩
      have hw : w = (Lean.Grind.Ring.intCast.intCast (Rat.num x) : (Bk.f m).T) * z := hw
      have hz : (Lean.Grind.Ring.intCast.intCast (Rat.den x : Int) : (Bk.f m).T) * z = 1 := hz
      have e : w * (Lean.Grind.Ring.intCast.intCast (Rat.den x : Int) : (Bk.f m).T) = (Lean.Grind.Ring.intCast.intCast (Rat.num x) : (Bk.f m).T) := by
        rw [hw]
        exact turn3 hz
      rw [show w = quo m x from quo_eq fl nz e]
      walk_at "ax"
      exact gives_now (q1 _ ((cv_qf (x := x)).trans (if_neg h1)))
  · simp only [dom_q, dom_p]
    walk_at "ax"
    refine pj_at (k := .q) (j := j) (fun h => ?_) fun h => ?_
    · cases h
      walk_at "ax"
      refine ⟨.q, [x], _, rfl, rfl, ?_⟩
      walk_at "ax"
      exact gives_now (q1 _ cv_p1)
    · walk_at "ax"
      exact gives_now (q2 (cv_p0 h))
  · simp only [dom_f, dom_z]
    walk_at "ax"
    exact gives_now (q2 rfl)
  · simp only [dom_f, dom_q]
    walk_at "ax"
    exact gives_now (q2 rfl)
  · simp only [dom_f]
    walk_at "ax"
    exact gives_now (q2 rfl)
  · simp only [dom_f, dom_p]
    walk_at "ax"
    refine pj_at (k := .f n) (j := j) (fun h => ?_) fun h => ?_
    · cases h
      walk_at "ax"
      refine ⟨.f n, [x], _, rfl, rfl, ?_⟩
      walk_at "ax"
      exact gives_now (q1 _ cv_p1)
    · walk_at "ax"
      exact gives_now (q2 (cv_p0 h))
  · simp only [dom_p, dom_z]
    walk_at "ax"
    exact gives_now (q2 rfl)
  · simp only [dom_p, dom_q]
    walk_at "ax"
    exact gives_now (q2 rfl)
  · simp only [dom_p, dom_f]
    walk_at "ax"
    exact gives_now (q2 rfl)
  · simp only [dom_p]
    walk_at "ax"
    haveI := Classical.propDecidable False
    refine fEq_cl (X := X0) (n := 1) (m := 3) j.dom_cl (P_cl (n := 1) (D.cl_up _ _ k.dom_cl)) (p := False) ⟨fun h => p_ne h, False.elim⟩ ?_
    rw [decide_eq_false (fun h => h)]
    walk_at "ax"
    exact gives_now (q2 rfl)
/-! ### the law -/
theorem cv_may {k j : Dk} (h : ¬may k j) (x : k.R) : cv k j x = none := by
  rcases k with (_ | _ | n) | k <;> rcases j with (_ | _ | m) | j <;> first
    | rfl
    | exact absurd trivial h
    | exact cv_p0 fun z => h z
theorem cv_val {k j : Dk} {x : k.R} {y : D} (h : cv k j x = some y) : y.cl 2 = true ∧ ntiD y = true ∧ nonD y = false := by
  have hb : ∀ (b : Bk) (z : b.T), (b.enc z).cl 2 = true ∧ ntiD (b.enc z) = true ∧ nonD (b.enc z) = false := fun b z => ⟨D.cl_up _ _ (b.enc_cl z), by cases b <;> rfl, by cases b <;> rfl⟩
  have hp : ∀ (b b' : Bk) (z : (Dk.b b).R), cv (.b b) (.p b') z = some y → y.cl 2 = true ∧ ntiD y = true ∧ nonD y = false := fun b b' z h => by
    by_cases e : b = b'
    · subst e
      rw [cv_p1] at h
      cases h
      exact ⟨pe_cl _, rfl, rfl⟩
    · rw [cv_p0 e] at h
      cases h
  rcases k with (_ | _ | n) | k <;> rcases j with (_ | _ | m) | j <;> first
    | exact hp _ _ x h
    | (have h : (none : Option D) = some y := h; cases h)
    | (have h : some (Bk.q.enc _) = some y := h; cases h; exact hb _ _)
    | (have h : some ((Bk.f _).enc _) = some y := h; cases h; exact hb _ _)
    | skip
  · rw [cv_qz] at h
    split at h
    · cases h; exact ⟨rfl, rfl, rfl⟩
    · cases h
  · rw [cv_qf] at h
    split at h
    · cases h
    · cases h; exact hb _ _
theorem p_law : ∀ ds S Q XX, Closed S → aspLaw ds S Q XX → w_law a_start a_domain a_take a_lmatrix a_shape a_told23 a_lchanged23 (endOf Q S.length) (startD ["script", "c", "d", "e", "a", "fits", "rows", "row", "x"] ds) S (GivesX XX S.length) := by
  rintro ds S Q XX hC ⟨ns, hl, hd, rfl, q⟩
  have fin : ∀ S', AW.Gives Q 0 (.bl true) S' := fun S' => gives_now (q S')
  obtain ⟨d0, rfl⟩ : ∃ d0, ds = [d0] := by rcases hd with h | h <;> exact ⟨_, h⟩
  unfold w_law
  walk_at "ax"
  refine ⟨ns, hl, hd, rfl, fun S1 _ h1 => ?_⟩
  walk_at "ax"
  refine ⟨0, rfl, h1, fun k S2 dk t1 => ?_⟩
  replace h1 := h1.to t1
  dsimp only [Lz]
  refine seq_cut (fun σ S' => Dr S' 0 ∧ ∃ v : D, ((∃ j : Dk, j.dr ∧ v = j.dom) ∨ v = .tup [.str "P", k.dom]) ∧ σ = [some d0, some (.ref 0), some k.dom, some v, none, none, none, none, none]) ?_ fun R hR => by
    walk_at "ax"
    refine ⟨0, rfl, h1, fun j S3 dj t2 => ?_⟩
    replace h1 := h1.to t2
    walk_at "ax"
    refine ⟨0, 3, rfl, h1, by omega, fun r S4 t3 a0 a1 => ?_⟩
    replace h1 := h1.to t3
    walk_at "ax"
    obtain ⟨x, hx, e⟩ := at_ints [2, 3, 7] a0 a1
    simp only [List.map_cons, List.map_nil] at e
    rw [atQ_of e]
    clear e
    obtain ⟨p, rfl, pp, hp⟩ : ∃ p : Nat, x = ((p + 2 : Nat) : Int) ∧ Pr (p + 2) ∧ p + 2 ≤ 65521 := Pr_list (by simp only [List.mem_cons, List.not_mem_nil, or_false] at hx ⊢; omega)
    clear hx a0 a1
    walk_at "ax"
    refine ⟨0, 5, rfl, h1, by omega, fun r S5 t5 b0 b1 => ?_⟩
    replace h1 := h1.to t5
    have five : r = 0 ∨ r = 1 ∨ r = 2 ∨ r = 3 ∨ r = 4 := by omega
    clear b0 b1
    rcases five with rfl | rfl | rfl | rfl | rfl
    · walk_at "ax"
      exact hR _ _ ⟨h1, _, .inl ⟨j, dj, rfl⟩, rfl⟩
    · walk_at "ax"
      exact hR _ _ ⟨h1, _, .inl ⟨.b .q, .inr (.inl rfl), rfl⟩, rfl⟩
    · walk_at "ax"
      exact hR _ _ ⟨h1, _, .inr rfl, rfl⟩
    · walk_at "ax"
      exact hR _ _ ⟨h1, _, .inl ⟨.b .z, .inl rfl, rfl⟩, rfl⟩
    · walk_at "ax"
      exact hR _ _ ⟨h1, _, .inl ⟨.b (.f p), .inr (.inr ⟨p, rfl, pp, hp⟩), rfl⟩, rfl⟩
  clear h1
  rintro σ S3 ⟨h1, v, hv, rfl⟩
  refine seq_cut (fun σ S' => S3 = S' ∧ ∃ j : Dk, j.dr ∧ σ = [some d0, some (.ref 0), some k.dom, some j.dom, none, none, none, none, none]) ?_ fun R hR => by
    rcases hv with ⟨j, dj, rfl⟩ | rfl
    · rcases j with (_ | _ | m) | j
      · simp only [dom_z]
        walk_at "ax"
        exact hR _ _ ⟨rfl, .b .z, dj, rfl⟩
      · simp only [dom_q]
        walk_at "ax"
        exact hR _ _ ⟨rfl, .b .q, dj, rfl⟩
      · simp only [dom_f]
        walk_at "ax"
        exact hR _ _ ⟨rfl, .b (.f m), dj, rfl⟩
      · have dj' : j.fld := dj
        rcases dj' with rfl | ⟨m, rfl, _, _⟩
        · simp only [dom_p, Bk.dom]
          walk_at "ax"
          refine ⟨by decide +kernel, if_no (by decide +kernel) ?_⟩
          walk_at "ax"
          exact hR _ _ ⟨rfl, .p .q, dj, rfl⟩
        · simp only [dom_p, Bk.dom]
          walk_at "ax"
          refine ⟨by decide +kernel, if_no (by decide +kernel) ?_⟩
          walk_at "ax"
          exact hR _ _ ⟨rfl, .p (.f m), dj, rfl⟩
    · rcases k with (_ | _ | m) | k
      · simp only [dom_z]
        walk_at "ax"
        refine ⟨by decide +kernel, if_yes (by decide +kernel) ?_⟩
        walk_at "ax"
        exact hR _ _ ⟨rfl, .b .q, .inr (.inl rfl), rfl⟩
      · simp only [dom_q]
        walk_at "ax"
        refine ⟨by decide +kernel, if_no (by decide +kernel) ?_⟩
        walk_at "ax"
        exact hR _ _ ⟨rfl, .p .q, .inl rfl, rfl⟩
      · simp only [dom_f]
        walk_at "ax"
        refine ⟨by decide +kernel, if_no (by decide +kernel) ?_⟩
        walk_at "ax"
        exact hR _ _ ⟨rfl, .p (.f m), dk.resolve_left (by intro z; cases z), rfl⟩
      · simp only [dom_p]
        walk_at "ax"
        refine ⟨by decide +kernel, if_yes (by decide +kernel) ?_⟩
        walk_at "ax"
        exact hR _ _ ⟨rfl, .b .q, .inr (.inl rfl), rfl⟩
  clear hv v
  rintro σ S4 ⟨rfl, j, dj, rfl⟩
  refine seq_cut (fun σ S' => ∃ (m n : Nat) (A : Mt k), m ≤ 4 ∧ n ≤ 4 ∧ k.MHas 6 2 m n A ∧ σ = [some d0, some (.ref 0), some k.dom, some j.dom, some (k.em m n A), none, none, none, none]) ?_ fun R hR => by
    walk_at "ax"
    refine ⟨0, rfl, h1, fun m S5 hm t1 => ?_⟩
    replace h1 := h1.to t1
    walk_at "ax"
    refine ⟨0, rfl, h1, fun n S6 hn t2 => ?_⟩
    replace h1 := h1.to t2
    walk_at "ax"
    refine ⟨0, k, m, n, rfl, h1, dk.ok, by omega, by omega, fun A S7 hA t3 => ?_⟩
    walk_at "ax"
    exact hR _ _ ⟨m, n, A, hm, hn, hA, rfl⟩
  clear h1
  rintro σ S5 ⟨m, n, A, hm, hn, hA, rfl⟩
  refine seq_cut (fun σ S' => S5 = S' ∧ ∃ b : Bool, (b = true ↔ may k j) ∧ σ = [some d0, some (.ref 0), some k.dom, some j.dom, some (k.em m n A), some (.bl b), none, none, none]) ?_ fun R hR => by
    have no : ¬may k j → (b : Bool) → b = false → (b = true ↔ may k j) := fun h b e => ⟨fun z => absurd (e.symm.trans z) Bool.false_ne_true, fun z => absurd z h⟩
    rcases k with (_ | _ | n1) | k <;> rcases j with (_ | _ | m1) | j <;> simp only [dom_z, dom_q, dom_f, dom_p] <;> walk_at "ax"
    · refine ⟨by decide +kernel, if_no (by decide +kernel) ?_⟩
      walk_at "ax"
      exact hR _ _ ⟨rfl, false, no (fun z => z) _ rfl, rfl⟩
    · refine ⟨by decide +kernel, if_yes (by decide +kernel) ?_⟩
      walk_at "ax"
      exact hR _ _ ⟨rfl, _, ⟨fun _ => trivial, fun _ => by decide +kernel⟩, rfl⟩
    · refine ⟨by decide +kernel, if_yes (by decide +kernel) ?_⟩
      walk_at "ax"
      exact hR _ _ ⟨rfl, _, ⟨fun _ => trivial, fun _ => by decide +kernel⟩, rfl⟩
    · refine ⟨by decide +kernel, if_no (by decide +kernel) ?_⟩
      walk_at "ax"
      refine pj_at (k := .z) (j := j) (fun h => ?_) fun h => ?_
      · walk_at "ax"
        exact hR _ _ ⟨rfl, true, ⟨fun _ => h, fun _ => rfl⟩, rfl⟩
      · walk_at "ax"
        exact hR _ _ ⟨rfl, false, no (fun z => h z) _ rfl, rfl⟩
    · refine ⟨by decide +kernel, if_yes (by decide +kernel) ?_⟩
      walk_at "ax"
      exact hR _ _ ⟨rfl, _, ⟨fun _ => trivial, fun _ => by decide +kernel⟩, rfl⟩
    · refine ⟨by decide +kernel, if_no (by decide +kernel) ?_⟩
      walk_at "ax"
      exact hR _ _ ⟨rfl, false, no (fun z => z) _ rfl, rfl⟩
    · refine ⟨by decide +kernel, if_yes (by decide +kernel) ?_⟩
      walk_at "ax"
      exact hR _ _ ⟨rfl, _, ⟨fun _ => trivial, fun _ => by decide +kernel⟩, rfl⟩
    · refine ⟨by decide +kernel, if_no (by decide +kernel) ?_⟩
      walk_at "ax"
      refine pj_at (k := .q) (j := j) (fun h => ?_) fun h => ?_
      · walk_at "ax"
        exact hR _ _ ⟨rfl, true, ⟨fun _ => h, fun _ => rfl⟩, rfl⟩
      · walk_at "ax"
        exact hR _ _ ⟨rfl, false, no (fun z => h z) _ rfl, rfl⟩
    · exact hR _ _ ⟨rfl, false, no (fun z => z) _ rfl, rfl⟩
    · exact hR _ _ ⟨rfl, false, no (fun z => z) _ rfl, rfl⟩
    · exact hR _ _ ⟨rfl, false, no (fun z => z) _ rfl, rfl⟩
    · skip
      refine pj_at (k := .f n1) (j := j) (fun h => ?_) fun h => ?_
      · walk_at "ax"
        exact hR _ _ ⟨rfl, true, ⟨fun _ => h, fun _ => rfl⟩, rfl⟩
      · walk_at "ax"
        exact hR _ _ ⟨rfl, false, no (fun z => h z) _ rfl, rfl⟩
    · exact hR _ _ ⟨rfl, false, no (fun z => z) _ rfl, rfl⟩
    · exact hR _ _ ⟨rfl, false, no (fun z => z) _ rfl, rfl⟩
    · exact hR _ _ ⟨rfl, false, no (fun z => z) _ rfl, rfl⟩
    · haveI := Classical.propDecidable False
      refine fEq_cl (X := X0) (n := 1) (m := 3) j.dom_cl (P_cl (n := 1) (D.cl_up _ _ k.dom_cl)) (p := False) ⟨fun h => p_ne h, False.elim⟩ ?_
      rw [decide_eq_false (fun h => h)]
      walk_at "ax"
      exact hR _ _ ⟨rfl, false, no (fun z => z) _ rfl, rfl⟩
  rintro σ S6 ⟨rfl, b, hb, rfl⟩
  -- the told value when the domains differ
  have big : m < 1000000 ∧ n < 1000000 := by omega
  by_cases h : k = j
  · subst h
    walk_at "ax"
    refine eq_same (X := X0) (D.cl_dt _ _ k.dom_cl) ?_
    walk_at "ax"
    refine ⟨k, k, m, n, A, rfl, dk, dj, big.1, big.2, hA, fun _ => ?_, fun z => absurd rfl z, fun z => absurd rfl z, fun z => absurd rfl z⟩
    walk_at "ax"
    refine eq_same (X := X0) (D.cl_dt _ _ (k.em_cl m n A)) ?_
    walk_at "ax"
    exact fin _
  haveI := Classical.propDecidable (k = j)
  refine seq_cut (fun σ S' => S5 = S' ∧ σ = [some d0, some (.ref 0), some k.dom, some j.dom, some (k.em m n A), some (.bl b), none, none, none]) ?_ fun R hR => by
    walk_at "ax"
    refine fEq_cl (X := X0) (n := 2) (m := 2) k.dom_cl j.dom_cl Dk.dom_iff ?_
    rw [decide_eq_false h]
    walk_at "ax"
    exact hR _ _ ⟨rfl, rfl⟩
  rintro σ S6 ⟨rfl, rfl⟩
  refine seq_cut (fun σ S' => (¬may k j → 0 < m ∧ 0 < n) ∧ S5 = S' ∧ σ = [some d0, some (.ref 0), some k.dom, some j.dom, some (k.em m n A), some (.bl b), none, none, none]) ?_ fun R hR => by
    walk_at "ax"
    cases b with
    | true =>
      rw [if_pos rfl]
      walk_at "ax"
      exact hR _ _ ⟨fun z => absurd (hb.mp rfl) z, rfl, rfl⟩
    | false =>
      rw [if_neg Bool.false_ne_true]
      walk_at "ax"
      rw [em_ix0]
      walk_at "ax"
      rw [em_ix1]
      walk_at "ax"
      refine ⟨mulOk_of (show ((m : Nat) : Int).natAbs < 2 ^ 20 by omega) (show ((n : Nat) : Int).natAbs < 2 ^ 20 by omega) (by decide), ?_⟩
      split
      · walk_at "ax"
        exact fin _
      · rename_i hz
        walk_at "ax"
        refine hR _ _ ⟨fun _ => ?_, rfl, rfl⟩
        constructor
        · refine Nat.pos_of_ne_zero fun z => hz ?_
          rw [z]
          exact Int.zero_mul _
        · refine Nat.pos_of_ne_zero fun z => hz ?_
          rw [z]
          exact Int.mul_zero _
  rintro σ S6 ⟨pos, rfl, rfl⟩
  walk_at "ax"
  rw [em_ix2]
  walk_at "ax"
  refine forl_cut (k.rs m n A) (fun i σ S' => S' = S5 ++ [.lst ((List.range i).map fun r => D.tup ((List.range n).map fun l => (cv k j (A r l)).getD .non))] ∧ (∀ r, r < i → ∀ l, l < n → cv k j (A r l) ≠ none) ∧ ∃ a7 a8, σ = [some d0, some (.ref 0), some k.dom, some j.dom, some (k.em m n A), some (.bl b), some (.ref S5.length), a7, a8]) ⟨rfl, fun r h => absurd h (Nat.not_lt_zero r), _, _, rfl⟩ ?_ ?_
  · rintro i d σ S' R hd ⟨rfl, g, a7, a8, rfl⟩ hR
    have hi : i < m := by have := (List.getElem?_eq_some_iff.mp hd).1; rwa [Dk.rs_len] at this
    rw [Dk.rs_get hi] at hd
    cases hd
    walk_at "ax"
    rw [ref_ap (last_cell S5 _)]
    simp only [Dk.ev]
    walk_at "ax"
    rw [Dk.vs_len]
    refine ⟨by omega, ?_⟩
    refine lcL_each (List.range n) (fun l => k.en (A i l)) (fun l => (cv k j (A i l)).getD .non) ?_ ?_
    · intro l a acc R2 ha hR2
      have hl : l < n := by have := (List.getElem?_eq_some_iff.mp ha).1; rwa [List.length_range] at this
      rw [List.getElem?_range hl] at ha
      cases ha
      walk_at "ax"
      refine ⟨k, j, A i l, rfl, dk, dj, hA i hi l hl, h, fun y hy => ?_, fun hy => ?_⟩
      · rw [hy] at hR2
        walk_at "ax"
        exact hR2
      · rw [hy] at hR2
        walk_at "ax"
        exact hR2
    walk_at "ax"
    rw [ref_app (last_cell S5 _), last_set]
    refine ⟨by rw [List.length_map, List.length_range]; show i < 16777216; omega, ?_⟩
    walk_at "ax"
    rw [ref_ix (last_cell S5 _), atQ_of (show L2.atI (List.map (fun r => D.tup (List.map (fun l => (cv k j (A r l)).getD D.non) (List.range n))) (List.range i) ++ [D.tup (List.map (fun l => (cv k j (A i l)).getD D.non) (List.range n))]) (-1) = some (D.tup (List.map (fun l => (cv k j (A i l)).getD D.non) (List.range n))) by rw [atI_last1, List.getLast?_append]; rfl)]
    walk_at "ax"
    refine ⟨List.all_eq_true.mpr fun d hd => ?_, ?_⟩
    · obtain ⟨l, _, rfl⟩ := List.mem_map.mp hd
      cases q : cv k j (A i l) with
      | none => rfl
      | some y => exact (cv_val q).2.1
    by_cases hno : ∃ l, l < n ∧ cv k j (A i l) = none
    · obtain ⟨l, hl, hn0⟩ := hno
      rw [if_pos (List.any_eq_true.mpr ⟨.non, List.mem_map.mpr ⟨l, List.mem_range.mpr hl, by rw [hn0]; rfl⟩, rfl⟩)]
      walk_at "ax"
      refine ⟨k, j, m, n, A, rfl, dk, dj, big.1, big.2, hA, fun z => absurd z h, fun _ z => ?_, fun _ z B hB => ?_, fun _ _ => ?_⟩
      · walk_at "ax"
        exact fin _
      · have z := hB i hi l hl
        rw [hn0] at z
        cases z
      · walk_at "ax"
        exact fin _
    · rw [if_neg (fun z => by
        obtain ⟨d, hd, e⟩ := List.any_eq_true.mp z
        obtain ⟨l, hl, rfl⟩ := List.mem_map.mp hd
        have hl := List.mem_range.mp hl
        cases q : cv k j (A i l) with
        | none => exact hno ⟨l, hl, q⟩
        | some y =>
          rw [q] at e
          have := (cv_val q).2.2
          rw [show nonD y = true from e] at this
          cases this)]
      walk_at "ax"
      refine hR _ _ ⟨?_, fun r hr l hl z => ?_, _, _, rfl⟩
      · rw [List.range_succ, List.map_append]
        rfl
      · rcases Nat.lt_or_ge r i with hr2 | hr2
        · exact g r hr2 l hl z
        · obtain rfl : r = i := by omega
          exact hno ⟨l, hl, z⟩
  · rintro σ S' ⟨rfl, g, a7, a8, rfl⟩
    rw [Dk.rs_len] at g ⊢
    walk_at "ax"
    refine ⟨k, j, m, n, A, rfl, dk, dj, big.1, big.2, hA, fun z => absurd z h, fun _ z => ?_, fun _ z B hB => ?_, fun _ ⟨i, hi, l, hl, z⟩ => absurd z (g i hi l hl)⟩
    · exact absurd (cv_may z _) (g 0 (pos z).1 0 (pos z).2)
    · walk_at "ax"
      rw [em_ix0]
      walk_at "ax"
      rw [em_ix1]
      walk_at "ax"
      rw [ref_tuple (last_cell S5 _)]
      walk_at "ax"
      have e : (List.range m).map (fun r => D.tup ((List.range n).map fun l => (cv k j (A r l)).getD D.non)) = (List.range m).map (fun i => D.tup ((List.range n).map fun l => B i l)) := List.map_congr_left fun r hr => congrArg D.tup (List.map_congr_left fun l hl => by rw [hB r (List.mem_range.mp hr) l (List.mem_range.mp hl)]; rfl)
      rw [e]
      refine ⟨same_ok 6 ?_, ?_⟩
      · refine tup_cl fun d hd => ?_
        rcases List.mem_cons.mp hd with rfl | hd
        · rfl
        rcases List.mem_cons.mp hd with rfl | hd
        · rfl
        rw [List.mem_singleton.mp hd]
        refine tup_cl (n := 4) fun d hd => ?_
        obtain ⟨r, hr, rfl⟩ := List.mem_map.mp hd
        refine tup_cl (n := 3) fun d hd => ?_
        obtain ⟨l, hl, rfl⟩ := List.mem_map.mp hd
        exact D.cl_up _ _ (cv_val (hB r (List.mem_range.mp hr) l (List.mem_range.mp hl))).1
      · rw [eqb_refl]
        exact fin _
end My
namespace My
open PySem PySem.Spec PyProof.Rows L2 AW
theorem all_mk {l : PySem.W.OpenLaw} {w : World} {K : PySem.W.Frag} {h : Heap} {mg : Str → Option Value} {fa f0 f1 f2 f3 f4 f5 f6 f7 f8 f9 f10 f11 f12 f13 f14 f15 f16 f17 f18 f19 f20 f21 f22 f23 f24 f25 f26 f27 f28 f29 f30 f31 f32 f33 f34 f35 f36 f37 f38 f39 : Addr} (X : K.In h) (G : h.Ns mainGlobals mg) (hfa : mg "law" = some (.ref fa)) (tr : l.prog.given.tree = none)
    {od0 an0 od1 an1 od2 an2 od3 an3 od4 an4 od5 an5 od6 an6 od7 an7 od8 an8 od9 an9 od10 an10 od11 an11 od12 an12 od13 an13 od14 an14 od15 an15 od16 an16 od17 an17 od18 an18 od19 an19 od20 an20 od21 an21 od22 an22 od23 an23 od24 an24 od25 an25 od26 an26 od27 an27 od28 an28 od29 an29 od30 an30 od31 an31 od32 an32 od33 an33 od34 an34 od35 an35 od36 an36 od37 an37 od38 an38 od39 an39 : Option Addr} {sl0 sl1 sl2 sl3 sl4 sl5 sl6 sl7 sl8 sl9 sl10 sl11 sl12 sl13 sl14 sl15 sl16 sl17 sl18 sl19 sl20 sl21 sl22 sl23 sl24 sl25 sl26 sl27 sl28 sl29 sl30 sl31 sl32 sl33 sl34 sl35 sl36 sl37 sl38 sl39 : Array (Option Value)} {oc0 kV0 dc0 pm0 cd0 ct0 oc1 kV1 dc1 pm1 cd1 ct1 oc2 kV2 dc2 pm2 cd2 ct2 oc3 kV3 dc3 pm3 cd3 ct3 oc4 kV4 dc4 pm4 cd4 ct4 oc5 kV5 dc5 pm5 cd5 ct5 oc6 kV6 dc6 pm6 cd6 ct6 oc7 kV7 dc7 pm7 cd7 ct7 oc8 kV8 dc8 pm8 cd8 ct8 oc9 kV9 dc9 pm9 cd9 ct9 oc10 kV10 dc10 pm10 cd10 ct10 oc11 kV11 dc11 pm11 cd11 ct11 oc12 kV12 dc12 pm12 cd12 ct12 oc13 kV13 dc13 pm13 cd13 ct13 oc14 kV14 dc14 pm14 cd14 ct14 oc15 kV15 dc15 pm15 cd15 ct15 oc16 kV16 dc16 pm16 cd16 ct16 oc17 kV17 dc17 pm17 cd17 ct17 oc18 kV18 dc18 pm18 cd18 ct18 oc19 kV19 dc19 pm19 cd19 ct19 oc20 kV20 dc20 pm20 cd20 ct20 oc21 kV21 dc21 pm21 cd21 ct21 oc22 kV22 dc22 pm22 cd22 ct22 oc23 kV23 dc23 pm23 cd23 ct23 oc24 kV24 dc24 pm24 cd24 ct24 oc25 kV25 dc25 pm25 cd25 ct25 oc26 kV26 dc26 pm26 cd26 ct26 oc27 kV27 dc27 pm27 cd27 ct27 oc28 kV28 dc28 pm28 cd28 ct28 oc29 kV29 dc29 pm29 cd29 ct29 oc30 kV30 dc30 pm30 cd30 ct30 oc31 kV31 dc31 pm31 cd31 ct31 oc32 kV32 dc32 pm32 cd32 ct32 oc33 kV33 dc33 pm33 cd33 ct33 oc34 kV34 dc34 pm34 cd34 ct34 oc35 kV35 dc35 pm35 cd35 ct35 oc36 kV36 dc36 pm36 cd36 ct36 oc37 kV37 dc37 pm37 cd37 ct37 oc38 kV38 dc38 pm38 cd38 ct38 oc39 kV39 dc39 pm39 cd39 ct39 : Value}
    {uy0 : Tok}
    {e0 e1 e2 : Addr}
    (a0 : PySem.W.nsIn K mainGlobals "_law_start" = some (some (.ref f0))) (l0 : K.lookup f0 = some ⟨oc0, od0, .func (PySem.W.fnOf "_law_start" "_law_start" (defArgs s__law_start) (defBody s__law_start) (defScope s__law_start) .none kV0 dc0 pm0 an0 cd0 ct0), sl0⟩) (c0 : PySem.W.codeIn K cd0 "_law_start" = true) (k0 : PySem.W.keepIn K (.ref f0) = true)
    (a1 : PySem.W.nsIn K mainGlobals "_law_fill" = some (some (.ref f1))) (l1 : K.lookup f1 = some ⟨oc1, od1, .func (PySem.W.fnOf "_law_fill" "_law_fill" (defArgs s__law_fill) (defBody s__law_fill) (defScope s__law_fill) .none kV1 dc1 pm1 an1 cd1 ct1), sl1⟩) (c1 : PySem.W.codeIn K cd1 "_law_fill" = true) (k1 : PySem.W.keepIn K (.ref f1) = true)
    (a2 : PySem.W.nsIn K mainGlobals "_law_take" = some (some (.ref f2))) (l2 : K.lookup f2 = some ⟨oc2, od2, .func (PySem.W.fnOf "_law_take" "_law_take" (defArgs s__law_take) (defBody s__law_take) (defScope s__law_take) .none kV2 dc2 pm2 an2 cd2 ct2), sl2⟩) (c2 : PySem.W.codeIn K cd2 "_law_take" = true) (k2 : PySem.W.keepIn K (.ref f2) = true)
    (a3 : PySem.W.nsIn K mainGlobals "divisor" = some (some (.ref f3))) (l3 : K.lookup f3 = some ⟨oc3, od3, .func (PySem.W.fnOf "divisor" "divisor" (defArgs s_divisor) (defBody s_divisor) (defScope s_divisor) .none kV3 dc3 pm3 an3 cd3 ct3), sl3⟩) (c3 : PySem.W.codeIn K cd3 "divisor" = true) (k3 : PySem.W.keepIn K (.ref f3) = true)
    (a4 : PySem.W.nsIn K mainGlobals "fraction" = some (some (.ref f4))) (l4 : K.lookup f4 = some ⟨oc4, od4, .func (PySem.W.fnOf "fraction" "fraction" (defArgs s_fraction) (defBody s_fraction) (defScope s_fraction) .none kV4 dc4 pm4 an4 cd4 ct4), sl4⟩) (c4 : PySem.W.codeIn K cd4 "fraction" = true) (k4 : PySem.W.keepIn K (.ref f4) = true)
    (a5 : PySem.W.nsIn K mainGlobals "zero" = some (some (.ref f5))) (l5 : K.lookup f5 = some ⟨oc5, od5, .func (PySem.W.fnOf "zero" "zero" (defArgs s_zero) (defBody s_zero) (defScope s_zero) .none kV5 dc5 pm5 an5 cd5 ct5), sl5⟩) (c5 : PySem.W.codeIn K cd5 "zero" = true) (k5 : PySem.W.keepIn K (.ref f5) = true)
    (a6 : PySem.W.nsIn K mainGlobals "trimmed" = some (some (.ref f6))) (l6 : K.lookup f6 = some ⟨oc6, od6, .func (PySem.W.fnOf "trimmed" "trimmed" (defArgs s_trimmed) (defBody s_trimmed) (defScope s_trimmed) .none kV6 dc6 pm6 an6 cd6 ct6), sl6⟩) (c6 : PySem.W.codeIn K cd6 "trimmed" = true) (k6 : PySem.W.keepIn K (.ref f6) = true)
    (a7 : PySem.W.nsIn K mainGlobals "from_integer" = some (some (.ref f7))) (l7 : K.lookup f7 = some ⟨oc7, od7, .func (PySem.W.fnOf "from_integer" "from_integer" (defArgs s_from_integer) (defBody s_from_integer) (defScope s_from_integer) .none kV7 dc7 pm7 an7 cd7 ct7), sl7⟩) (c7 : PySem.W.codeIn K cd7 "from_integer" = true) (k7 : PySem.W.keepIn K (.ref f7) = true)
    (a8 : PySem.W.nsIn K mainGlobals "add" = some (some (.ref f8))) (l8 : K.lookup f8 = some ⟨oc8, od8, .func (PySem.W.fnOf "add" "add" (defArgs s_add) (defBody s_add) (defScope s_add) .none kV8 dc8 pm8 an8 cd8 ct8), sl8⟩) (c8 : PySem.W.codeIn K cd8 "add" = true) (k8 : PySem.W.keepIn K (.ref f8) = true)
    (a9 : PySem.W.nsIn K mainGlobals "multiply" = some (some (.ref f9))) (l9 : K.lookup f9 = some ⟨oc9, od9, .func (PySem.W.fnOf "multiply" "multiply" (defArgs s_multiply) (defBody s_multiply) (defScope s_multiply) .none kV9 dc9 pm9 an9 cd9 ct9), sl9⟩) (c9 : PySem.W.codeIn K cd9 "multiply" = true) (k9 : PySem.W.keepIn K (.ref f9) = true)
    (a10 : PySem.W.nsIn K mainGlobals "_law_common" = some (some (.ref f10))) (l10 : K.lookup f10 = some ⟨oc10, od10, .func (PySem.W.fnOf "_law_common" "_law_common" (defArgs s__law_common) (defBody s__law_common) (defScope s__law_common) .none kV10 dc10 pm10 an10 cd10 ct10), sl10⟩) (c10 : PySem.W.codeIn K cd10 "_law_common" = true) (k10 : PySem.W.keepIn K (.ref f10) = true)
    (a11 : PySem.W.nsIn K mainGlobals "_law_fraction" = some (some (.ref f11))) (l11 : K.lookup f11 = some ⟨oc11, od11, .func (PySem.W.fnOf "_law_fraction" "_law_fraction" (defArgs s__law_fraction) (defBody s__law_fraction) (defScope s__law_fraction) .none kV11 dc11 pm11 an11 cd11 ct11), sl11⟩) (c11 : PySem.W.codeIn K cd11 "_law_fraction" = true) (k11 : PySem.W.keepIn K (.ref f11) = true)
    (a12 : PySem.W.nsIn K mainGlobals "_law_zero" = some (some (.ref f12))) (l12 : K.lookup f12 = some ⟨oc12, od12, .func (PySem.W.fnOf "_law_zero" "_law_zero" (defArgs s__law_zero) (defBody s__law_zero) (defScope s__law_zero) .none kV12 dc12 pm12 an12 cd12 ct12), sl12⟩) (c12 : PySem.W.codeIn K cd12 "_law_zero" = true) (k12 : PySem.W.keepIn K (.ref f12) = true)
    (a13 : PySem.W.nsIn K mainGlobals "_law_strip" = some (some (.ref f13))) (l13 : K.lookup f13 = some ⟨oc13, od13, .func (PySem.W.fnOf "_law_strip" "_law_strip" (defArgs s__law_strip) (defBody s__law_strip) (defScope s__law_strip) .none kV13 dc13 pm13 an13 cd13 ct13), sl13⟩) (c13 : PySem.W.codeIn K cd13 "_law_strip" = true) (k13 : PySem.W.keepIn K (.ref f13) = true)
    (a14 : PySem.W.nsIn K mainGlobals "_law_number" = some (some (.ref f14))) (l14 : K.lookup f14 = some ⟨oc14, od14, .func (PySem.W.fnOf "_law_number" "_law_number" (defArgs s__law_number) (defBody s__law_number) (defScope s__law_number) .none kV14 dc14 pm14 an14 cd14 ct14), sl14⟩) (c14 : PySem.W.codeIn K cd14 "_law_number" = true) (k14 : PySem.W.keepIn K (.ref f14) = true)
    (a15 : PySem.W.nsIn K mainGlobals "_law_add" = some (some (.ref f15))) (l15 : K.lookup f15 = some ⟨oc15, od15, .func (PySem.W.fnOf "_law_add" "_law_add" (defArgs s__law_add) (defBody s__law_add) (defScope s__law_add) .none kV15 dc15 pm15 an15 cd15 ct15), sl15⟩) (c15 : PySem.W.codeIn K cd15 "_law_add" = true) (k15 : PySem.W.keepIn K (.ref f15) = true)
    (a16 : PySem.W.nsIn K mainGlobals "_law_multiply" = some (some (.ref f16))) (l16 : K.lookup f16 = some ⟨oc16, od16, .func (PySem.W.fnOf "_law_multiply" "_law_multiply" (defArgs s__law_multiply) (defBody s__law_multiply) (defScope s__law_multiply) .none kV16 dc16 pm16 an16 cd16 ct16), sl16⟩) (c16 : PySem.W.codeIn K cd16 "_law_multiply" = true) (k16 : PySem.W.keepIn K (.ref f16) = true)
    (a17 : PySem.W.nsIn K mainGlobals "_law_power" = some (some (.ref f17))) (l17 : K.lookup f17 = some ⟨oc17, od17, .func (PySem.W.fnOf "_law_power" "_law_power" (defArgs s__law_power) (defBody s__law_power) (defScope s__law_power) .none kV17 dc17 pm17 an17 cd17 ct17), sl17⟩) (c17 : PySem.W.codeIn K cd17 "_law_power" = true) (k17 : PySem.W.keepIn K (.ref f17) = true)
    (a18 : PySem.W.nsIn K mainGlobals "_law_some_prime" = some (some (.ref f18))) (l18 : K.lookup f18 = some ⟨oc18, od18, .func (PySem.W.fnOf "_law_some_prime" "_law_some_prime" (defArgs s__law_some_prime) (defBody s__law_some_prime) (defScope s__law_some_prime) .none kV18 dc18 pm18 an18 cd18 ct18), sl18⟩) (c18 : PySem.W.codeIn K cd18 "_law_some_prime" = true) (k18 : PySem.W.keepIn K (.ref f18) = true)
    (a19 : PySem.W.nsIn K mainGlobals "_law_field" = some (some (.ref f19))) (l19 : K.lookup f19 = some ⟨oc19, od19, .func (PySem.W.fnOf "_law_field" "_law_field" (defArgs s__law_field) (defBody s__law_field) (defScope s__law_field) .none kV19 dc19 pm19 an19 cd19 ct19), sl19⟩) (c19 : PySem.W.codeIn K cd19 "_law_field" = true) (k19 : PySem.W.keepIn K (.ref f19) = true)
    (a20 : PySem.W.nsIn K mainGlobals "_law_domain" = some (some (.ref f20))) (l20 : K.lookup f20 = some ⟨oc20, od20, .func (PySem.W.fnOf "_law_domain" "_law_domain" (defArgs s__law_domain) (defBody s__law_domain) (defScope s__law_domain) .none kV20 dc20 pm20 an20 cd20 ct20), sl20⟩) (c20 : PySem.W.codeIn K cd20 "_law_domain" = true) (k20 : PySem.W.keepIn K (.ref f20) = true)
    (a21 : PySem.W.nsIn K mainGlobals "_law_small" = some (some (.ref f21))) (l21 : K.lookup f21 = some ⟨oc21, od21, .func (PySem.W.fnOf "_law_small" "_law_small" (defArgs s__law_small) (defBody s__law_small) (defScope s__law_small) .none kV21 dc21 pm21 an21 cd21 ct21), sl21⟩) (c21 : PySem.W.codeIn K cd21 "_law_small" = true) (k21 : PySem.W.keepIn K (.ref f21) = true)
    (a22 : PySem.W.nsIn K mainGlobals "common" = some (some (.ref f22))) (l22 : K.lookup f22 = some ⟨oc22, od22, .func (PySem.W.fnOf "common" "common" (defArgs s_common) (defBody s_common) (defScope s_common) .none kV22 dc22 pm22 an22 cd22 ct22), sl22⟩) (c22 : PySem.W.codeIn K cd22 "common" = true) (k22 : PySem.W.keepIn K (.ref f22) = true)
    (a23 : PySem.W.nsIn K mainGlobals "is_prime" = some (some (.ref f23))) (l23 : K.lookup f23 = some ⟨oc23, od23, .func (PySem.W.fnOf "is_prime" "is_prime" (defArgs s_is_prime) (defBody s_is_prime) (defScope s_is_prime) .none kV23 dc23 pm23 an23 cd23 ct23), sl23⟩) (c23 : PySem.W.codeIn K cd23 "is_prime" = true) (k23 : PySem.W.keepIn K (.ref f23) = true)
    (a24 : PySem.W.nsIn K mainGlobals "is_integer" = some (some (.ref f24))) (l24 : K.lookup f24 = some ⟨oc24, od24, .func (PySem.W.fnOf "is_integer" "is_integer" (defArgs s_is_integer) (defBody s_is_integer) (defScope s_is_integer) .none kV24 dc24 pm24 an24 cd24 ct24), sl24⟩) (c24 : PySem.W.codeIn K cd24 "is_integer" = true) (k24 : PySem.W.keepIn K (.ref f24) = true)
    (a25 : PySem.W.nsIn K mainGlobals "is_field" = some (some (.ref f25))) (l25 : K.lookup f25 = some ⟨oc25, od25, .func (PySem.W.fnOf "is_field" "is_field" (defArgs s_is_field) (defBody s_is_field) (defScope s_is_field) .none kV25 dc25 pm25 an25 cd25 ct25), sl25⟩) (c25 : PySem.W.codeIn K cd25 "is_field" = true) (k25 : PySem.W.keepIn K (.ref f25) = true)
    (a26 : PySem.W.nsIn K mainGlobals "need_field" = some (some (.ref f26))) (l26 : K.lookup f26 = some ⟨oc26, od26, .func (PySem.W.fnOf "need_field" "need_field" (defArgs s_need_field) (defBody s_need_field) (defScope s_need_field) .none kV26 dc26 pm26 an26 cd26 ct26), sl26⟩) (c26 : PySem.W.codeIn K cd26 "need_field" = true) (k26 : PySem.W.keepIn K (.ref f26) = true)
    (a27 : PySem.W.nsIn K mainGlobals "inverse" = some (some (.ref f27))) (l27 : K.lookup f27 = some ⟨oc27, od27, .func (PySem.W.fnOf "inverse" "inverse" (defArgs s_inverse) (defBody s_inverse) (defScope s_inverse) .none kV27 dc27 pm27 an27 cd27 ct27), sl27⟩) (c27 : PySem.W.codeIn K cd27 "inverse" = true) (k27 : PySem.W.keepIn K (.ref f27) = true)
    (a28 : PySem.W.nsIn K mainGlobals "is_domain" = some (some (.ref f28))) (l28 : K.lookup f28 = some ⟨oc28, od28, .func (PySem.W.fnOf "is_domain" "is_domain" (defArgs s_is_domain) (defBody s_is_domain) (defScope s_is_domain) .none kV28 dc28 pm28 an28 cd28 ct28), sl28⟩) (c28 : PySem.W.codeIn K cd28 "is_domain" = true) (k28 : PySem.W.keepIn K (.ref f28) = true)
    (a29 : PySem.W.nsIn K mainGlobals "_law_inverse" = some (some (.ref f29))) (l29 : K.lookup f29 = some ⟨oc29, od29, .func (PySem.W.fnOf "_law_inverse" "_law_inverse" (defArgs s__law_inverse) (defBody s__law_inverse) (defScope s__law_inverse) .none kV29 dc29 pm29 an29 cd29 ct29), sl29⟩) (c29 : PySem.W.codeIn K cd29 "_law_inverse" = true) (k29 : PySem.W.keepIn K (.ref f29) = true)
    (a30 : PySem.W.nsIn K mainGlobals "_law_matrix" = some (some (.ref f30))) (l30 : K.lookup f30 = some ⟨oc30, od30, .func (PySem.W.fnOf "_law_matrix" "_law_matrix" (defArgs s__law_matrix) (defBody s__law_matrix) (defScope s__law_matrix) .none kV30 dc30 pm30 an30 cd30 ct30), sl30⟩) (c30 : PySem.W.codeIn K cd30 "_law_matrix" = true) (k30 : PySem.W.keepIn K (.ref f30) = true)
    (a31 : PySem.W.nsIn K mainGlobals "_law_shape" = some (some (.ref f31))) (l31 : K.lookup f31 = some ⟨oc31, od31, .func (PySem.W.fnOf "_law_shape" "_law_shape" (defArgs s__law_shape) (defBody s__law_shape) (defScope s__law_shape) .none kV31 dc31 pm31 an31 cd31 ct31), sl31⟩) (c31 : PySem.W.codeIn K cd31 "_law_shape" = true) (k31 : PySem.W.keepIn K (.ref f31) = true)
    (a32 : PySem.W.nsIn K mainGlobals "quotient" = some (some (.ref f32))) (l32 : K.lookup f32 = some ⟨oc32, od32, .func (PySem.W.fnOf "quotient" "quotient" (defArgs s_quotient) (defBody s_quotient) (defScope s_quotient) .none kV32 dc32 pm32 an32 cd32 ct32), sl32⟩) (c32 : PySem.W.codeIn K cd32 "quotient" = true) (k32 : PySem.W.keepIn K (.ref f32) = true)
    (a33 : PySem.W.nsIn K mainGlobals "may_change" = some (some (.ref f33))) (l33 : K.lookup f33 = some ⟨oc33, od33, .func (PySem.W.fnOf "may_change" "may_change" (defArgs s_may_change) (defBody s_may_change) (defScope s_may_change) .none kV33 dc33 pm33 an33 cd33 ct33), sl33⟩) (c33 : PySem.W.codeIn K cd33 "may_change" = true) (k33 : PySem.W.keepIn K (.ref f33) = true)
    (a34 : PySem.W.nsIn K mainGlobals "changed" = some (some (.ref f34))) (l34 : K.lookup f34 = some ⟨oc34, od34, .func (PySem.W.fnOf "changed" "changed" (defArgs s_changed) (defBody s_changed) (defScope s_changed) .none kV34 dc34 pm34 an34 cd34 ct34), sl34⟩) (c34 : PySem.W.codeIn K cd34 "changed" = true) (k34 : PySem.W.keepIn K (.ref f34) = true)
    (a35 : PySem.W.nsIn K mainGlobals "change" = some (some (.ref f35))) (l35 : K.lookup f35 = some ⟨oc35, od35, .func (PySem.W.fnOf "change" "change" (defArgs s_change) (defBody s_change) (defScope s_change) .none kV35 dc35 pm35 an35 cd35 ct35), sl35⟩) (c35 : PySem.W.codeIn K cd35 "change" = true) (k35 : PySem.W.keepIn K (.ref f35) = true)
    (a36 : PySem.W.nsIn K mainGlobals "_law_changed" = some (some (.ref f36))) (l36 : K.lookup f36 = some ⟨oc36, od36, .func (PySem.W.fnOf "_law_changed" "_law_changed" (defArgs s__law_changed) (defBody s__law_changed) (defScope s__law_changed) .none kV36 dc36 pm36 an36 cd36 ct36), sl36⟩) (c36 : PySem.W.codeIn K cd36 "_law_changed" = true) (k36 : PySem.W.keepIn K (.ref f36) = true)
    (a37 : PySem.W.nsIn K mainGlobals "_law_told" = some (some (.ref f37))) (l37 : K.lookup f37 = some ⟨oc37, od37, .func (PySem.W.fnOf "_law_told" "_law_told" (defArgs s__law_told) (defBody s__law_told) (defScope s__law_told) .none kV37 dc37 pm37 an37 cd37 ct37), sl37⟩) (c37 : PySem.W.codeIn K cd37 "_law_told" = true) (k37 : PySem.W.keepIn K (.ref f37) = true)
    (a38 : PySem.W.nsIn K mainGlobals "law" = some (some (.ref f38))) (l38 : K.lookup f38 = some ⟨oc38, od38, .func (PySem.W.fnOf "law" "law" (defArgs s_law) (defBody s_law) (defScope s_law) .none kV38 dc38 pm38 an38 cd38 ct38), sl38⟩) (c38 : PySem.W.codeIn K cd38 "law" = true) (k38 : PySem.W.keepIn K (.ref f38) = true)
    (a39 : PySem.W.nsIn K mainGlobals "_law_part" = some (some (.ref f39))) (l39 : K.lookup f39 = some ⟨oc39, od39, .func (PySem.W.fnOf "_law_part" "_law_part" (defArgs s__law_part) (defBody s__law_part) (defScope s__law_part) .none kV39 dc39 pm39 an39 cd39 ct39), sl39⟩) (c39 : PySem.W.codeIn K cd39 "_law_part" = true) (k39 : PySem.W.keepIn K (.ref f39) = true)
    (z0 : PySem.W.nsIn K mainGlobals "int" = some none)
    (z1 : PySem.W.nsIn K mainGlobals "len" = some none)
    (z2 : PySem.W.nsIn K mainGlobals "abs" = some none)
    (z3 : PySem.W.nsIn K mainGlobals "tuple" = some none)
    (z4 : PySem.W.nsIn K mainGlobals "list" = some none)
    (z5 : PySem.W.nsIn K mainGlobals "enumerate" = some none)
    (z6 : PySem.W.nsIn K mainGlobals "range" = some none)
    (z7 : PySem.W.nsIn K mainGlobals "max" = some none)
    (z8 : PySem.W.nsIn K mainGlobals "any" = some none)
    (z9 : PySem.W.nsIn K mainGlobals "isinstance" = some none)
    (z10 : PySem.W.nsIn K mainGlobals "bool" = some none)
    (z11 : PySem.W.nsIn K mainGlobals "str" = some none)
    (y0 : PySem.W.nsIn K mainGlobals "MOST_PRIME" = some (some (.int 65521 uy0)))
    (xg0 : PySem.W.nsIn K mainGlobals "FacetloreError" = some (some (.ref e0))) (xge0 : PySem.W.excIn K e0 [.type "ValueError", .type "Exception", .type "BaseException", .type "object"] "ValueError.__new__" = true) (xgk0 : PySem.W.keepIn K (.ref e0) = true) (xgb0 : PySem.W.subIn K (.ref e0) (.type "BaseException") = some true) (xgt0 : PySem.W.typeIn K (.ref e0) = some (.type "type")) (xgf0 : PySem.W.findIn K (.ref e0) "__getattribute__" = some (some (.builtin "BaseException.__getattribute__"))) (xgg0 : PySem.W.findIn K (.ref e0) "__getattr__" = some none) (xgh0 : PySem.W.hasDictIn K e0 = true) (xgi0 : PySem.W.findIn K (.ref e0) "__class__" = some (some (.builtin "object.__class__"))) (xgm0 : PySem.W.mroIn K e0 (.type "object") = some true) (xgv0 : PySem.W.subIn K (.ref e0) (.type "ValueError") = some true) (xgx0_0 : PySem.W.subIn K (.ref e0) (.ref e0) = some true) (xgx1_0 : PySem.W.subIn K (.ref e0) (.ref e1) = some false) (xgx2_0 : PySem.W.subIn K (.ref e0) (.ref e2) = some false)
    (xg1 : PySem.W.nsIn K mainGlobals "DomainError" = some (some (.ref e1))) (xge1 : PySem.W.excIn K e1 [.type "ValueError", .type "Exception", .type "BaseException", .type "object"] "ValueError.__new__" = true) (xgk1 : PySem.W.keepIn K (.ref e1) = true) (xgb1 : PySem.W.subIn K (.ref e1) (.type "BaseException") = some true) (xgt1 : PySem.W.typeIn K (.ref e1) = some (.type "type")) (xgf1 : PySem.W.findIn K (.ref e1) "__getattribute__" = some (some (.builtin "BaseException.__getattribute__"))) (xgg1 : PySem.W.findIn K (.ref e1) "__getattr__" = some none) (xgh1 : PySem.W.hasDictIn K e1 = true) (xgi1 : PySem.W.findIn K (.ref e1) "__class__" = some (some (.builtin "object.__class__"))) (xgm1 : PySem.W.mroIn K e1 (.type "object") = some true) (xgv1 : PySem.W.subIn K (.ref e1) (.type "ValueError") = some true) (xgx0_1 : PySem.W.subIn K (.ref e1) (.ref e0) = some true) (xgx1_1 : PySem.W.subIn K (.ref e1) (.ref e1) = some true) (xgx2_1 : PySem.W.subIn K (.ref e1) (.ref e2) = some false)
    (xg2 : PySem.W.nsIn K mainGlobals "SingularError" = some (some (.ref e2))) (xge2 : PySem.W.excIn K e2 [.type "ValueError", .type "Exception", .type "BaseException", .type "object"] "ValueError.__new__" = true) (xgk2 : PySem.W.keepIn K (.ref e2) = true) (xgb2 : PySem.W.subIn K (.ref e2) (.type "BaseException") = some true) (xgt2 : PySem.W.typeIn K (.ref e2) = some (.type "type")) (xgf2 : PySem.W.findIn K (.ref e2) "__getattribute__" = some (some (.builtin "BaseException.__getattribute__"))) (xgg2 : PySem.W.findIn K (.ref e2) "__getattr__" = some none) (xgh2 : PySem.W.hasDictIn K e2 = true) (xgi2 : PySem.W.findIn K (.ref e2) "__class__" = some (some (.builtin "object.__class__"))) (xgm2 : PySem.W.mroIn K e2 (.type "object") = some true) (xgv2 : PySem.W.subIn K (.ref e2) (.type "ValueError") = some true) (xgx0_2 : PySem.W.subIn K (.ref e2) (.ref e0) = some true) (xgx1_2 : PySem.W.subIn K (.ref e2) (.ref e1) = some false) (xgx2_2 : PySem.W.subIn K (.ref e2) (.ref e2) = some true)
    (xgc1 : PySem.W.specialIn K (.builtin "object.__class__") "__get__" = some (some (.builtin "getset_descriptor.__get__"))) (xgc2 : PySem.W.takesIn K (.builtin "object.__class__") = some true) :
    ∃ fd : FuncData, (∀ (s : Shared) (v : Value), BindsTo s fd ⟨[v], []⟩ [("script", v)]) ∧ ∀ base : Heap, K.In base → base.Ns mainGlobals mg → base.NoSeer → FnOk l.prog w K mg base (L2.CX l.prog w) 41 fa fd ["script"] (spOf K aspLaw) := by
  have e := hfa.symm.trans (PySem.W.mg_of X G a38)
  cases e
  have F0 := fun_mk (st := s__law_start) l0 c0 k0
  have b0 := F0.binds (ps := ["script"]) fun _ _ _ _ _ _ us hl => match us, hl with | [_], _ => rfl
  have F1 := fun_mk (st := s__law_fill) l1 c1 k1
  have b1 := F1.binds (ps := ["c"]) fun _ _ _ _ _ _ us hl => match us, hl with | [_], _ => rfl
  have F2 := fun_mk (st := s__law_take) l2 c2 k2
  have b2 := F2.binds (ps := ["c", "many"]) fun _ _ _ _ _ _ us hl => match us, hl with | [_, _], _ => rfl
  have F3 := fun_mk (st := s_divisor) l3 c3 k3
  have b3 := F3.binds (ps := ["a", "b"]) fun _ _ _ _ _ _ us hl => match us, hl with | [_, _], _ => rfl
  have F4 := fun_mk (st := s_fraction) l4 c4 k4
  have b4 := F4.binds (ps := ["n", "d"]) fun _ _ _ _ _ _ us hl => match us, hl with | [_, _], _ => rfl
  have F5 := fun_mk (st := s_zero) l5 c5 k5
  have b5 := F5.binds (ps := ["d"]) fun _ _ _ _ _ _ us hl => match us, hl with | [_], _ => rfl
  have F6 := fun_mk (st := s_trimmed) l6 c6 k6
  have b6 := F6.binds (ps := ["f", "coefficients"]) fun _ _ _ _ _ _ us hl => match us, hl with | [_, _], _ => rfl
  have F7 := fun_mk (st := s_from_integer) l7 c7 k7
  have b7 := F7.binds (ps := ["d", "n"]) fun _ _ _ _ _ _ us hl => match us, hl with | [_, _], _ => rfl
  have F8 := fun_mk (st := s_add) l8 c8 k8
  have b8 := F8.binds (ps := ["d", "x", "y"]) fun _ _ _ _ _ _ us hl => match us, hl with | [_, _, _], _ => rfl
  have F9 := fun_mk (st := s_multiply) l9 c9 k9
  have b9 := F9.binds (ps := ["d", "x", "y"]) fun _ _ _ _ _ _ us hl => match us, hl with | [_, _, _], _ => rfl
  have F10 := fun_mk (st := s__law_common) l10 c10 k10
  have b10 := F10.binds (ps := ["a", "b"]) fun _ _ _ _ _ _ us hl => match us, hl with | [_, _], _ => rfl
  have F11 := fun_mk (st := s__law_fraction) l11 c11 k11
  have b11 := F11.binds (ps := ["n", "m"]) fun _ _ _ _ _ _ us hl => match us, hl with | [_, _], _ => rfl
  have F12 := fun_mk (st := s__law_zero) l12 c12 k12
  have b12 := F12.binds (ps := ["d"]) fun _ _ _ _ _ _ us hl => match us, hl with | [_], _ => rfl
  have F13 := fun_mk (st := s__law_strip) l13 c13 k13
  have b13 := F13.binds (ps := ["f", "parts"]) fun _ _ _ _ _ _ us hl => match us, hl with | [_, _], _ => rfl
  have F14 := fun_mk (st := s__law_number) l14 c14 k14
  have b14 := F14.binds (ps := ["d", "n"]) fun _ _ _ _ _ _ us hl => match us, hl with | [_, _], _ => rfl
  have F15 := fun_mk (st := s__law_add) l15 c15 k15
  have b15 := F15.binds (ps := ["d", "x", "y"]) fun _ _ _ _ _ _ us hl => match us, hl with | [_, _, _], _ => rfl
  have F16 := fun_mk (st := s__law_multiply) l16 c16 k16
  have b16 := F16.binds (ps := ["d", "x", "y"]) fun _ _ _ _ _ _ us hl => match us, hl with | [_, _, _], _ => rfl
  have F17 := fun_mk (st := s__law_power) l17 c17 k17
  have b17 := F17.binds (ps := ["d", "x", "k"]) fun _ _ _ _ _ _ us hl => match us, hl with | [_, _, _], _ => rfl
  have F18 := fun_mk (st := s__law_some_prime) l18 c18 k18
  have b18 := F18.binds (ps := ["c"]) fun _ _ _ _ _ _ us hl => match us, hl with | [_], _ => rfl
  have F19 := fun_mk (st := s__law_field) l19 c19 k19
  have b19 := F19.binds (ps := ["c"]) fun _ _ _ _ _ _ us hl => match us, hl with | [_], _ => rfl
  have F20 := fun_mk (st := s__law_domain) l20 c20 k20
  have b20 := F20.binds (ps := ["c"]) fun _ _ _ _ _ _ us hl => match us, hl with | [_], _ => rfl
  have F21 := fun_mk (st := s__law_small) l21 c21 k21
  have b21 := F21.binds (ps := ["c", "d"]) fun _ _ _ _ _ _ us hl => match us, hl with | [_, _], _ => rfl
  have F22 := fun_mk (st := s_common) l22 c22 k22
  have b22 := F22.binds (ps := ["a", "b"]) fun _ _ _ _ _ _ us hl => match us, hl with | [_, _], _ => rfl
  have F23 := fun_mk (st := s_is_prime) l23 c23 k23
  have b23 := F23.binds (ps := ["n"]) fun _ _ _ _ _ _ us hl => match us, hl with | [_], _ => rfl
  have F24 := fun_mk (st := s_is_integer) l24 c24 k24
  have b24 := F24.binds (ps := ["x"]) fun _ _ _ _ _ _ us hl => match us, hl with | [_], _ => rfl
  have F25 := fun_mk (st := s_is_field) l25 c25 k25
  have b25 := F25.binds (ps := ["d"]) fun _ _ _ _ _ _ us hl => match us, hl with | [_], _ => rfl
  have F26 := fun_mk (st := s_need_field) l26 c26 k26
  have b26 := F26.binds (ps := ["d"]) fun _ _ _ _ _ _ us hl => match us, hl with | [_], _ => rfl
  have F27 := fun_mk (st := s_inverse) l27 c27 k27
  have b27 := F27.binds (ps := ["f", "x"]) fun _ _ _ _ _ _ us hl => match us, hl with | [_, _], _ => rfl
  have F28 := fun_mk (st := s_is_domain) l28 c28 k28
  have b28 := F28.binds (ps := ["d"]) fun _ _ _ _ _ _ us hl => match us, hl with | [_], _ => rfl
  have F29 := fun_mk (st := s__law_inverse) l29 c29 k29
  have b29 := F29.binds (ps := ["f", "x"]) fun _ _ _ _ _ _ us hl => match us, hl with | [_, _], _ => rfl
  have F30 := fun_mk (st := s__law_matrix) l30 c30 k30
  have b30 := F30.binds (ps := ["c", "d", "m", "n"]) fun _ _ _ _ _ _ us hl => match us, hl with | [_, _, _, _], _ => rfl
  have F31 := fun_mk (st := s__law_shape) l31 c31 k31
  have b31 := F31.binds (ps := ["c"]) fun _ _ _ _ _ _ us hl => match us, hl with | [_], _ => rfl
  have F32 := fun_mk (st := s_quotient) l32 c32 k32
  have b32 := F32.binds (ps := ["f", "x", "y"]) fun _ _ _ _ _ _ us hl => match us, hl with | [_, _, _], _ => rfl
  have F33 := fun_mk (st := s_may_change) l33 c33 k33
  have b33 := F33.binds (ps := ["d", "e"]) fun _ _ _ _ _ _ us hl => match us, hl with | [_, _], _ => rfl
  have F34 := fun_mk (st := s_changed) l34 c34 k34
  have b34 := F34.binds (ps := ["d", "e", "x"]) fun _ _ _ _ _ _ us hl => match us, hl with | [_, _, _], _ => rfl
  have F35 := fun_mk (st := s_change) l35 c35 k35
  have b35 := F35.binds (ps := ["d", "e", "a"]) fun _ _ _ _ _ _ us hl => match us, hl with | [_, _, _], _ => rfl
  have F36 := fun_mk (st := s__law_changed) l36 c36 k36
  have b36 := F36.binds (ps := ["d", "e", "x"]) fun _ _ _ _ _ _ us hl => match us, hl with | [_, _, _], _ => rfl
  have F37 := fun_mk (st := s__law_told) l37 c37 k37
  have b37 := F37.binds (ps := ["d", "e", "a"]) fun _ _ _ _ _ _ us hl => match us, hl with | [_, _, _], _ => rfl
  have F38 := fun_mk (st := s_law) l38 c38 k38
  have b38 := F38.binds (ps := ["script"]) fun _ _ _ _ _ _ us hl => match us, hl with | [_], _ => rfl
  have F39 := fun_mk (st := s__law_part) l39 c39 k39
  have b39 := F39.binds (ps := ["d", "x", "k"]) fun _ _ _ _ _ _ us hl => match us, hl with | [_, _, _], _ => rfl
  refine ⟨PySem.W.fnOf "law" "law" (defArgs s_law) (defBody s_law) (defScope s_law) .none kV38 dc38 pm38 an38 cd38 ct38, fun s v => .of_eq rfl, fun base _ _ sb => ?_⟩
  have xo : XOk K mg xns (xvl [(.face, .ref e0), (.dom, .ref e1), (.sing, .ref e2)]) := ⟨fun n hn => match n, hn with | .face, _ => xc_of X G xg0 xge0 xgk0 xgb0 xgt0 xgf0 xgg0 xgh0 xgi0 xgm0 xgc1 xgc2 | .dom, _ => xc_of X G xg1 xge1 xgk1 xgb1 xgt1 xgf1 xgg1 xgh1 xgi1 xgm1 xgc1 xgc2 | .sing, _ => xc_of X G xg2 xge2 xgk2 xgb2 xgt2 xgf2 xgg2 xgh2 xgi2 xgm2 xgc1 xgc2 | .shape, h => absurd h (by decide) | .text, h => absurd h (by decide), fun n hn m hm => match n, hn, m, hm with | .face, _, .face, _ => PySem.W.exm_ref xgb0 xgh0 xgt0 xgx0_0 | .face, _, .dom, _ => PySem.W.exm_ref xgb1 xgh1 xgt1 xgx1_0 | .face, _, .sing, _ => PySem.W.exm_ref xgb2 xgh2 xgt2 xgx2_0 | .dom, _, .face, _ => PySem.W.exm_ref xgb0 xgh0 xgt0 xgx0_1 | .dom, _, .dom, _ => PySem.W.exm_ref xgb1 xgh1 xgt1 xgx1_1 | .dom, _, .sing, _ => PySem.W.exm_ref xgb2 xgh2 xgt2 xgx2_1 | .sing, _, .face, _ => PySem.W.exm_ref xgb0 xgh0 xgt0 xgx0_2 | .sing, _, .dom, _ => PySem.W.exm_ref xgb1 xgh1 xgt1 xgx1_2 | .sing, _, .sing, _ => PySem.W.exm_ref xgb2 xgh2 xgt2 xgx2_2 | .shape, h, _, _ => absurd h (by decide) | .text, h, _, _ => absurd h (by decide) | _, _, .shape, h => absurd h (by decide) | _, _, .text, h => absurd h (by decide), fun n hn m hm => match n, hn, m, hm with | .face, _, .face, _ => kit_own xgx0_0 xgx0_0 xgh0 xgt0 | .face, _, .dom, _ => kit_own xgx1_1 xgx1_0 xgh1 xgt1 | .face, _, .sing, _ => kit_own xgx2_2 xgx2_0 xgh2 xgt2 | .dom, _, .face, _ => kit_own xgx0_0 xgx0_1 xgh0 xgt0 | .dom, _, .dom, _ => kit_own xgx1_1 xgx1_1 xgh1 xgt1 | .dom, _, .sing, _ => kit_own xgx2_2 xgx2_1 xgh2 xgt2 | .sing, _, .face, _ => kit_own xgx0_0 xgx0_2 xgh0 xgt0 | .sing, _, .dom, _ => kit_own xgx1_1 xgx1_2 xgh1 xgt1 | .sing, _, .sing, _ => kit_own xgx2_2 xgx2_2 xgh2 xgt2 | .shape, h, _, _ => absurd h (by decide) | .text, h, _, _ => absurd h (by decide) | _, _, .shape, h => absurd h (by decide) | _, _, .text, h => absurd h (by decide), fun n hn => match n, hn with | .face, _ => kit_ve xgv0 | .dom, _ => kit_ve xgv1 | .sing, _ => kit_ve xgv2 | .shape, h => absurd h (by decide) | .text, h => absurd h (by decide)⟩
  have C_start : Cal l.prog w K mg base 1 "_law_start" (a_start) := cal_mk F0 (fn_abs (k := 0) (a := a_start) (wB := w__law_start) F0 sc__law_start len_start (fun cdv A outer s H E hr => j__law_start hr (PySem.W.mg_none_of X G z0)) p_start) (PySem.W.mg_of X G a0) b0
  have C_fill : Cal l.prog w K mg base 1 "_law_fill" (a_fill) := cal_mk F1 (fn_abs (k := 0) (a := a_fill) (wB := w__law_fill) F1 sc__law_fill len_fill (fun cdv A outer s H E hr => j__law_fill hr (PySem.W.mg_none_of X G z1) (PySem.W.mg_none_of X G z0)) p_fill) (PySem.W.mg_of X G a1) b1
  have C_take : Cal l.prog w K mg base 2 "_law_take" (a_take) := cal_mk F2 (fn_abs (k := 1) (a := a_take) (wB := w__law_take (a_fill)) F2 sc__law_take len_take (fun cdv A outer s H E hr => j__law_take hr (PySem.W.mg_none_of X G z0) (C_fill.mono (by decide))) p_take) (PySem.W.mg_of X G a2) b2
  have C_divisor : Cal l.prog w K mg base 1 "divisor" (a_gcd) := cal_mk F3 (fn_abs (k := 0) (a := a_gcd) (wB := w_divisor) F3 sc_divisor len_divisor (fun cdv A outer s H E hr => j_divisor hr (PySem.W.mg_none_of X G z2)) p_divisor) (PySem.W.mg_of X G a3) b3
  have C_fraction : Cal l.prog w K mg base 34 "fraction" (a_fr) := cal_mk F4 (fn_abs (k := 33) (a := a_fr) (wB := w_fraction (a_gcd)) F4 sc_fraction len_fraction (fun cdv A outer s H E hr => j_fraction hr (C_divisor.mono (by decide)) sb tr (by decide)) p_fraction) (PySem.W.mg_of X G a4) b4
  have C_zero : Cal l.prog w K mg base 1 "zero" (a_zero) := cal_mk F5 (fn_abs (k := 0) (a := a_zero) (wB := w_zero) F5 sc_zero len_zero (fun cdv A outer s H E hr => j_zero hr ) p_zero) (PySem.W.mg_of X G a5) b5
  have C_trimmed : Cal l.prog w K mg base 2 "trimmed" (a_trim) := cal_mk F6 (fn_abs (k := 1) (a := a_trim) (wB := w_trimmed (a_zero)) F6 sc_trimmed len_trimmed (fun cdv A outer s H E hr => j_trimmed hr (PySem.W.mg_none_of X G z1) (PySem.W.mg_none_of X G z3) (C_zero.mono (by decide))) p_trimmed) (PySem.W.mg_of X G a6) b6
  have C_int0 : Cal l.prog w K mg base 1 "from_integer" (a_int0) := cal_mk F7 (fn_abs (k := 0) (a := a_int0) (wB := w_from_integer (aspNo) (aspNo)) F7 sc_from_integer len_int0 (fun cdv A outer s H E hr => j_from_integer hr ((cal_no F6 (PySem.W.mg_of X G a6) b6).mono (by decide)) ((cal_no F7 (PySem.W.mg_of X G a7) b7).mono (by decide))) p_int0) (PySem.W.mg_of X G a7) b7
  have C_from_integer : Cal l.prog w K mg base 3 "from_integer" (a_int) := cal_mk F7 (fn_abs (k := 2) (a := a_int) (wB := w_from_integer (a_trim) (a_int0)) F7 sc_from_integer len_from_integer (fun cdv A outer s H E hr => j_from_integer hr (C_trimmed.mono (by decide)) (C_int0.mono (by decide))) p_from_integer) (PySem.W.mg_of X G a7) b7
  have C_add0 : Cal l.prog w K mg base 35 "add" (a_add0) := cal_mk F8 (fn_abs (k := 34) (a := a_add0) (wB := w_add (a_fr) (aspNo) (aspNo)) F8 sc_add len_add0 (fun cdv A outer s H E hr => j_add hr (PySem.W.mg_none_of X G z1) (PySem.W.mg_none_of X G z4) (PySem.W.mg_none_of X G z5) (C_fraction.mono (by decide)) ((cal_no F8 (PySem.W.mg_of X G a8) b8).mono (by decide)) ((cal_no F6 (PySem.W.mg_of X G a6) b6).mono (by decide))) p_add0) (PySem.W.mg_of X G a8) b8
  have C_mul0 : Cal l.prog w K mg base 35 "multiply" (a_mul0) := cal_mk F9 (fn_abs (k := 34) (a := a_mul0) (wB := w_multiply (a_fr) (aspNo) (aspNo) (aspNo) (aspNo)) F9 sc_multiply len_mul0 (fun cdv A outer s H E hr => j_multiply hr (PySem.W.mg_none_of X G z1) (PySem.W.mg_none_of X G z6) (PySem.W.mg_none_of X G z5) (C_fraction.mono (by decide)) ((cal_no F5 (PySem.W.mg_of X G a5) b5).mono (by decide)) ((cal_no F8 (PySem.W.mg_of X G a8) b8).mono (by decide)) ((cal_no F9 (PySem.W.mg_of X G a9) b9).mono (by decide)) ((cal_no F6 (PySem.W.mg_of X G a6) b6).mono (by decide))) p_mul0) (PySem.W.mg_of X G a9) b9
  have C_multiply : Cal l.prog w K mg base 36 "multiply" (a_mul) := cal_mk F9 (fn_abs (k := 35) (a := a_mul) (wB := w_multiply (a_fr) (a_zero) (a_add0) (a_mul0) (a_trim)) F9 sc_multiply len_multiply (fun cdv A outer s H E hr => j_multiply hr (PySem.W.mg_none_of X G z1) (PySem.W.mg_none_of X G z6) (PySem.W.mg_none_of X G z5) (C_fraction.mono (by decide)) (C_zero.mono (by decide)) (C_add0.mono (by decide)) (C_mul0.mono (by decide)) (C_trimmed.mono (by decide))) p_multiply) (PySem.W.mg_of X G a9) b9
  have C_lcommon : Cal l.prog w K mg base 1 "_law_common" (a_gcd) := cal_mk F10 (fn_abs (k := 0) (a := a_gcd) (wB := w__law_common) F10 sc__law_common len_lcommon (fun cdv A outer s H E hr => j__law_common hr (PySem.W.mg_none_of X G z2) (PySem.W.mg_none_of X G z0)) p_lcommon) (PySem.W.mg_of X G a10) b10
  have C_lfraction : Cal l.prog w K mg base 34 "_law_fraction" (a_fr) := cal_mk F11 (fn_abs (k := 33) (a := a_fr) (wB := w__law_fraction (a_gcd)) F11 sc__law_fraction len_lfraction (fun cdv A outer s H E hr => j__law_fraction hr (C_lcommon.mono (by decide)) sb tr (by decide)) p_lfraction) (PySem.W.mg_of X G a11) b11
  have C_lzero : Cal l.prog w K mg base 1 "_law_zero" (a_zero) := cal_mk F12 (fn_abs (k := 0) (a := a_zero) (wB := w__law_zero) F12 sc__law_zero len_lzero (fun cdv A outer s H E hr => j__law_zero hr ) p_lzero) (PySem.W.mg_of X G a12) b12
  have C_strip : Cal l.prog w K mg base 2 "_law_strip" (a_trim) := cal_mk F13 (fn_abs (k := 1) (a := a_trim) (wB := w__law_strip (a_zero)) F13 sc__law_strip len_strip (fun cdv A outer s H E hr => j__law_strip hr (PySem.W.mg_none_of X G z1) (PySem.W.mg_none_of X G z3) (C_lzero.mono (by decide))) p_strip) (PySem.W.mg_of X G a13) b13
  have C_lint0 : Cal l.prog w K mg base 1 "_law_number" (a_int0) := cal_mk F14 (fn_abs (k := 0) (a := a_int0) (wB := w__law_number (aspNo) (aspNo)) F14 sc__law_number len_lint0 (fun cdv A outer s H E hr => j__law_number hr (PySem.W.mg_none_of X G z0) ((cal_no F13 (PySem.W.mg_of X G a13) b13).mono (by decide)) ((cal_no F14 (PySem.W.mg_of X G a14) b14).mono (by decide))) p_lint0) (PySem.W.mg_of X G a14) b14
  have C_lint : Cal l.prog w K mg base 3 "_law_number" (a_int) := cal_mk F14 (fn_abs (k := 2) (a := a_int) (wB := w__law_number (a_trim) (a_int0)) F14 sc__law_number len_lint (fun cdv A outer s H E hr => j__law_number hr (PySem.W.mg_none_of X G z0) (C_strip.mono (by decide)) (C_lint0.mono (by decide))) p_lint) (PySem.W.mg_of X G a14) b14
  have C_ladd0 : Cal l.prog w K mg base 35 "_law_add" (a_add0) := cal_mk F15 (fn_abs (k := 34) (a := a_add0) (wB := w__law_add (a_fr) (aspNo) (aspNo) (aspNo)) F15 sc__law_add len_ladd0 (fun cdv A outer s H E hr => j__law_add hr (PySem.W.mg_none_of X G z0) (PySem.W.mg_none_of X G z7) (PySem.W.mg_none_of X G z1) (PySem.W.mg_none_of X G z6) (C_lfraction.mono (by decide)) ((cal_no F13 (PySem.W.mg_of X G a13) b13).mono (by decide)) ((cal_no F15 (PySem.W.mg_of X G a15) b15).mono (by decide)) ((cal_no F39 (PySem.W.mg_of X G a39) b39).mono (by decide))) p_ladd0) (PySem.W.mg_of X G a15) b15
  have C_lmul0 : Cal l.prog w K mg base 35 "_law_multiply" (a_mul0) := cal_mk F16 (fn_abs (k := 34) (a := a_mul0) (wB := w__law_multiply (a_fr) (aspNo) (aspNo) (aspNo) (aspNo)) F16 sc__law_multiply len_lmul0 (fun cdv A outer s H E hr => j__law_multiply hr (PySem.W.mg_none_of X G z0) (PySem.W.mg_none_of X G z1) (PySem.W.mg_none_of X G z6) (C_lfraction.mono (by decide)) ((cal_no F12 (PySem.W.mg_of X G a12) b12).mono (by decide)) ((cal_no F15 (PySem.W.mg_of X G a15) b15).mono (by decide)) ((cal_no F16 (PySem.W.mg_of X G a16) b16).mono (by decide)) ((cal_no F13 (PySem.W.mg_of X G a13) b13).mono (by decide))) p_lmul0) (PySem.W.mg_of X G a16) b16
  have C_lmul : Cal l.prog w K mg base 36 "_law_multiply" (a_mul) := cal_mk F16 (fn_abs (k := 35) (a := a_mul) (wB := w__law_multiply (a_fr) (a_zero) (a_add0) (a_mul0) (a_trim)) F16 sc__law_multiply len_lmul (fun cdv A outer s H E hr => j__law_multiply hr (PySem.W.mg_none_of X G z0) (PySem.W.mg_none_of X G z1) (PySem.W.mg_none_of X G z6) (C_lfraction.mono (by decide)) (C_lzero.mono (by decide)) (C_ladd0.mono (by decide)) (C_lmul0.mono (by decide)) (C_strip.mono (by decide))) p_lmul) (PySem.W.mg_of X G a16) b16
  have C_lpower : Cal l.prog w K mg base 37 "_law_power" (a_power) := cal_mk F17 (fn_abs (k := 36) (a := a_power) (wB := w__law_power (a_int) (a_mul)) F17 sc__law_power len_lpower (fun cdv A outer s H E hr => j__law_power hr (PySem.W.mg_none_of X G z0) (C_lint.mono (by decide)) (C_lmul.mono (by decide))) p_lpower) (PySem.W.mg_of X G a17) b17
  have C_some_prime : Cal l.prog w K mg base 3 "_law_some_prime" (a_sprime) := cal_mk F18 (fn_abs (k := 2) (a := a_sprime) (wB := w__law_some_prime (a_take)) F18 sc__law_some_prime len_some_prime (fun cdv A outer s H E hr => j__law_some_prime hr (PySem.W.mg_none_of X G z8) (PySem.W.mg_none_of X G z6) (PySem.W.mg_none_of X G z0) (C_take.mono (by decide))) p_some_prime) (PySem.W.mg_of X G a18) b18
  have C_field : Cal l.prog w K mg base 4 "_law_field" (a_field) := cal_mk F19 (fn_abs (k := 3) (a := a_field) (wB := w__law_field (a_take) (a_sprime)) F19 sc__law_field len_field (fun cdv A outer s H E hr => j__law_field hr (C_take.mono (by decide)) (C_some_prime.mono (by decide))) p_field) (PySem.W.mg_of X G a19) b19
  have C_domain : Cal l.prog w K mg base 5 "_law_domain" (a_domain) := cal_mk F20 (fn_abs (k := 4) (a := a_domain) (wB := w__law_domain (a_take) (a_field)) F20 sc__law_domain len_domain (fun cdv A outer s H E hr => j__law_domain hr (C_take.mono (by decide)) (C_field.mono (by decide))) p_domain) (PySem.W.mg_of X G a20) b20
  have C_small : Cal l.prog w K mg base 35 "_law_small" (a_small) := cal_mk F21 (fn_abs (k := 34) (a := a_small) (wB := w__law_small (a_take) (a_fr) (aspNo) (aspNo)) F21 sc__law_small len_small (fun cdv A outer s H E hr => j__law_small hr (PySem.W.mg_none_of X G z0) (PySem.W.mg_none_of X G z6) (C_take.mono (by decide)) (C_lfraction.mono (by decide)) ((cal_no F13 (PySem.W.mg_of X G a13) b13).mono (by decide)) ((cal_no F21 (PySem.W.mg_of X G a21) b21).mono (by decide))) p_small) (PySem.W.mg_of X G a21) b21
  have C_smalld : Cal l.prog w K mg base 36 "_law_small" (a_smalld) := cal_mk F21 (fn_abs (k := 35) (a := a_smalld) (wB := w__law_small (a_take) (a_fr) (a_trim) (a_small)) F21 sc__law_small len_smalld (fun cdv A outer s H E hr => j__law_small hr (PySem.W.mg_none_of X G z0) (PySem.W.mg_none_of X G z6) (C_take.mono (by decide)) (C_lfraction.mono (by decide)) (C_strip.mono (by decide)) (C_small.mono (by decide))) p_smalld) (PySem.W.mg_of X G a21) b21
  have C_common : Cal l.prog w K mg base 34 "common" (a_common) := cal_mk F22 (fn_abs (k := 33) (a := a_common) (wB := w_common) F22 sc_common len_common (fun cdv A outer s H E hr => j_common hr (PySem.W.mg_none_of X G z2) sb tr (by decide)) p_common) (PySem.W.mg_of X G a22) b22
  have C_is_prime : Cal l.prog w K mg base 1 "is_prime" (a_isp) := cal_mk F23 (fn_abs (k := 0) (a := a_isp) (wB := w_is_prime) F23 sc_is_prime len_is_prime (fun cdv A outer s H E hr => j_is_prime hr ) p_is_prime) (PySem.W.mg_of X G a23) b23
  have C_is_integer : Cal l.prog w K mg base 1 "is_integer" (a_isint) := cal_mk F24 (fn_abs (k := 0) (a := a_isint) (wB := w_is_integer) F24 sc_is_integer len_is_integer (fun cdv A outer s H E hr => j_is_integer hr (PySem.W.mg_none_of X G z9) (PySem.W.mg_none_of X G z0) (PySem.W.mg_none_of X G z10)) p_is_integer) (PySem.W.mg_of X G a24) b24
  have C_is_field : Cal l.prog w K mg base 2 "is_field" (a_isfield) := cal_mk F25 (fn_abs (k := 1) (a := a_isfield) (wB := w_is_field (a_isint) (a_isp)) F25 sc_is_field len_is_field (fun cdv A outer s H E hr => j_is_field hr (PySem.W.mg_none_of X G z9) (PySem.W.mg_none_of X G z3) (PySem.W.mg_none_of X G z1) (PySem.W.mg_none_of X G z11) (PySem.W.mg_of X G y0) (C_is_integer.mono (by decide)) (C_is_prime.mono (by decide))) p_is_field) (PySem.W.mg_of X G a25) b25
  have C_need_field : Cal l.prog w K mg base 3 "need_field" ((a_needf (xvl [(.face, .ref e0), (.dom, .ref e1), (.sing, .ref e2)]))) := cal_mk F26 (fn_abs (k := 2) (a := (a_needf (xvl [(.face, .ref e0), (.dom, .ref e1), (.sing, .ref e2)]))) (wB := w_need_field (xvl [(.face, .ref e0), (.dom, .ref e1), (.sing, .ref e2)]) (a_isfield)) F26 sc_need_field len_need_field (fun cdv A outer s H E hr => j_need_field hr (C_is_field.mono (by decide)) xo) p_need_field) (PySem.W.mg_of X G a26) b26
  have C_inverse : Cal l.prog w K mg base 35 "inverse" ((a_inverse (xvl [(.face, .ref e0), (.dom, .ref e1), (.sing, .ref e2)]))) := cal_mk F27 (fn_abs (k := 34) (a := (a_inverse (xvl [(.face, .ref e0), (.dom, .ref e1), (.sing, .ref e2)]))) (wB := w_inverse (xvl [(.face, .ref e0), (.dom, .ref e1), (.sing, .ref e2)]) ((a_needf (xvl [(.face, .ref e0), (.dom, .ref e1), (.sing, .ref e2)]))) (a_zero) (a_fr) (a_common)) F27 sc_inverse len_inverse (fun cdv A outer s H E hr => j_inverse hr (C_need_field.mono (by decide)) (C_zero.mono (by decide)) (C_fraction.mono (by decide)) (C_common.mono (by decide)) xo) p_inverse) (PySem.W.mg_of X G a27) b27
  have C_is_domain : Cal l.prog w K mg base 3 "is_domain" (a_isdomain) := cal_mk F28 (fn_abs (k := 2) (a := a_isdomain) (wB := w_is_domain (a_isfield)) F28 sc_is_domain len_is_domain (fun cdv A outer s H E hr => j_is_domain hr (PySem.W.mg_none_of X G z9) (PySem.W.mg_none_of X G z3) (PySem.W.mg_none_of X G z1) (PySem.W.mg_none_of X G z11) (C_is_field.mono (by decide))) p_is_domain) (PySem.W.mg_of X G a28) b28
  have C_linverse : Cal l.prog w K mg base 38 "_law_inverse" (a_linv) := cal_mk F29 (fn_abs (k := 37) (a := a_linv) (wB := w__law_inverse (a_fr) (a_power)) F29 sc__law_inverse len_linverse (fun cdv A outer s H E hr => j__law_inverse hr (C_lfraction.mono (by decide)) (C_lpower.mono (by decide))) p_linverse) (PySem.W.mg_of X G a29) b29
  have C_lmatrix : Cal l.prog w K mg base 37 "_law_matrix" (a_lmatrix) := cal_mk F30 (fn_abs (k := 36) (a := a_lmatrix) (wB := w__law_matrix (a_smalld)) F30 sc__law_matrix len_lmatrix (fun cdv A outer s H E hr => j__law_matrix hr (PySem.W.mg_none_of X G z3) (PySem.W.mg_none_of X G z6) (C_smalld.mono (by decide))) p_lmatrix) (PySem.W.mg_of X G a30) b30
  have C_shape : Cal l.prog w K mg base 3 "_law_shape" (a_shape) := cal_mk F31 (fn_abs (k := 2) (a := a_shape) (wB := w__law_shape (a_take)) F31 sc__law_shape len_shape (fun cdv A outer s H E hr => j__law_shape hr (C_take.mono (by decide))) p_shape) (PySem.W.mg_of X G a31) b31
  have C_quotient : Cal l.prog w K mg base 37 "quotient" ((a_quotient (xvl [(.face, .ref e0), (.dom, .ref e1), (.sing, .ref e2)]))) := cal_mk F32 (fn_abs (k := 36) (a := (a_quotient (xvl [(.face, .ref e0), (.dom, .ref e1), (.sing, .ref e2)]))) (wB := w_quotient (a_mul) ((a_inverse (xvl [(.face, .ref e0), (.dom, .ref e1), (.sing, .ref e2)])))) F32 sc_quotient len_quotient (fun cdv A outer s H E hr => j_quotient hr (C_multiply.mono (by decide)) (C_inverse.mono (by decide))) p_quotient) (PySem.W.mg_of X G a32) b32
  have C_maych23 : Cal l.prog w K mg base 3 "may_change" (a_maych23) := cal_mk F33 (fn_abs (k := 2) (a := a_maych23) (wB := w_may_change (a_isfield)) F33 sc_may_change len_maych23 (fun cdv A outer s H E hr => j_may_change hr (C_is_field.mono (by decide))) p_maych23) (PySem.W.mg_of X G a33) b33
  have C_changed23 : Cal l.prog w K mg base 38 "changed" ((a_changed23 (xvl [(.face, .ref e0), (.dom, .ref e1), (.sing, .ref e2)]))) := cal_mk F34 (fn_abs (k := 37) (a := (a_changed23 (xvl [(.face, .ref e0), (.dom, .ref e1), (.sing, .ref e2)]))) (wB := w_changed (xvl [(.face, .ref e0), (.dom, .ref e1), (.sing, .ref e2)]) (a_isfield) (a_int) ((a_quotient (xvl [(.face, .ref e0), (.dom, .ref e1), (.sing, .ref e2)]))) (a_trim)) F34 sc_changed len_changed23 (fun cdv A outer s H E hr => j_changed hr (C_is_field.mono (by decide)) (C_from_integer.mono (by decide)) (C_quotient.mono (by decide)) (C_trimmed.mono (by decide)) xo) p_changed23) (PySem.W.mg_of X G a34) b34
  have C_change23 : Cal l.prog w K mg base 39 "change" ((a_change23 (xvl [(.face, .ref e0), (.dom, .ref e1), (.sing, .ref e2)]))) := cal_mk F35 (fn_abs (k := 38) (a := (a_change23 (xvl [(.face, .ref e0), (.dom, .ref e1), (.sing, .ref e2)]))) (wB := w_change (xvl [(.face, .ref e0), (.dom, .ref e1), (.sing, .ref e2)]) (a_isdomain) (a_maych23) ((a_changed23 (xvl [(.face, .ref e0), (.dom, .ref e1), (.sing, .ref e2)])))) F35 sc_change len_change23 (fun cdv A outer s H E hr => j_change hr (PySem.W.mg_none_of X G z3) (C_is_domain.mono (by decide)) (C_maych23.mono (by decide)) (C_changed23.mono (by decide)) xo) p_change23) (PySem.W.mg_of X G a35) b35
  have C_lchanged23 : Cal l.prog w K mg base 39 "_law_changed" (a_lchanged23) := cal_mk F36 (fn_abs (k := 38) (a := a_lchanged23) (wB := w__law_changed (a_int) (a_mul) (a_linv) (a_trim)) F36 sc__law_changed len_lchanged23 (fun cdv A outer s H E hr => j__law_changed hr (PySem.W.mg_none_of X G z0) (C_lint.mono (by decide)) (C_lmul.mono (by decide)) (C_linverse.mono (by decide)) (C_strip.mono (by decide))) p_lchanged23) (PySem.W.mg_of X G a36) b36
  have C_told23 : Cal l.prog w K mg base 40 "_law_told" (a_told23) := cal_mk F37 (fn_abs (k := 39) (a := a_told23) (wB := w__law_told (xvl [(.face, .ref e0), (.dom, .ref e1), (.sing, .ref e2)]) ((a_change23 (xvl [(.face, .ref e0), (.dom, .ref e1), (.sing, .ref e2)])))) F37 sc__law_told len_told23 (fun cdv A outer s H E hr => j__law_told hr (C_change23.mono (by decide)) xo) p_told23) (PySem.W.mg_of X G a37) b37
  exact fn_abs (k := 40) (a := aspLaw) (wB := w_law (a_start) (a_domain) (a_take) (a_lmatrix) (a_shape) (a_told23) (a_lchanged23)) F38 sc_law len_law (fun cdv A outer s H E hr => j_law hr (PySem.W.mg_none_of X G z3) (C_start.mono (by decide)) (C_domain.mono (by decide)) (C_take.mono (by decide)) (C_lmatrix.mono (by decide)) (C_shape.mono (by decide)) (C_told23.mono (by decide)) (C_lchanged23.mono (by decide))) p_law
end My
open PySem PySem.W PyProof.Rows
set_option maxRecDepth 100000 in
set_option maxHeartbeats 0 in
theorem PySem.Challenge.cw_facetlore_k23_changes_of_domain_holds : PySem.Challenge.rw_facetlore_k23_changes_of_domain.Holds := by
  w_on; o_law; k_head; (case hw => w_witness2)
  k_fill
  refine AW.walk_see (l := PySem.Challenge.rw_facetlore_k23_changes_of_domain) (n := 63) (k := 41) (x := "script") (sp := fun w => AW.spOf _ AW.aspLaw) rfl (by decide) rfl ⟨rfl, by decide, by decide⟩ (by decide +kernel) (fun w h Y => PySem.W.kIn_of Y) ?F (fun w H a ns hl _ hS => AW.law_sp _ H a ns hl hS)
  case F =>
    intro w mg fa h KX G hmg
    refine' My.all_mk KX G hmg rfl ?a0 ?l0 ?c0 ?k0 ?a1 ?l1 ?c1 ?k1 ?a2 ?l2 ?c2 ?k2 ?a3 ?l3 ?c3 ?k3 ?a4 ?l4 ?c4 ?k4 ?a5 ?l5 ?c5 ?k5 ?a6 ?l6 ?c6 ?k6 ?a7 ?l7 ?c7 ?k7 ?a8 ?l8 ?c8 ?k8 ?a9 ?l9 ?c9 ?k9 ?a10 ?l10 ?c10 ?k10 ?a11 ?l11 ?c11 ?k11 ?a12 ?l12 ?c12 ?k12 ?a13 ?l13 ?c13 ?k13 ?a14 ?l14 ?c14 ?k14 ?a15 ?l15 ?c15 ?k15 ?a16 ?l16 ?c16 ?k16 ?a17 ?l17 ?c17 ?k17 ?a18 ?l18 ?c18 ?k18 ?a19 ?l19 ?c19 ?k19 ?a20 ?l20 ?c20 ?k20 ?a21 ?l21 ?c21 ?k21 ?a22 ?l22 ?c22 ?k22 ?a23 ?l23 ?c23 ?k23 ?a24 ?l24 ?c24 ?k24 ?a25 ?l25 ?c25 ?k25 ?a26 ?l26 ?c26 ?k26 ?a27 ?l27 ?c27 ?k27 ?a28 ?l28 ?c28 ?k28 ?a29 ?l29 ?c29 ?k29 ?a30 ?l30 ?c30 ?k30 ?a31 ?l31 ?c31 ?k31 ?a32 ?l32 ?c32 ?k32 ?a33 ?l33 ?c33 ?k33 ?a34 ?l34 ?c34 ?k34 ?a35 ?l35 ?c35 ?k35 ?a36 ?l36 ?c36 ?k36 ?a37 ?l37 ?c37 ?k37 ?a38 ?l38 ?c38 ?k38 ?a39 ?l39 ?c39 ?k39 ?z0 ?z1 ?z2 ?z3 ?z4 ?z5 ?z6 ?z7 ?z8 ?z9 ?z10 ?z11 ?y0 ?xg0 ?xge0 ?xgk0 ?xgb0 ?xgt0 ?xgf0 ?xgg0 ?xgh0 ?xgi0 ?xgm0 ?xgv0 ?xgx0_0 ?xgx1_0 ?xgx2_0 ?xg1 ?xge1 ?xgk1 ?xgb1 ?xgt1 ?xgf1 ?xgg1 ?xgh1 ?xgi1 ?xgm1 ?xgv1 ?xgx0_1 ?xgx1_1 ?xgx2_1 ?xg2 ?xge2 ?xgk2 ?xgb2 ?xgt2 ?xgf2 ?xgg2 ?xgh2 ?xgi2 ?xgm2 ?xgv2 ?xgx0_2 ?xgx1_2 ?xgx2_2 ?xgc1 ?xgc2
    (case xg0 => k_is); (case xg1 => k_is); (case xg2 => k_is); (case a0 => k_is); (case l0 => k_is); (case c0 => k_is); (case k0 => k_is); (case a1 => k_is); (case l1 => k_is); (case c1 => k_is); (case k1 => k_is); (case a2 => k_is); (case l2 => k_is); (case c2 => k_is); (case k2 => k_is); (case a3 => k_is); (case l3 => k_is); (case c3 => k_is); (case k3 => k_is); (case a4 => k_is); (case l4 => k_is); (case c4 => k_is); (case k4 => k_is); (case a5 => k_is); (case l5 => k_is); (case c5 => k_is); (case k5 => k_is); (case a6 => k_is); (case l6 => k_is); (case c6 => k_is); (case k6 => k_is); (case a7 => k_is); (case l7 => k_is); (case c7 => k_is); (case k7 => k_is); (case a8 => k_is); (case l8 => k_is); (case c8 => k_is); (case k8 => k_is); (case a9 => k_is); (case l9 => k_is); (case c9 => k_is); (case k9 => k_is); (case a10 => k_is); (case l10 => k_is); (case c10 => k_is); (case k10 => k_is); (case a11 => k_is); (case l11 => k_is); (case c11 => k_is); (case k11 => k_is); (case a12 => k_is); (case l12 => k_is); (case c12 => k_is); (case k12 => k_is); (case a13 => k_is); (case l13 => k_is); (case c13 => k_is); (case k13 => k_is); (case a14 => k_is); (case l14 => k_is); (case c14 => k_is); (case k14 => k_is); (case a15 => k_is); (case l15 => k_is); (case c15 => k_is); (case k15 => k_is); (case a16 => k_is); (case l16 => k_is); (case c16 => k_is); (case k16 => k_is); (case a17 => k_is); (case l17 => k_is); (case c17 => k_is); (case k17 => k_is); (case a18 => k_is); (case l18 => k_is); (case c18 => k_is); (case k18 => k_is); (case a19 => k_is); (case l19 => k_is); (case c19 => k_is); (case k19 => k_is); (case a20 => k_is); (case l20 => k_is); (case c20 => k_is); (case k20 => k_is); (case a21 => k_is); (case l21 => k_is); (case c21 => k_is); (case k21 => k_is); (case a22 => k_is); (case l22 => k_is); (case c22 => k_is); (case k22 => k_is); (case a23 => k_is); (case l23 => k_is); (case c23 => k_is); (case k23 => k_is); (case a24 => k_is); (case l24 => k_is); (case c24 => k_is); (case k24 => k_is); (case a25 => k_is); (case l25 => k_is); (case c25 => k_is); (case k25 => k_is); (case a26 => k_is); (case l26 => k_is); (case c26 => k_is); (case k26 => k_is); (case a27 => k_is); (case l27 => k_is); (case c27 => k_is); (case k27 => k_is); (case a28 => k_is); (case l28 => k_is); (case c28 => k_is); (case k28 => k_is); (case a29 => k_is); (case l29 => k_is); (case c29 => k_is); (case k29 => k_is); (case a30 => k_is); (case l30 => k_is); (case c30 => k_is); (case k30 => k_is); (case a31 => k_is); (case l31 => k_is); (case c31 => k_is); (case k31 => k_is); (case a32 => k_is); (case l32 => k_is); (case c32 => k_is); (case k32 => k_is); (case a33 => k_is); (case l33 => k_is); (case c33 => k_is); (case k33 => k_is); (case a34 => k_is); (case l34 => k_is); (case c34 => k_is); (case k34 => k_is); (case a35 => k_is); (case l35 => k_is); (case c35 => k_is); (case k35 => k_is); (case a36 => k_is); (case l36 => k_is); (case c36 => k_is); (case k36 => k_is); (case a37 => k_is); (case l37 => k_is); (case c37 => k_is); (case k37 => k_is); (case a38 => k_is); (case l38 => k_is); (case c38 => k_is); (case k38 => k_is); (case a39 => k_is); (case l39 => k_is); (case c39 => k_is); (case k39 => k_is); (case z0 => k_is); (case z1 => k_is); (case z2 => k_is); (case z3 => k_is); (case z4 => k_is); (case z5 => k_is); (case z6 => k_is); (case z7 => k_is); (case z8 => k_is); (case z9 => k_is); (case z10 => k_is); (case z11 => k_is); (case y0 => k_is); (case xge0 => k_exc); (case xgk0 => k_is); (case xgb0 => k_is); (case xgt0 => k_is); (case xgf0 => k_is); (case xgg0 => k_is); (case xgh0 => k_is); (case xgi0 => k_is); (case xgm0 => k_is); (case xgv0 => k_is); (case xgx0_0 => k_is); (case xgx1_0 => k_is); (case xgx2_0 => k_is); (case xge1 => k_exc); (case xgk1 => k_is); (case xgb1 => k_is); (case xgt1 => k_is); (case xgf1 => k_is); (case xgg1 => k_is); (case xgh1 => k_is); (case xgi1 => k_is); (case xgm1 => k_is); (case xgv1 => k_is); (case xgx0_1 => k_is); (case xgx1_1 => k_is); (case xgx2_1 => k_is); (case xge2 => k_exc); (case xgk2 => k_is); (case xgb2 => k_is); (case xgt2 => k_is); (case xgf2 => k_is); (case xgg2 => k_is); (case xgh2 => k_is); (case xgi2 => k_is); (case xgm2 => k_is); (case xgv2 => k_is); (case xgx0_2 => k_is); (case xgx1_2 => k_is); (case xgx2_2 => k_is); (case xgc1 => k_is); (case xgc2 => k_is)
