import PyProof.Rows.All
import Wide.All
import OpenK.AllK
import Wide.FinOn
import Lean
import PySem.Challenge.RW_pb0170_01
set_option Elab.async false
set_option maxRecDepth 100000
set_option compiler.extract_closed false
namespace Mine
open PySem PySem.W PySem.Calls PyProof.Rows

abbrev Kn := Addr → Option Obj
abbrev Mu := List (Addr × Obj)
def Le (G G' : Kn) : Prop := ∀ a o, G a = some o → G' a = some o
theorem Le.rfl' {G : Kn} : Le G G := fun _ _ e => e
theorem Le.trans {G G' G'' : Kn} (x : Le G G') (y : Le G' G'') : Le G G'' := fun a o e => y a o (x a o e)
abbrev upd (m : Str → Option Value) (x : Str) (v : Value) : Str → Option Value := fun y => if y = x then some v else m y
abbrev lo (vs : List Value) (n : Nat) : Obj := { cls := .type "list", data := .seq vs.toArray n }

/-- what a walk leans on: a world's rest, and what is pinned out of sight -/
structure Pin where
  sh : Shared
  z : Kn
abbrev Pin.heap (B : Pin) : Heap := B.sh.heap

/-- What a frame knows: its names, what stands still (G), what it may turn (mu). -/
structure Cx (B : Pin) (L : Addr) (G : Kn) (m : Str → Option Value) (mu : Mu) (s : Shared) : Prop where
  ns : s.heap.Ns L m
  offL : G L = none
  know : ∀ a o, G a = some o → s.heap.get? a = some o
  mvs : ∀ p ∈ mu, s.heap.get? p.1 = some p.2 ∧ G p.1 = none ∧ p.1 ≠ L ∧ B.z p.1 = none
  nd : (mu.map (·.1)).Nodup
  bG : ∀ a o, B.heap.get? a = some o → G a = some o
  gens : s.gens = B.sh.gens
  drawn : s.drawn = B.sh.drawn
  os : s.os = B.sh.os
  ab : B.heap.objs.size ≤ L
  pin : ∀ a o, B.z a = some o → s.heap.get? a = some o
  zL : B.z L = none
  zG : ∀ a o, B.z a = some o → G a = none

section
variable {B : Pin} {L a : Addr} {G : Kn} {m : Str → Option Value} {mu : Mu} {s : Shared} {o : Obj}

theorem Cx.toks (C : Cx B L G m mu s) (n : Nat) : Cx B L G m mu { s with toks := n } :=
  ⟨C.ns, C.offL, C.know, C.mvs, C.nd, C.bG, C.gens, C.drawn, C.os, C.ab, C.pin, C.zL, C.zG⟩

theorem Cx.keeps (C : Cx B L G m mu s) {h' : Heap} {n : Nat} (k : ∀ b o, s.heap.get? b = some o → h'.get? b = some o) : Cx B L G m mu { s with heap := h', toks := n } :=
  ⟨C.ns.keeps k, C.offL, fun a o e => k _ _ (C.know a o e), fun p hp => ⟨k _ _ (C.mvs p hp).1, (C.mvs p hp).2⟩, C.nd, C.bG, C.gens, C.drawn, C.os, C.ab, fun a o e => k _ _ (C.pin a o e), C.zL, C.zG⟩

theorem Cx.getM (C : Cx B L G m mu s) {i : Nat} {a : Addr} {o : Obj} (h : mu[i]? = some (a, o)) : s.heap.get? a = some o :=
  (C.mvs (a, o) (List.mem_of_getElem? h)).1
theorem Cx.getL (C : Cx B L G m mu s) {a : Addr} {o : Obj} (h : (a, o) ∈ mu) : s.heap.get? a = some o := (C.mvs (a, o) h).1

theorem Cx.ltL (C : Cx B L G m mu s) : L < s.heap.objs.size := let ⟨_, _, _, h, _⟩ := C.ns; Heap.lt_size h

/-- a name stored -/
theorem Cx.stored (C : Cx B L G m mu s) {h' : Heap} {m' : Str → Option Value} {n : Nat} (hn : h'.Ns L m') (hs : Heap.SameBut L s.heap h') : Cx B L G m' mu { s with heap := h', toks := n } :=
  ⟨hn, C.offL, fun a o e => (hs.2 a (fun h => by rw [h, C.offL] at e; cases e)).trans (C.know a o e),
    fun p hp => ⟨(hs.2 _ (C.mvs p hp).2.2.1).trans (C.mvs p hp).1, (C.mvs p hp).2⟩, C.nd, C.bG, C.gens, C.drawn, C.os, C.ab,
    fun a o e => (hs.2 a (fun h => by rw [h, C.zL] at e; cases e)).trans (C.pin a o e), C.zL, C.zG⟩

theorem map_fst_set {mu : Mu} {i : Nat} {a : Addr} {o o' : Obj} (h : mu[i]? = some (a, o)) : (mu.set i (a, o')).map (·.1) = mu.map (·.1) := by
  rw [List.map_set]
  apply List.ext_getElem?
  intro k
  rw [List.getElem?_set]
  split
  · rename_i hk; subst hk
    split
    · rw [List.getElem?_map, h]; rfl
    · rename_i hlt
      rw [List.getElem?_eq_none (by omega)]
  · rfl

theorem nodup_at {mu : Mu} (hn : (mu.map (·.1)).Nodup) {i j : Nat} {p q : Addr × Obj} (hi : mu[i]? = some p) (hj : mu[j]? = some q) (e : p.1 = q.1) : i = j := by
  have h1 : (mu.map (·.1))[i]? = some p.1 := by rw [List.getElem?_map, hi]; rfl
  have h2 : (mu.map (·.1))[j]? = some p.1 := by rw [List.getElem?_map, hj, e]; rfl
  have hlt : i < (mu.map (·.1)).length := by
    rcases Nat.lt_or_ge i (mu.map (·.1)).length with h | h
    · exact h
    · rw [List.getElem?_eq_none h] at h1; cases h1
  exact (List.getElem?_inj hlt hn).mp (h1.trans h2.symm)

/-- an object of the frame's own turned -/
theorem Cx.turned (C : Cx B L G m mu s) {i : Nat} {a : Addr} {o o' : Obj} (hi : mu[i]? = some (a, o)) {h' : Heap} {n : Nat} (hs : Heap.SameBut a s.heap h') (ho : h'.get? a = some o') :
    Cx B L G m (mu.set i (a, o')) { s with heap := h', toks := n } := by
  have hm := C.mvs _ (List.mem_of_getElem? hi)
  refine ⟨C.ns.sameBut hs hm.2.2.1.symm, C.offL, fun b ob e => (hs.2 b (fun h => by rw [h, hm.2.1] at e; cases e)).trans (C.know b ob e), fun p hp => ?_, by rw [map_fst_set hi]; exact C.nd, C.bG, C.gens, C.drawn, C.os, C.ab,
    fun b ob e => (hs.2 b (fun h => by rw [h, hm.2.2.2] at e; cases e)).trans (C.pin b ob e), C.zL, C.zG⟩
  obtain ⟨k, hk⟩ := List.mem_iff_getElem?.mp hp
  rw [List.getElem?_set] at hk
  split at hk
  · split at hk
    · cases hk; exact ⟨ho, hm.2⟩
    · cases hk
  · rename_i hne
    have hpm := C.mvs p (List.mem_of_getElem? hk)
    refine ⟨(hs.2 _ fun h => hne ?_).trans hpm.1, hpm.2⟩
    exact nodup_at C.nd hi hk h.symm

/-- a new object that may be turned -/
theorem Cx.made (C : Cx B L G m mu s) {a : Addr} {o : Obj} {h' : Heap} {n : Nat} (ha : s.heap.get? a = none) (k : ∀ b o, s.heap.get? b = some o → h'.get? b = some o) (ho : h'.get? a = some o) :
    Cx B L G m ((a, o) :: mu) { s with heap := h', toks := n } := by
  have C' := C.keeps (n := n) k
  refine ⟨C'.ns, C'.offL, C'.know, fun p hp => ?_, ?_, C'.bG, C'.gens, C'.drawn, C'.os, C'.ab, C'.pin, C'.zL, C'.zG⟩
  · rcases List.mem_cons.mp hp with rfl | hp
    · refine ⟨ho, ?_, fun h => ?_, ?_⟩
      · cases q : G a with
        | none => rfl
        | some o' => rw [C.know _ _ q] at ha; cases ha
      · obtain ⟨oL, _, _, hL, _⟩ := C.ns
        have h' : a = L := h
        rw [h', hL] at ha; cases ha
      · cases q : B.z a with
        | none => rfl
        | some o' => rw [C.pin _ _ q] at ha; cases ha
    · exact C'.mvs p hp
  · refine List.nodup_cons.mpr ⟨fun hm => ?_, C.nd⟩
    obtain ⟨p, hp, e⟩ := List.mem_map.mp hm
    have e' : p.1 = a := e
    rw [← e', (C.mvs p hp).1] at ha; cases ha

/-- from now on it stands still -/
theorem Cx.freeze (C : Cx B L G m mu s) {i : Nat} {a : Addr} {o : Obj} (hi : mu[i]? = some (a, o)) :
    ∃ G', Le G G' ∧ G' a = some o ∧ Cx B L G' m (mu.eraseIdx i) s := by
  have hm := C.mvs _ (List.mem_of_getElem? hi)
  have hle : Le G (fun b => if b = a then some o else G b) := fun b ob e => by
    by_cases h : b = a
    · rw [h, hm.2.1] at e; cases e
    · simpa [h] using e
  refine ⟨fun b => if b = a then some o else G b, hle, by simp, C.ns, ?_, fun b ob e => ?_, fun p hp => ?_, ?_, fun b ob e => hle _ _ (C.bG b ob e), C.gens, C.drawn, C.os, C.ab, C.pin, C.zL, fun b ob e => ?_⟩
  · have : L ≠ a := hm.2.2.1.symm
    simpa [this] using C.offL
  · by_cases h : b = a
    · simp only [h, if_true] at e
      cases e; rw [h]; exact hm.1
    · simp only [h, if_false] at e; exact C.know _ _ e
  · have hp' := C.mvs p (List.mem_of_mem_eraseIdx hp)
    refine ⟨hp'.1, ?_, hp'.2.2⟩
    have hne : p.1 ≠ a := fun h => by
      obtain ⟨k, hk⟩ := List.mem_iff_getElem?.mp hp
      rw [List.getElem?_eraseIdx] at hk
      split at hk
      · rename_i hlt
        have := nodup_at C.nd hi hk h.symm; omega
      · rename_i hlt
        have := nodup_at C.nd hi hk h.symm; omega
    simp only [hne, if_false]; exact hp'.2.1
  · exact C.nd.sublist ((List.eraseIdx_sublist mu i).map _)
  · have hne : b ≠ a := fun h => by rw [h, hm.2.2.2] at e; cases e
    simp only [hne, if_false]; exact C.zG _ _ e

/-- pinned out of sight, and taken back -/
def Pin.add (B : Pin) (a : Addr) (o : Obj) : Pin := ⟨B.sh, fun b => if b = a then some o else B.z b⟩
theorem Cx.hide (C : Cx B L G m mu s) {i : Nat} {a : Addr} {o : Obj} (hi : mu[i]? = some (a, o)) : Cx (B.add a o) L G m (mu.eraseIdx i) s := by
  have hm := C.mvs _ (List.mem_of_getElem? hi)
  refine ⟨C.ns, C.offL, C.know, fun p hp => ?_, C.nd.sublist ((List.eraseIdx_sublist mu i).map _), C.bG, C.gens, C.drawn, C.os, C.ab, fun b ob e => ?_, ?_, fun b ob e => ?_⟩
  · have hp' := C.mvs p (List.mem_of_mem_eraseIdx hp)
    have hne : p.1 ≠ a := fun h => by
      obtain ⟨k, hk⟩ := List.mem_iff_getElem?.mp hp
      rw [List.getElem?_eraseIdx] at hk
      split at hk
      · rename_i hlt
        have := nodup_at C.nd hi hk h.symm; omega
      · rename_i hlt
        have := nodup_at C.nd hi hk h.symm; omega
    refine ⟨hp'.1, hp'.2.1, hp'.2.2.1, ?_⟩
    simp only [Pin.add, hne, if_false]; exact hp'.2.2.2
  · simp only [Pin.add] at e
    by_cases h : b = a
    · simp only [h, if_true] at e; cases e; rw [h]; exact hm.1
    · simp only [h, if_false] at e; exact C.pin _ _ e
  · have hne : L ≠ a := hm.2.2.1.symm
    simp only [Pin.add, hne, if_false]; exact C.zL
  · simp only [Pin.add] at e
    by_cases h : b = a
    · rw [h]; exact hm.2.1
    · simp only [h, if_false] at e; exact C.zG _ _ e
/-- what is pinned is known -/
theorem Cx.add_get (C : Cx (B.add a o) L G m mu s) : s.heap.get? a = some o := C.pin a o (by simp [Pin.add])
theorem Cx.show' {a : Addr} {o : Obj} (C : Cx (B.add a o) L G m mu s) (hz : B.z a = none) : Cx B L G m ((a, o) :: mu) s := by
  have hpin : ∀ b ob, B.z b = some ob → (B.add a o).z b = some ob := fun b ob e => by
    have hne : b ≠ a := fun h => by rw [h, hz] at e; cases e
    simp only [Pin.add, hne, if_false]; exact e
  have hza : (B.add a o).z a = some o := by simp [Pin.add]
  refine ⟨C.ns, C.offL, C.know, fun p hp => ?_, ?_, C.bG, C.gens, C.drawn, C.os, C.ab, fun b ob e => C.pin _ _ (hpin _ _ e), ?_, fun b ob e => C.zG _ _ (hpin _ _ e)⟩
  · rcases List.mem_cons.mp hp with rfl | hp
    · refine ⟨C.pin _ _ hza, C.zG _ _ hza, fun h => ?_, hz⟩
      have h1 := C.zL
      have h2 : a = L := h
      rw [← h2, hza] at h1; cases h1
    · have hm := C.mvs p hp
      refine ⟨hm.1, hm.2.1, hm.2.2.1, ?_⟩
      cases q : B.z p.1 with
      | none => rfl
      | some ob => have := hm.2.2.2; rw [hpin _ _ q] at this; cases this
  · refine List.nodup_cons.mpr ⟨fun hm => ?_, C.nd⟩
    obtain ⟨p, hp, e⟩ := List.mem_map.mp hm
    have e' : p.1 = a := e
    have := (C.mvs p hp).2.2.2
    rw [e', hza] at this; cases this
  · cases q : B.z L with
    | none => rfl
    | some ob => have := C.zL; rw [hpin _ _ q] at this; cases this

/-- forget what may be turned -/
theorem Cx.drop (C : Cx B L G m mu s) {mu' : Mu} (h : mu'.Sublist mu) : Cx B L G m mu' s :=
  ⟨C.ns, C.offL, C.know, fun p hp => C.mvs p (h.subset hp), C.nd.sublist (h.map _), C.bG, C.gens, C.drawn, C.os, C.ab, C.pin, C.zL, C.zG⟩
theorem Cx.perm (C : Cx B L G m mu s) {mu' : Mu} (h : mu'.Perm mu) : Cx B L G m mu' s :=
  ⟨C.ns, C.offL, C.know, fun p hp => C.mvs p (h.subset hp), (h.map _).nodup_iff.mpr C.nd, C.bG, C.gens, C.drawn, C.os, C.ab, C.pin, C.zL, C.zG⟩
theorem Cx.map (C : Cx B L G m mu s) {m' : Str → Option Value} (h : m = m') : Cx B L G m' mu s := h ▸ C

/-- all that stands in the heap, as the library's ledger -/
def alln (B : Pin) (s : Shared) (L : Addr) : List (Addr × Obj) :=
  (List.range s.heap.objs.size).filterMap fun a => if a = L then none else match B.heap.get? a with
    | some _ => none
    | none => (s.heap.get? a).map fun o => (a, o)
theorem mem_alln {a : Addr} {o : Obj} : (a, o) ∈ alln B s L ↔ s.heap.get? a = some o ∧ a ≠ L ∧ B.heap.get? a = none := by
  unfold alln
  rw [List.mem_filterMap]
  constructor
  · rintro ⟨b, _, hb⟩
    split at hb
    · cases hb
    · rename_i hne
      split at hb
      · cases hb
      · rename_i hB
        obtain ⟨o', h1, h2⟩ := Option.map_eq_some_iff.mp hb
        cases h2
        exact ⟨h1, hne, hB⟩
  · rintro ⟨h1, h2, h3⟩
    refine ⟨a, List.mem_range.mpr (Heap.lt_size h1), ?_⟩
    rw [if_neg h2, h3, h1]; rfl
theorem Cx.fr (C : Cx B L G m mu s) : Fr B.heap L s.heap m := ⟨C.ns, fun b o e => C.know _ _ (C.bG b o e), C.ab⟩
theorem Cx.news (_C : Cx B L G m mu s) : News B.heap L s.heap (alln B s L) := fun p hp => by
  obtain ⟨a, o⟩ := p
  exact mem_alln.mp hp
theorem Cx.stay (C : Cx B L G m mu s) {h' : Heap} {m' : Str → Option Value} {news : List (Addr × Obj)} (F : Fr B.heap L h' m') (N : News B.heap L h' news) (hn : ∀ p ∈ alln B s L, p ∈ news) :
    ∀ b o, b ≠ L → s.heap.get? b = some o → h'.get? b = some o := fun b o hb e => by
  cases q : B.heap.get? b with
  | some o' =>
    have h1 := C.know _ _ (C.bG _ _ q)
    rw [e] at h1; cases h1
    exact F.keep _ _ q
  | none => exact (N (b, o) (hn _ (mem_alln.mpr ⟨e, hb, q⟩))).1
/-- the library's own rule has walked -/
theorem Cx.of (C : Cx B L G m mu s) {h' : Heap} {m' : Str → Option Value} {news : List (Addr × Obj)} {n : Nat} (F : Fr B.heap L h' m') (N : News B.heap L h' news) (hn : ∀ p ∈ alln B s L, p ∈ news) :
    Cx B L G m' mu { s with heap := h', toks := n } := by
  have st := C.stay F N hn
  exact ⟨F.ns, C.offL, fun a o e => st _ _ (fun h => by rw [h, C.offL] at e; cases e) (C.know _ _ e), fun p hp => ⟨st _ _ (C.mvs p hp).2.2.1 (C.mvs p hp).1, (C.mvs p hp).2⟩, C.nd, C.bG, C.gens, C.drawn, C.os, C.ab,
    fun a o e => st _ _ (fun h => by rw [h, C.zL] at e; cases e) (C.pin _ _ e), C.zL, C.zG⟩
/-- and has made an object -/
theorem Cx.of1 (C : Cx B L G m mu s) {h' : Heap} {m' : Str → Option Value} {news : List (Addr × Obj)} {D : Addr} {o : Obj} {n : Nat} (F : Fr B.heap L h' m') (N : News B.heap L h' ((D, o) :: news)) (hn : ∀ p ∈ alln B s L, p ∈ news)
    (hD : ∀ q ∈ alln B s L, q.1 < D) : Cx B L G m' ((D, o) :: mu) { s with heap := h', toks := n } := by
  have C' := C.of (n := n) F N (fun p hp => List.mem_cons_of_mem _ (hn p hp))
  have hd := N (D, o) (.head _)
  have off : s.heap.get? D = none := by
    cases q : s.heap.get? D with
    | none => rfl
    | some o' => exact absurd (hD (D, o') (mem_alln.mpr ⟨q, hd.2.1, hd.2.2⟩)) (Nat.lt_irrefl _)
  refine ⟨C'.ns, C'.offL, C'.know, fun p hp => ?_, ?_, C'.bG, C'.gens, C'.drawn, C'.os, C'.ab, C'.pin, C'.zL, C'.zG⟩
  · rcases List.mem_cons.mp hp with rfl | hp
    · refine ⟨hd.1, ?_, hd.2.1, ?_⟩
      · cases q : G D with
        | none => rfl
        | some o' => rw [C.know _ _ q] at off; cases off
      · cases q : B.z D with
        | none => rfl
        | some o' => rw [C.pin _ _ q] at off; cases off
    · exact C'.mvs p hp
  · refine List.nodup_cons.mpr ⟨fun hm => ?_, C.nd⟩
    obtain ⟨p, hp, e⟩ := List.mem_map.mp hm
    have e' : p.1 = D := e
    rw [← e', (C.mvs p hp).1] at off; cases off

/-- what a call that turns nothing of ours leaves -/
structure Ext (s s' : Shared) : Prop where
  keep : ∀ b o, s.heap.get? b = some o → s'.heap.get? b = some o
  gens : s'.gens = s.gens
  drawn : s'.drawn = s.drawn
  os : s'.os = s.os
theorem Ext.rfl' : Ext s s := ⟨fun _ _ e => e, rfl, rfl, rfl⟩
theorem Ext.trans {s₁ s₂ : Shared} (x : Ext s s₁) (y : Ext s₁ s₂) : Ext s s₂ := ⟨fun b o e => y.keep _ _ (x.keep _ _ e), y.gens.trans x.gens, y.drawn.trans x.drawn, y.os.trans x.os⟩
theorem Ext.eq {s' : Shared} (x : Ext s s') : s' = { s with heap := s'.heap, toks := s'.toks } := by
  obtain ⟨h, g, d, t, os⟩ := s'
  have h1 := x.gens; have h2 := x.drawn; have h3 := x.os
  simp only at h1 h2 h3
  subst h1 h2 h3
  rfl
theorem Cx.ext (C : Cx B L G m mu s) {s' : Shared} (x : Ext s s') : Cx B L G m mu s' := by
  rw [x.eq]; exact C.keeps x.keep
theorem Cx.extNew (C : Cx B L G m mu s) {s' : Shared} (x : Ext s s') {a : Addr} {o : Obj} (ha : s.heap.get? a = none) (ho : s'.heap.get? a = some o) : Cx B L G m ((a, o) :: mu) s' := by
  rw [x.eq]; exact C.made ha x.keep ho
end
end Mine
namespace Mine
open PySem PySem.W PySem.Calls PyProof.Rows

def isI (v : Value) (k : Int) : Prop := ∃ t, v = .int k t
def isB (v : Value) (b : Bool) : Prop := v = .bool b
def isR (v : Value) (a : Addr) : Prop := v = .ref a
/-- o is a list whose items are the xs -/
def OV {α : Type} (R : Value → α → Prop) (o : Obj) (xs : List α) : Prop := ∃ vs n, o = lo vs n ∧ Paired R vs xs
abbrev OI := OV isI
abbrev OB := OV isB
abbrev OR := OV isR

section
variable {α β : Type} {R : β → α → Prop}
theorem pr_app {vs us : List β} {xs ys : List α} (h : Paired R vs xs) (h' : Paired R us ys) : Paired R (vs ++ us) (xs ++ ys) := by
  induction h with
  | nil => exact h'
  | cons a _ ih => exact .cons a ih
theorem pr_at {vs : List β} {xs : List α} (h : Paired R vs xs) : ∀ {i : Nat} {x : α}, xs[i]? = some x → ∃ v, vs[i]? = some v ∧ R v x := by
  induction h with
  | nil => intro i x e; simp at e
  | cons a _ ih =>
    intro i x e
    cases i with
    | zero => simp at e; subst e; exact ⟨_, rfl, a⟩
    | succ i => simp at e; obtain ⟨v, h1, h2⟩ := ih e; exact ⟨v, by simpa using h1, h2⟩
theorem pr_atv {vs : List β} {xs : List α} (h : Paired R vs xs) : ∀ {i : Nat} {v : β}, vs[i]? = some v → ∃ x, xs[i]? = some x ∧ R v x := by
  induction h with
  | nil => intro i x e; simp at e
  | cons a _ ih =>
    intro i x e
    cases i with
    | zero => simp at e; subst e; exact ⟨_, rfl, a⟩
    | succ i => simp at e; obtain ⟨v, h1, h2⟩ := ih e; exact ⟨v, by simpa using h1, h2⟩
theorem pr_set {vs : List β} {xs : List α} {v : β} {x : α} (h : Paired R vs xs) (hv : R v x) : ∀ (i : Nat), Paired R (vs.set i v) (xs.set i x) := by
  induction h with
  | nil => intro i; exact .nil
  | cons a h ih =>
    intro i
    cases i with
    | zero => exact .cons hv h
    | succ i => exact .cons a (ih i)
theorem pr_takes {vs : List β} {xs : List α} (h : Paired R vs xs) : ∀ (i : Nat), Paired R (vs.take i) (xs.take i) := by
  induction h with
  | nil => intro i; simp; exact .nil
  | cons a h ih =>
    intro i
    cases i with
    | zero => exact .nil
    | succ i => exact .cons a (ih i)
theorem pr_drops {vs : List β} {xs : List α} (h : Paired R vs xs) : ∀ (i : Nat), Paired R (vs.drop i) (xs.drop i) := by
  induction h with
  | nil => intro i; simp; exact .nil
  | cons a h ih =>
    intro i
    cases i with
    | zero => exact .cons a h
    | succ i => exact ih i
theorem pr_rep {v : β} {x : α} (hv : R v x) : ∀ n, Paired R (List.replicate n v) (List.replicate n x)
  | 0 => .nil
  | n + 1 => .cons hv (pr_rep hv n)
theorem pr_ints {vs : List Value} {ns : List Int} (h : Paired isI vs ns) : IntsAre vs ns := by
  induction h with
  | nil => exact .nil
  | cons a _ ih => obtain ⟨t, rfl⟩ := a; exact .cons _ t ih
theorem pr_ofInts {vs : List Value} {ns : List Int} (h : IntsAre vs ns) : Paired isI vs ns := by
  induction h with
  | nil => exact .nil
  | cons n t _ ih => exact .cons ⟨t, rfl⟩ ih
end

section
variable {prog : Program} {w : World} {A : Around} {E : Value → Shared → Prop} {B : Pin} {L : Addr} {G : Kn} {m : Str → Option Value} {mu : Mu} {s : Shared} {env : Env}

/-! names -/
theorem r_loc {x : Str} {pos : Pos} {v : Value} {Q : Value → Shared → Prop} (C : Cx B env.locals G m mu s) (hk : env.scope.kind = .function) (hx : env.kindOf x = some .local) (hv : m x = some v) (h : Q v s)
    (hd : (x == ("__debug__" : Str)) = false := by decide) : wpAny (model prog w) A (eval (.Name x pos) env) Q E s :=
  wpAny_Name (wpAny_loadName_local hk hx C.ns hv h) hd
theorem r_free {x : Str} {pos : Pos} {v : Value} {c : Addr} {o : Obj} {Q : Value → Shared → Prop} (hk : env.scope.kind = .function) (hx : env.kindOf x = some .free ∨ env.kindOf x = some .cell)
    (hc : env.cells.lookup x = some c) (ho : s.heap.get? c = some o) (hd : o.data = .cell (some v)) (h : Q v s) (hn : (x == ("__classdict__" : Str)) = false := by decide)
    (hd' : (x == ("__debug__" : Str)) = false := by decide) : wpAny (model prog w) A (eval (.Name x pos) env) Q E s := by
  rcases hx with hx | hx
  · exact wpAny_Name (wpAny_loadName_free hk hx hc ⟨o, ho, hd⟩ h hn) hd'
  · exact wpAny_Name (wpAny_loadName_cell hk hx hc ⟨o, ho, hd⟩ h) hd'
theorem r_glob {x : Str} {pos : Pos} {v : Value} {mg : Str → Option Value} {Q : Value → Shared → Prop} (C : Cx B env.locals G m mu s) (hg : B.heap.Ns mainGlobals mg) (he : env.globals = mainGlobals)
    (hk : env.scope.kind = .function) (hx : env.kindOf x = some .globalImplicit) (hv : mg x = some v) (h : Q v s) (hd : (x == ("__debug__" : Str)) = false := by decide) :
    wpAny (model prog w) A (eval (.Name x pos) env) Q E s :=
  Name_function_global hk hx (loadGlobal_global (he ▸ hg.keeps C.fr.keep) hv h) hd
theorem r_blt {x : Str} {pos : Pos} {v : Value} {mg mb : Str → Option Value} {Q : Value → Shared → Prop} (C : Cx B env.locals G m mu s) (hg : B.heap.Ns mainGlobals mg) (hb : B.heap.Ns builtinsNs mb) (he : env.globals = mainGlobals)
    (he' : env.builtins = builtinsNs) (hk : env.scope.kind = .function) (hx : env.kindOf x = some .globalImplicit) (hn : mg x = none) (hv : mb x = some v) (h : Q v s) (hd : (x == ("__debug__" : Str)) = false := by decide) :
    wpAny (model prog w) A (eval (.Name x pos) env) Q E s :=
  Name_function_global hk hx (loadGlobal_builtin (he ▸ hg.keeps C.fr.keep) hn (he' ▸ hb.keeps C.fr.keep) hv h) hd
theorem r_store {x : Str} {v : Value} {Q : Unit → Shared → Prop} (C : Cx B env.locals G m mu s) (hk : env.scope.kind = .function) (hx : env.kindOf x = some .local)
    (h : ∀ s', Cx B env.locals G (upd m x v) mu s' → Q () s') : wpAny (model prog w) A (storeName env x v) Q E s :=
  wpAny_storeName_local hx C.ns (fun _ hn hs => h _ (C.stored hn hs)) (by rw [hk]; rfl)
/-- a cell is stored into, once: from then on it stands still -/
theorem r_storeC {x : Str} {v : Value} {c : Addr} {i : Nat} {o : Obj} {v₀ : Option Value} {Q : Unit → Shared → Prop} (C : Cx B env.locals G m mu s) (hk : env.scope.kind = .function) (hx : env.kindOf x = some .cell)
    (hc : env.cells.lookup x = some c) (hi : mu[i]? = some (c, o)) (ho : o.data = .cell v₀)
    (h : ∀ s' G' o', Le G G' → G' c = some o' → o'.data = .cell (some v) → Cx B env.locals G' m (mu.eraseIdx i) s' → Q () s') : wpAny (model prog w) A (storeName env x v) Q E s := by
  refine wpAny_storeName_cell hk hx hc ⟨o, C.getM hi, ho⟩ fun h' hv hs => ?_
  obtain ⟨o', ho', hd'⟩ := hv
  have C' := C.turned (n := s.toks) hi hs ho'
  have hi' : (mu.set i (c, o'))[i]? = some (c, o') := by
    rw [List.getElem?_set_self]; 
    rcases Nat.lt_or_ge i mu.length with q | q
    · exact q
    · rw [List.getElem?_eq_none q] at hi; cases hi
  obtain ⟨G', hle, hG, C''⟩ := C'.freeze hi'
  have e : (mu.set i (c, o')).eraseIdx i = mu.eraseIdx i := by
    rw [List.eraseIdx_set_eq]
  exact h _ G' o' hle hG hd' (e ▸ C'')

/-! constants -/
theorem r_int {i : Int} {k : Nat} {pos : Pos} {Q : Value → Shared → Prop} (C : Cx B L G m mu s) (h : ∀ t s', Cx B L G m mu s' → Q (.int i t) s') : wpAny (model prog w) A (eval (.Constant (.int i) k pos) env) Q E s :=
  wpAny_Constant_int (h _ _ (C.toks _))
theorem r_str {i : Str} {k : Nat} {pos : Pos} {Q : Value → Shared → Prop} (C : Cx B L G m mu s) (h : ∀ t s', Cx B L G m mu s' → Q (.str i t) s') : wpAny (model prog w) A (eval (.Constant (.str i) k pos) env) Q E s :=
  Constant_str (h _ _ (C.toks _))

/-! ints -/
section
variable {a b : Int} {t u : Tok} {Q : Value → Shared → Prop}
theorem r_add (C : Cx B L G m mu s) (h : ∀ t s', Cx B L G m mu s' → Q (.int (a + b) t) s') : wpAny (model prog w) A (binaryOp .Add (.int a t) (.int b u)) Q E s := PyProof.Rows.add_int (h _ _ (C.toks _))
theorem r_iadd (C : Cx B L G m mu s) (h : ∀ t s', Cx B L G m mu s' → Q (.int (a + b) t) s') : wpAny (model prog w) A (inplaceOp .Add (.int a t) (.int b u)) Q E s := PyProof.Rows.iadd_int (h _ _ (C.toks _))
theorem r_isub (C : Cx B L G m mu s) (h : ∀ t s', Cx B L G m mu s' → Q (.int (a - b) t) s') : wpAny (model prog w) A (inplaceOp .Sub (.int a t) (.int b u)) Q E s := PyProof.Rows.isub_int (h _ _ (C.toks _))
theorem r_mod (C : Cx B L G m mu s) (hb : b ≠ 0) (h : ∀ t s', Cx B L G m mu s' → Q (.int (a.fmod b) t) s') : wpAny (model prog w) A (binaryOp .Mod (.int a t) (.int b u)) Q E s := PyProof.Rows.mod_int hb (h _ _ (C.toks _))
theorem r_neg (C : Cx B L G m mu s) (h : ∀ t s', Cx B L G m mu s' → Q (.int (-a) t) s') : wpAny (model prog w) A (unaryOp .USub (.int a t)) Q E s := PyProof.Rows.neg_int (h _ _ (C.toks _))
theorem r_min2 (C : Cx B L G m mu s) (hh : A.handled = none) (h : ∀ t s', Cx B L G m mu s' → Q (.int (min a b) t) s') : wpAny (model prog w) A (call (.builtin "min") [.int a t, .int b u]) Q E s :=
  min_two_ints hh fun h' tk k => by
    by_cases c : b < a
    · rw [if_pos c]; have e : min a b = b := by omega
      rw [← e]; exact h _ _ (C.keeps k)
    · rw [if_neg c]; have e : min a b = a := by omega
      have := h t _ (C.keeps (n := tk) k)
      rw [e] at this; exact this
theorem r_max2 (C : Cx B L G m mu s) (hh : A.handled = none) (h : ∀ t s', Cx B L G m mu s' → Q (.int (max a b) t) s') : wpAny (model prog w) A (call (.builtin "max") [.int a t, .int b u]) Q E s :=
  max_two_ints hh fun h' tk k => by
    by_cases c : b > a
    · rw [if_pos c]; have e : max a b = b := by omega
      rw [← e]; exact h _ _ (C.keeps k)
    · rw [if_neg c]; have e : max a b = a := by omega
      have := h t _ (C.keeps (n := tk) k)
      rw [e] at this; exact this
end

/-! lists -/
section
variable {α : Type} {R : Value → α → Prop} {l : Addr} {o : Obj} {xs : List α} {Q : Value → Shared → Prop}
theorem isList_of (hl : s.heap.get? l = some o) {vs : List Value} {n : Nat} (e : o = lo vs n) : s.heap.IsList l vs.toArray := ⟨o, hl, by rw [e], n, by rw [e]⟩

theorem r_len (C : Cx B L G m mu s) (hl : s.heap.get? l = some o) (ho : OV R o xs) (hz : xs.length ≤ 1048576) (h : ∀ t s', Cx B L G m mu s' → Q (.int xs.length t) s') :
    wpAny (model prog w) A (call (.builtin "len") [.ref l]) Q E s := by
  obtain ⟨vs, n, e, p⟩ := ho
  have hlen := p.length
  refine call_len_list (isList_of hl e) (by simp; omega) ?_
  have := h (s.toks + 1) _ (C.toks (s.toks + 1 + 1))
  simpa [hlen] using this

theorem r_truthy (C : Cx B L G m mu s) (hl : s.heap.get? l = some o) (ho : OV R o xs) (hz : xs.length ≤ 1048576) {Q : Bool → Shared → Prop} (h : ∀ s', Cx B L G m mu s' → Q (!xs.isEmpty) s') :
    wpAny (model prog w) A (truthy (.ref l)) Q E s := by
  obtain ⟨vs, n, e, p⟩ := ho
  have hlen := p.length
  refine wpAny_truthy_list (isList_of hl e) (by simp; omega) ?_
  have := h _ (C.toks (s.toks + 1 + 1))
  have e2 : (!vs.toArray.isEmpty) = !xs.isEmpty := by
    cases vs <;> cases xs <;> simp_all
  rw [e2]; exact this

theorem r_getItem {k : Int} {t : Tok} {x : α} (hl : s.heap.get? l = some o) (ho : OV R o xs) (h0 : 0 ≤ k) (hx : xs[k.toNat]? = some x) (hz : xs.length ≤ 1048576) (h : ∀ v, R v x → Q v s) :
    wpAny (model prog w) A (getItem (.ref l) (.int k t)) Q E s := by
  obtain ⟨vs, n, e, p⟩ := ho
  obtain ⟨v, hv, hR⟩ := pr_at p hx
  have hlt : k.toNat < xs.length := by
    rcases Nat.lt_or_ge k.toNat xs.length with q | q
    · exact q
    · rw [List.getElem?_eq_none q] at hx; cases hx
  exact wpAny_getItem_list (isList_of hl e) h0 (by omega) (by simpa using hv) (h v hR)

theorem r_item {value slice : Expr} {k : Int} {t : Tok} {x : α} (hl : s.heap.get? l = some o) (ho : OV R o xs) (h0 : 0 ≤ k) (hx : xs[k.toNat]? = some x) (hz : xs.length ≤ 1048576) (h : ∀ v, R v x → Q v s)
    (hs : subscripted slice false (.ref l) (.int k t) = operate [.ref l, .int k t] (getItem (.ref l) (.int k t)) := by with_unfolding_all rfl) :
    wpAny (model prog w) A (subscriptTail value slice (.ref l) (.int k t)) Q E s := by
  obtain ⟨vs, n, e, p⟩ := id ho
  exact tail_any (isList_of hl e).typeIs slot_list_getitem.lookup (r_getItem hl ho h0 hx hz h) hs

theorem map_lo {f : Array Value → Array Value} {vs us : List Value} {n : Nat} (e : f vs.toArray = us.toArray) : ∃ n', Obj.mapSeq f (lo vs n) = lo us n' := by
  refine ⟨if (f vs.toArray).size == vs.toArray.size then n else n + 1, ?_⟩
  show ({ cls := .type "list", dict := none, data := .seq (f vs.toArray) (if (f vs.toArray).size == vs.toArray.size then n else n + 1), slots := #[] } : Obj) = _
  rw [e]

theorem r_setItem {i : Nat} {k : Int} {t : Tok} {v : Value} {x : α} {Q : Unit → Shared → Prop} (C : Cx B L G m mu s) (hi : mu[i]? = some (l, o)) (ho : OV R o xs) (hv : R v x) (h0 : 0 ≤ k) (hn : k.toNat < xs.length) (hz : xs.length ≤ 1048576)
    (h : ∀ o' s', OV R o' (xs.set k.toNat x) → Cx B L G m (mu.set i (l, o')) s' → Q () s') : wpAny (model prog w) A (setItem (.ref l) (.int k t) v) Q E s := by
  obtain ⟨vs, n, e, p⟩ := ho
  have hlen := p.length
  subst e
  have hg := Heap.get?_update_self (Obj.mapSeq fun ys => ys.setIfInBounds k.toNat v) (C.getM hi) rfl
  obtain ⟨n', e'⟩ := map_lo (f := fun ys => ys.setIfInBounds k.toNat v) (vs := vs) (us := vs.set k.toNat v) (n := n) (by simp)
  exact ki_setAt (C.getM hi) h0 (by omega) (by simp; omega) (h _ _ ⟨vs.set k.toNat v, n', e', pr_set p hv _⟩ (C.turned (n := s.toks) hi (Heap.SameBut.update ..) hg))

theorem r_append {i : Nat} {v : Value} {x : α} (C : Cx B L G m mu s) (hi : mu[i]? = some (l, o)) (ho : OV R o xs) (hv : R v x) (hz : xs.length ≤ 1048576)
    (h : ∀ o' s', OV R o' (xs ++ [x]) → Cx B L G m (mu.set i (l, o')) s' → Q .none s') : wpAny (model prog w) A (call (.builtin "list.append") [.ref l, v]) Q E s := by
  obtain ⟨vs, n, e, p⟩ := ho
  have hlen := p.length
  subst e
  refine append_at (C.getM hi) (fun h' hs hg => h _ _ ⟨vs ++ [v], n + 1, ?_, pr_app p (.cons hv .nil)⟩ (C.turned (n := s.toks) hi hs hg)) (by rw [sizeLine_eq]; simp; omega)
  simp

theorem r_pop {i : Nat} {x : α} {xs : List α} (C : Cx B L G m mu s) (hi : mu[i]? = some (l, o)) (ho : OV R o (xs ++ [x])) (hz : xs.length ≤ 1048576)
    (h : ∀ v o' s', R v x → OV R o' xs → Cx B L G m (mu.set i (l, o')) s' → Q v s') : wpAny (model prog w) A (call (.builtin "list.pop") [.ref l]) Q E s := by
  obtain ⟨vs, n, e, p⟩ := ho
  have hlen := p.length
  subst e
  obtain ⟨v, hv, hR⟩ := pr_at p (i := xs.length) (x := x) (by simp)
  have hlen' : vs.length = xs.length + 1 := by simpa using hlen
  have hg := Heap.get?_update_self (Obj.mapSeq fun ys => ys.eraseIdxIfInBounds (vs.toArray.size - 1)) (C.getM hi) rfl
  obtain ⟨n', e'⟩ := map_lo (f := fun ys => ys.eraseIdxIfInBounds (vs.toArray.size - 1)) (vs := vs) (us := vs.take xs.length) (n := n) (by
    have : vs.toArray.size - 1 = xs.length := by simp; omega
    rw [this]
    unfold Array.eraseIdxIfInBounds
    rw [dif_pos (by simp; omega)]
    apply Array.toList_inj.mp
    simp only [List.eraseIdx_toArray, ]
    rw [List.eraseIdx_eq_take_drop_succ]
    simp [List.drop_eq_nil_of_le (show vs.length ≤ xs.length + 1 by omega)])
  refine call_meets PySem.F.slot_list_pop ⟨_, C.getM hi, rfl⟩ PySem.F.entry_list_pop (PySem.F.args_list_pop_1 _) (MeetsSeq.list_pop_last l vs.toArray n v (by rw [List.size_toArray, hlen', Nat.add_sub_cancel, List.getElem?_toArray]; exact hv) (by rw [sizeLine_eq]; simp; omega)) ⟨C.getM hi, ?_⟩
  refine h _ _ _ hR ⟨vs.take xs.length, n', e', ?_⟩ (C.turned (n := s.toks) hi (Heap.SameBut.update ..) hg)
  have := pr_takes p xs.length
  simpa using this

theorem r_extend {i : Nat} {l' : Addr} {o₂ : Obj} {ys : List α} (C : Cx B L G m mu s) (hi : mu[i]? = some (l, o)) (ho : OV R o xs) (hl : s.heap.get? l' = some o₂) (ho₂ : OV R o₂ ys) (hz : xs.length + ys.length ≤ 1048576)
    (h : ∀ o' s', OV R o' (xs ++ ys) → Cx B L G m (mu.set i (l, o')) s' → Q .none s') : wpAny (model prog w) A (call (.builtin "list.extend") [.ref l, .ref l']) Q E s := by
  obtain ⟨vs, n, e, p⟩ := ho
  obtain ⟨us, n₂, e₂, p₂⟩ := ho₂
  have hlen := p.length
  have hlen₂ := p₂.length
  subst e e₂
  have hg := Heap.get?_update_self (Obj.mapSeq fun zs => zs ++ us.toArray) (C.getM hi) rfl
  obtain ⟨n', e'⟩ := map_lo (f := fun zs => zs ++ us.toArray) (vs := vs) (us := vs ++ us) (n := n) (by simp)
  refine call_meets PySem.F.slot_list_extend ⟨_, C.getM hi, rfl⟩ PySem.F.entry_list_extend (PySem.F.args_list_extend_2 _ _) (AutoSeq1.list_extend_list_list_0 l vs.toArray n l' us.toArray n₂ (by simp [Builtin.List.listTooLong, sizeLine]; omega) (by rw [sizeLine_eq]; simp; omega) (by rw [sizeLine_eq]; simp; omega)) ⟨C.getM hi, hl, ?_⟩
  exact h _ _ ⟨vs ++ us, n', e', pr_app p p₂⟩ (C.turned (n := s.toks) hi (Heap.SameBut.update ..) hg)

theorem noDict_of (hl : s.heap.get? l = some o) (ho : OV R o xs) : s.heap.NoDictAt (.ref l) := by
  obtain ⟨vs, n, e, _⟩ := ho
  exact ⟨o, hl, by rw [e]⟩
theorem r_mAppend {pl : Sem Bool} {Q : Value × List Value → Shared → Prop} (hl : s.heap.get? l = some o) (ho : OV R o xs) (h : Q (.builtin "list.append", [.ref l]) s) : wpAny (model prog w) A (getMethod (.ref l) "append" pl) Q E s := by
  obtain ⟨vs, n, e, _⟩ := ho
  exact getMethod_list_append hl (by rw [e]) (by rw [e]) h
theorem r_mPop {pl : Sem Bool} {Q : Value × List Value → Shared → Prop} (hl : s.heap.get? l = some o) (ho : OV R o xs) (h : Q (.builtin "list.pop", [.ref l]) s) : wpAny (model prog w) A (getMethod (.ref l) "pop" pl) Q E s := by
  obtain ⟨vs, n, e, p⟩ := id ho
  exact getMethod_list_of PySem.F.slot_list_pop PySem.F.type_list_pop (isList_of hl e) (noDict_of hl ho) h
theorem r_mExtend {pl : Sem Bool} {Q : Value × List Value → Shared → Prop} (hl : s.heap.get? l = some o) (ho : OV R o xs) (h : Q (.builtin "list.extend", [.ref l]) s) : wpAny (model prog w) A (getMethod (.ref l) "extend" pl) Q E s := by
  obtain ⟨vs, n, e, p⟩ := id ho
  exact getMethod_list_of PySem.F.slot_list_extend PySem.F.type_list_extend (isList_of hl e) (noDict_of hl ho) h

/-- a fresh object at the heap's end -/
theorem pushed (C : Cx B L G m mu s) (ob : Obj) (hf : ob.isFreed = false) (n : Nat) : Cx B L G m ((s.heap.objs.size, ob) :: mu) { s with heap := s.heap.push ob, toks := n } := by
  refine C.made ?_ (fun b o e => Heap.get?_push_of_some _ e) (Heap.get?_push_size _ hf)
  cases q : s.heap.get? s.heap.objs.size with
  | none => rfl
  | some o' => exact absurd (Heap.lt_size q) (Nat.lt_irrefl _)

theorem r_newList {vs : List Value} (C : Cx B L G m mu s) (p : Paired R vs xs) (hz : xs.length ≤ 1048576) (h : ∀ a o s', OV R o xs → Cx B L G m ((a, o) :: mu) s' → Q (.ref a) s') :
    wpAny (model prog w) A (newList vs) Q E s := by
  have hlen := p.length
  exact wpAny_newObj_type (h _ _ _ ⟨vs, 0, rfl, p⟩ (pushed C _ rfl s.toks)) (by show vs.toArray.size ≤ sizeLine; rw [sizeLine_eq]; simp; omega)

theorem r_addList {l' : Addr} {o₂ : Obj} {ys : List α} (C : Cx B L G m mu s) (hl : s.heap.get? l = some o) (ho : OV R o xs) (hl' : s.heap.get? l' = some o₂) (ho₂ : OV R o₂ ys) (hz : xs.length + ys.length ≤ 1048576)
    (h : ∀ a o s', OV R o (xs ++ ys) → Cx B L G m ((a, o) :: mu) s' → Q (.ref a) s') : wpAny (model prog w) A (binaryOp .Add (.ref l) (.ref l')) Q E s := by
  obtain ⟨vs, n, e, p⟩ := ho
  obtain ⟨us, n₂, e₂, p₂⟩ := ho₂
  have hlen := p.length
  have hlen₂ := p₂.length
  subst e e₂
  exact P.add_list hl hl' (h _ _ _ ⟨vs ++ us, 0, by simp, pr_app p p₂⟩ (pushed C _ rfl s.toks)) (by rw [sizeLine_eq]; simp; omega)

theorem r_mulList {v : Value} {x : α} {k : Int} {t : Tok} (C : Cx B L G m mu s) (hl : s.heap.get? l = some o) (ho : OV R o [x]) (h0 : 0 ≤ k) (hk : k ≤ 1048576)
    (h : ∀ a o s', OV R o (List.replicate k.toNat x) → Cx B L G m ((a, o) :: mu) s' → Q (.ref a) s') : wpAny (model prog w) A (binaryOp .Mult (.ref l) (.int k t)) Q E s := by
  obtain ⟨vs, n, e, p⟩ := ho
  subst e
  have e1 : ∃ v, vs = [v] ∧ R v x := by
    cases p with
    | cons a q => cases q; exact ⟨_, rfl, a⟩
  obtain ⟨v, rfl, hR⟩ := e1
  refine PyProof.Rows.mul_list C.fr C.news hl (show -(2 ^ 63 : Int) ≤ k by omega) (show k < 2 ^ 63 by omega) (by simp; omega) fun h' F N => ?_
  have e2 : (List.foldl (fun x1 x2 => x1 ++ x2) #[] (List.replicate (if ([v].toArray).isEmpty = true then 0 else k.toNat) [v].toArray) : Array Value) = (List.replicate k.toNat v).toArray := by
    have : ∀ (n : Nat) (acc : Array Value), List.foldl (fun x1 x2 => x1 ++ x2) acc (List.replicate n [v].toArray) = acc ++ (List.replicate n v).toArray := by
      intro n
      induction n with
      | zero => intro acc; simp
      | succ n ih => intro acc; rw [List.replicate_succ, List.foldl_cons, ih, List.replicate_succ]; apply Array.toList_inj.mp; simp
    have := this k.toNat #[]
    simpa using this
  rw [e2] at N
  exact h _ _ _ ⟨_, 0, rfl, pr_rep hR _⟩ (C.of1 F N (fun _ q => q) fun q hq => Heap.lt_size (mem_alln.mp (show (q.1, q.2) ∈ alln B s L from hq)).1)

theorem r_copy (C : Cx B L G m mu s) (hl : s.heap.get? l = some o) (ho : OV R o xs) (hz : xs.length ≤ 1048576)
    (h : ∀ a o s', OV R o xs → Cx B L G m ((a, o) :: mu) s' → Q (.ref a) s') : wpAny (model prog w) A (call (.type "list") [.ref l]) Q E s := by
  obtain ⟨vs, n, e, p⟩ := ho
  have hlen := p.length
  refine list_copyK C.fr C.news (isList_of hl e) (fun D c h' F N hD => ?_) (by rw [sizeLine_eq]; simp; omega)
  exact h _ _ _ ⟨vs, c, rfl, p⟩ (C.of1 F N (fun _ q => q) hD)
end
end
end Mine
namespace Mine
open PySem PySem.W PySem.Calls PyProof.Rows PyProof.V PySem.Spec PySem.SeqAt

theorem pr_mono {α β : Type} {R R' : β → α → Prop} (h : ∀ a b, R a b → R' a b) {vs : List β} {xs : List α} (p : Paired R vs xs) : Paired R' vs xs := by
  induction p with
  | nil => exact .nil
  | cons a _ ih => exact .cons (h _ _ a) ih
def isRow (G : Kn) (a : Addr) (r : List Int) : Prop := ∃ o, G a = some o ∧ OI o r
def Ints (G : Kn) (a : Addr) (r : List Int) : Prop := isRow G a r
def Rows (G : Kn) (l : Addr) (rows : List (List Int)) : Prop := ∃ o as, G l = some o ∧ OR o as ∧ Paired (isRow G) as rows
theorem isRow.mono {G G' : Kn} (h : Le G G') {a : Addr} {r : List Int} (x : isRow G a r) : isRow G' a r := let ⟨o, e, p⟩ := x; ⟨o, h _ _ e, p⟩
theorem Rows.mono {G G' : Kn} (h : Le G G') {a : Addr} {r : List (List Int)} (x : Rows G a r) : Rows G' a r :=
  let ⟨o, as, e, p, q⟩ := x; ⟨o, as, h _ _ e, p, pr_mono (fun _ _ y => y.mono h) q⟩

theorem reads_row {h : Heap} {a : Addr} {r : List Int} (x : isRow h.get? a r) : Reads h (.ref a) (.list (r.map .int)) [a] := by
  obtain ⟨o, ho, vs, n, e, p⟩ := x
  exact reads_of_ints ⟨o, ho, by rw [e], n, by rw [e]⟩ (pr_ints p)
theorem reads_rowsAll {h : Heap} {as : List Addr} {rows : List (List Int)} (p : Paired (isRow h.get?) as rows) : ∀ {vs : List Value}, Paired isR vs as → ReadsAll h vs (rows.map fun r => .list (r.map .int)) as := by
  induction p with
  | nil => intro vs q; cases q; exact .nil
  | cons a _ ih =>
    intro vs q
    cases q with
    | cons b q =>
      rw [b]
      have := ReadsAll.cons (reads_row a) (ih q)
      simpa using this
def rowsD (rows : List (List Int)) : PyData := .list (rows.map fun r => .list (r.map .int))
theorem reads_rows {h : Heap} {l : Addr} {rows : List (List Int)} (x : Rows h.get? l rows) : ∃ as, Reads h (.ref l) (rowsD rows) as := by
  obtain ⟨o, as, ho, ⟨vs, n, e, q⟩, p⟩ := x
  subst e
  exact ⟨_, Reads.list ho rfl rfl (by simpa using reads_rowsAll p q)⟩
theorem canLayAll0_rows : ∀ rows : List (List Int), PyData.canLayAll0 (rows.map fun r => PyData.list (r.map PyData.int)) = true
  | [] => by simp [PyData.canLayAll0]
  | n :: r => by simp [PyData.canLayAll0, PyData.canLay0, canLayAll0_rows r, canLayAll0_ints]
theorem depthAll_rows : ∀ rows : List (List Int), PyData.depthAll (rows.map fun r => PyData.list (r.map PyData.int)) ≤ 2
  | [] => by simp [PyData.depthAll]
  | n :: r => by
    have := depthAll_rows r
    have := PySem.W.depthAll_ints n
    simp only [List.map_cons, PyData.depthAll, PyData.depth]
    omega
theorem shaped_rows (rows : List (List Int)) : shaped (rowsD rows) = true := by
  have h1 := depthAll_rows rows
  have h2 : PyData.depth (rowsD rows) ≤ 64 := by unfold rowsD; simp only [PyData.depth]; omega
  show (PyData.canLay0 (rowsD rows) && decide (PyData.depth (rowsD rows) ≤ 64)) = true
  rw [Bool.and_eq_true]
  exact ⟨by unfold rowsD; simp only [PyData.canLay0]; exact canLayAll0_rows rows, decide_eq_true h2⟩
theorem noMix_rows : ∀ a b : List (List Int), noMixAll (a.map fun r => PyData.list (r.map PyData.int)) (b.map fun r => PyData.list (r.map PyData.int)) = true
  | [], [] => by simp [noMixAll]
  | [], _ :: _ => by simp [noMixAll]
  | _ :: _, [] => by simp [noMixAll]
  | x :: r, y :: q => by simp [noMixAll, noMix, noMix_ints x y, noMix_rows r q]
theorem same_rows : ∀ a b : List (List Int), PySem.Spec.sameAll (a.map fun r => PyData.list (r.map PyData.int)) (b.map fun r => PyData.list (r.map PyData.int)) = decide (a = b)
  | [], [] => by simp [PySem.Spec.sameAll]
  | [], _ :: _ => by simp [PySem.Spec.sameAll]
  | _ :: _, [] => by simp [PySem.Spec.sameAll]
  | n :: r, k :: q => by
    simp only [List.map_cons, PySem.Spec.sameAll, PySem.Spec.same, same_ints, same_rows r q]
    by_cases h : n = k <;> simp [h]

section
variable {prog : Program} {w : World} {A : Around} {E : Value → Shared → Prop} {B : Pin} {L : Addr} {G : Kn} {m : Str → Option Value} {mu : Mu} {s : Shared} {env : Env}

theorem r_eqRows {a b : Addr} {x y : List (List Int)} {Q : Value → Shared → Prop} (hx : Rows s.heap.get? a x) (hy : Rows s.heap.get? b y) (hu : A.units + 64 < cLine) (h : Q (.bool (decide (x = y))) s) :
    wpAny (model prog w) A (compareOp .Eq (.ref a) (.ref b)) Q E s := by
  obtain ⟨as, ra⟩ := reads_rows hx
  obtain ⟨bs, rb⟩ := reads_rows hy
  refine eq_dataH_same ra rb (shaped_rows x) (shaped_rows y) hu (by unfold rowsD; simp only [noMix]; exact noMix_rows x y) ?_
  unfold rowsD
  simp only [PySem.Spec.same]; rw [same_rows]; exact h
theorem r_neRows {a b : Addr} {x y : List (List Int)} {Q : Value → Shared → Prop} (hx : Rows s.heap.get? a x) (hy : Rows s.heap.get? b y) (hu : A.units + 64 < cLine) (h : Q (.bool (!decide (x = y))) s) :
    wpAny (model prog w) A (compareOp .NotEq (.ref a) (.ref b)) Q E s := by
  obtain ⟨as, ra⟩ := reads_rows hx
  obtain ⟨bs, rb⟩ := reads_rows hy
  refine ne_dataH_same ra rb (shaped_rows x) (shaped_rows y) hu (by unfold rowsD; simp only [noMix]; exact noMix_rows x y) ?_
  unfold rowsD
  simp only [PySem.Spec.same]; rw [same_rows]; exact h
theorem r_neInts {a b : Addr} {x y : List Int} {oa ob : Obj} {Q : Value → Shared → Prop} (ha : s.heap.get? a = some oa) (hx : OI oa x) (hb : s.heap.get? b = some ob) (hy : OI ob y) (hu : A.units + 64 < cLine) (h : Q (.bool (!decide (x = y))) s) :
    wpAny (model prog w) A (compareOp .NotEq (.ref a) (.ref b)) Q E s := by
  obtain ⟨vs, n, e, p⟩ := hx
  obtain ⟨us, k, e', p'⟩ := hy
  exact ne_intsK (isList_of ha e) (pr_ints p) (isList_of hb e') (pr_ints p') hu h

theorem any_ints {vs : List Value} {xs : List Int} (p : Paired isI vs xs) (k : Int) (e : Value → Bool) (he : ∀ a t, e (.int a t) = (a == k)) : vs.any e = decide (k ∈ xs) := by
  induction p with
  | nil => simp
  | @cons _ b' _ _ a _ ih =>
    obtain ⟨t, rfl⟩ := a
    rw [List.any_cons, ih, he]
    by_cases q : b' = k
    · subst q; simp
    · have q' : ¬ k = b' := fun h => q h.symm
      simp [q, q']
def eqTo (k : Int) : Value → Bool
  | .int a _ => a == k
  | _ => false
theorem r_in {l : Addr} {o : Obj} {xs : List Int} {k : Int} {t : Tok} {Q : Value → Shared → Prop} (hl : s.heap.get? l = some o) (ho : OI o xs) (h : Q (.bool (decide (k ∈ xs))) s) :
    wpAny (model prog w) A (compareOp .In (.int k t) (.ref l)) Q E s := by
  obtain ⟨vs, n, e, p⟩ := ho
  subst e
  refine PySem.SeqRoads2.in_list (eqTo k) (fun y hy => ?_) hl (by rw [List.any_toArray, any_ints p k (eqTo k) (fun _ _ => rfl)]; exact h)
  obtain ⟨i, hi⟩ := List.mem_iff_getElem?.mp (show y ∈ vs by simpa using hy)
  obtain ⟨x, _, u, rfl⟩ := pr_atv p hi
  exact MeetsSeq.EqGives.int x k u t
theorem r_notIn {l : Addr} {o : Obj} {xs : List Int} {k : Int} {t : Tok} {Q : Value → Shared → Prop} (hl : s.heap.get? l = some o) (ho : OI o xs) (h : Q (.bool (!decide (k ∈ xs))) s) :
    wpAny (model prog w) A (compareOp .NotIn (.int k t) (.ref l)) Q E s := by
  obtain ⟨vs, n, e, p⟩ := ho
  subst e
  refine PySem.SeqRoads2.notIn_list (eqTo k) (fun y hy => ?_) hl (by rw [List.any_toArray, any_ints p k (eqTo k) (fun _ _ => rfl)]; exact h)
  obtain ⟨i, hi⟩ := List.mem_iff_getElem?.mp (show y ∈ vs by simpa using hy)
  obtain ⟨x, _, u, rfl⟩ := pr_atv p hi
  exact MeetsSeq.EqGives.int x k u t

theorem r_max {l : Addr} {o : Obj} {xs : List Int} {Q : Value → Shared → Prop} (C : Cx B L G m mu s) (hl : s.heap.get? l = some o) (ho : OI o xs) (hne : 0 < xs.length) (hh : A.handled = none)
    (h : ∀ M t s', Cx B L G m mu s' → M ∈ xs → (∀ a ∈ xs, a ≤ M) → Q (.int M t) s') : wpAny (model prog w) A (call (.builtin "max") [.ref l]) Q E s := by
  obtain ⟨vs, n, e, p⟩ := ho
  exact max_list_N hh C.fr C.news (isList_of hl e) (pr_ints p) hne fun h' M t tk F N a b => h M t _ (C.of F N fun _ q => q) a b

theorem r_sorted {l : Addr} {o : Obj} {xs : List Int} {Q : Value → Shared → Prop} (C : Cx B L G m mu s) (hl : s.heap.get? l = some o) (ho : OI o xs) (hz : xs.length < 64)
    (h : ∀ a o s' ys, OI o ys → ys.Perm xs → ys.Pairwise (· ≤ ·) → Cx B L G m ((a, o) :: mu) s' → Q (.ref a) s') : wpAny (model prog w) A (call (.builtin "sorted") [.ref l]) Q E s := by
  obtain ⟨vs, n, e, p⟩ := ho
  refine kso_sorted C.fr C.news (isList_of hl e) (pr_ints p) hz fun D vs' ns' c h' F N hD hi _ hp hs _ => ?_
  exact h _ _ _ ns' ⟨vs', c, rfl, pr_ofInts hi⟩ hp hs (C.of1 F N (fun _ q => q) hD)

/-- a slice [:k] or [k:] of a list of ints -/
theorem r_slice {α : Type} {R : Value → α → Prop} {value slice : Expr} {l sl : Addr} {o : Obj} {xs ys : List α} {vl vu : Value} {plo phi : Option Int} {Q : Value → Shared → Prop} (C : Cx B L G m mu s) (hl : s.heap.get? l = some o) (ho : OV R o xs) (hz : xs.length ≤ 1048576)
    (hlo : IsPart vl plo) (hhi : IsPart vu phi) (hp : ∀ vs : List Value, Paired R vs xs → ∃ us : List Value, slicePick vs.toArray plo phi none = us.toArray ∧ Paired R us ys)
    (h : ∀ a o s', OV R o ys → Cx B L G m ((a, o) :: mu) s' → Q (.ref a) s')
    (hs : subscripted slice false (.ref l) (.ref s.heap.objs.size) = operate [.ref s.heap.objs.size, .ref l] (getItem (.ref l) (.ref s.heap.objs.size)) := by with_unfolding_all rfl)
    (ht : ∀ r, letTemporaryGo value (.ref l) r = pure () := by intro _; with_unfolding_all rfl) :
    wpAny (model prog w) A (subscriptTail value slice (.ref l) (.ref s.heap.objs.size)) Q E { s with heap := s.heap.push { cls := .type "slice", data := .fields #[vl, vu, .none] } } := by
  obtain ⟨vs, n, e, p⟩ := ho
  have hlen := p.length
  obtain ⟨us, e1, p1⟩ := hp vs p
  refine slice_listK (isList_of hl e) hlo hhi ?_ hs ht (by rw [sizeLine_eq]; simp; omega)
  have C1 := pushed C { cls := .type "slice", data := .fields #[vl, vu, .none] } rfl s.toks
  have C2 := pushed C1 { cls := .type "list", data := .seq (slicePick vs.toArray plo phi none) } rfl s.toks
  have e2 : ({ s with heap := s.heap.push { cls := .type "slice", data := .fields #[vl, vu, .none] } } : Shared).heap.objs.size = s.heap.objs.size + 1 := Heap.size_push ..
  have C3 := C2.drop (mu' := (s.heap.objs.size + 1, { cls := .type "list", data := .seq (slicePick vs.toArray plo phi none) }) :: mu) (by
    rw [e2]
    exact List.Sublist.cons_cons _ (List.sublist_cons_self _ _))
  exact h _ _ _ ⟨us, 0, by rw [e1], p1⟩ C3
end
end Mine
namespace Mine
open PySem PySem.W PySem.Calls PyProof.Rows

def PinLe (B B' : Pin) : Prop := B'.sh = B.sh ∧ ∀ a o, B.z a = some o → B'.z a = some o
theorem PinLe.rfl' {B : Pin} : PinLe B B := ⟨rfl, fun _ _ e => e⟩
theorem PinLe.trans {B B' B'' : Pin} (x : PinLe B B') (y : PinLe B' B'') : PinLe B B'' := ⟨y.1.trans x.1, fun a o e => y.2 a o (x.2 a o e)⟩
theorem PinLe.none {B B' : Pin} (x : PinLe B B') {a : Addr} (h : B'.z a = .none) : B.z a = .none := by
  cases q : B.z a with
  | none => rfl
  | some o => rw [x.2 _ _ q] at h; cases h
theorem PinLe.add {B : Pin} {a : Addr} {o : Obj} (h : B.z a = .none) : PinLe B (B.add a o) := ⟨rfl, fun b ob e => by
  have hne : b ≠ a := fun q => by rw [q, h] at e; cases e
  simp only [Pin.add, hne, if_false]; exact e⟩
theorem Pin.add_get {B : Pin} {a : Addr} {o : Obj} : (B.add a o).z a = some o := by simp [Pin.add]

section
variable {B B' : Pin} {L a : Addr} {G : Kn} {m : Str → Option Value} {mu : Mu} {s : Shared} {o : Obj}
theorem Cx.unpin (C : Cx B' L G m mu s) (x : PinLe B B') : Cx B L G m mu s := by
  have hh : B'.heap = B.heap := congrArg Shared.heap x.1
  refine ⟨C.ns, C.offL, C.know, fun p hp => ⟨(C.mvs p hp).1, (C.mvs p hp).2.1, (C.mvs p hp).2.2.1, x.none (C.mvs p hp).2.2.2⟩, C.nd, hh ▸ C.bG, by rw [C.gens, x.1], by rw [C.drawn, x.1], by rw [C.os, x.1], hh ▸ C.ab, fun b ob e => C.pin _ _ (x.2 _ _ e), x.none C.zL, fun b ob e => C.zG _ _ (x.2 _ _ e)⟩

theorem mem_fst {mu : Mu} {p : Addr × Obj} {a : Addr} (h : p ∈ mu) (e : p.1 = a) : a ∈ mu.map (·.1) := by
  have := List.mem_map_of_mem (f := (·.1)) h; rw [← e]; exact this
/-- the first of what may be turned is turned -/
theorem Cx.turnedE {o o' : Obj} (C : Cx B L G m ((a, o) :: mu) s) {h' : Heap} {n : Nat} (hs : ∀ b ob, b ≠ a → s.heap.get? b = some ob → h'.get? b = some ob) (ho : h'.get? a = some o') :
    Cx B L G m ((a, o') :: mu) { s with heap := h', toks := n } := by
  have hm := C.mvs (a, o) (.head _)
  have hnd := List.nodup_cons.mp C.nd
  obtain ⟨oL, es, ep, h1, h2⟩ := C.ns
  refine ⟨⟨oL, es, ep, hs _ _ hm.2.2.1.symm h1, h2⟩, C.offL, fun b ob e => hs _ _ (fun h => by rw [h, hm.2.1] at e; cases e) (C.know b ob e), fun p hp => ?_, C.nd, C.bG, C.gens, C.drawn, C.os, C.ab,
    fun b ob e => hs _ _ (fun h => by rw [h, hm.2.2.2] at e; cases e) (C.pin b ob e), C.zL, C.zG⟩
  rcases List.mem_cons.mp hp with rfl | hp
  · exact ⟨ho, hm.2⟩
  · have hpm := C.mvs p (.tail _ hp)
    exact ⟨hs _ _ (fun h => hnd.1 (mem_fst hp h)) hpm.1, hpm.2⟩
theorem Cx.hide0 (C : Cx B L G m ((a, o) :: mu) s) : Cx (B.add a o) L G m mu s := C.hide (i := 0) rfl
theorem Cx.none_of (C : Cx B L G m ((a, o) :: mu) s) : B.z a = none := (C.mvs (a, o) (.head _)).2.2.2

/-- another frame begins -/
theorem Cx.enter (C : Cx B L G m mu s) {L' : Addr} {m' : Str → Option Value} {h' : Heap} {n : Nat} (k : ∀ b o, s.heap.get? b = some o → h'.get? b = some o) (hn : h'.Ns L' m') (hL : s.heap.get? L' = none)
    (hab : B.heap.objs.size ≤ L') : ∃ oL, s.heap.get? L = some oL ∧ Cx (B.add L oL) L' G m' mu { s with heap := h', toks := n } := by
  obtain ⟨oL, es, ep, h1, h2⟩ := C.ns
  have neL : ∀ b ob, s.heap.get? b = some ob → b ≠ L' := fun b ob e h => by rw [h, hL] at e; cases e
  have gL : G L' = none := by
    cases q : G L' with
    | none => rfl
    | some ob => exact absurd rfl (neL _ _ (C.know _ _ q))
  have zL' : B.z L' = none := by
    cases q : B.z L' with
    | none => rfl
    | some ob => exact absurd rfl (neL _ _ (C.pin _ _ q))
  refine ⟨oL, h1, hn, gL, fun b ob e => k _ _ (C.know _ _ e), fun p hp => ?_, C.nd, C.bG, C.gens, C.drawn, C.os, hab, fun b ob e => ?_, ?_, fun b ob e => ?_⟩
  · have hm := C.mvs p hp
    refine ⟨k _ _ hm.1, hm.2.1, neL _ _ hm.1, ?_⟩
    simp only [Pin.add, hm.2.2.1, if_false]; exact hm.2.2.2
  · simp only [Pin.add] at e
    by_cases h : b = L
    · simp only [h, if_true] at e; cases e; rw [h]; exact k _ _ h1
    · simp only [h, if_false] at e; exact k _ _ (C.pin _ _ e)
  · have hne : L' ≠ L := (neL _ _ h1).symm
    simp only [Pin.add, hne, if_false]; exact zL'
  · simp only [Pin.add] at e
    by_cases h : b = L
    · rw [h]; exact C.offL
    · simp only [h, if_false] at e; exact C.zG _ _ e
theorem Cx.oL (C : Cx B L G m mu s) : ∃ oL, s.heap.get? L = some oL := let ⟨oL, _, _, h, _⟩ := C.ns; ⟨oL, h⟩
/-- and is left -/
theorem Cx.leave (C : Cx B L G m mu s) {oL : Obj} (hoL : s.heap.get? L = some oL) {B' : Pin} (x : PinLe (B.add L oL) B') {L' : Addr} {G' : Kn} {m' : Str → Option Value} {mu' : Mu} {s' : Shared} (D : Cx B' L' G' m' mu' s') : Cx B L G' m mu' s' := by
  have hB : PinLe B B' := (PinLe.add C.zL).trans x
  have hz : B'.z L = some oL := x.2 _ _ Pin.add_get
  obtain ⟨oL', es, ep, h1, h2⟩ := C.ns
  rw [hoL] at h1; cases h1
  have hh : B'.heap = B.heap := congrArg Shared.heap hB.1
  refine ⟨⟨oL, es, ep, D.pin _ _ hz, h2⟩, D.zG _ _ hz, D.know, fun p hp => ⟨(D.mvs p hp).1, (D.mvs p hp).2.1, fun h => ?_, hB.none (D.mvs p hp).2.2.2⟩, D.nd, hh ▸ D.bG, by rw [D.gens, hB.1], by rw [D.drawn, hB.1], by rw [D.os, hB.1], C.ab,
    fun b ob e => D.pin _ _ (hB.2 _ _ e), C.zL, fun b ob e => D.zG _ _ (hB.2 _ _ e)⟩
  have := (D.mvs p hp).2.2.2
  rw [h, hz] at this; cases this
end

section
variable {prog : Program} {w : World} {A : Around} {E : Value → Shared → Prop} {B : Pin} {L : Addr} {G : Kn} {m : Str → Option Value} {mu : Mu} {s : Shared} {env : Env}

theorem r_while {test body pos} {Q : Flow → Shared → Prop} (J : Nat → Shared → Prop) (n : Nat) (h0 : J n s)
    (turn : ∀ n s E', J n s → wpAny (model prog w) A (isTrue test env (eval test env)) (fun b s₂ =>
        if b then wpAny (model prog w) A (execs body env) (fun f s₃ => match f with
            | .next | .cont => ∃ k, k < n ∧ J k s₃
            | .brk => Q .next s₃
            | .ret v => Q (.ret v) s₃) E' s₂
        else Q .next s₂) E' s) :
    wpAny (model prog w) A (exec (.While test body [] pos) env) Q E s := by
  refine wpAny_While (codeAny_whileLoop J (fun n s hJ => wpAny_mono (turn n s _ hJ) (fun b s₂ hb => ?_) fun _ _ x => x) n h0)
  cases b with
  | true => simp only [if_true] at hb ⊢; exact wpAny_mono hb (fun f s₃ hf => by cases f <;> exact hf) fun _ _ x => x
  | false => simp only [Bool.false_eq_true, if_false] at hb ⊢; exact wpAny_execs_nil hb

theorem for_core {x : Str} {px : Pos} {body : List Stmt} {I : Addr} {oI : Obj} {fp : List Addr} {n : Nat} {P : Nat → Value → Prop} {St : Nat → Heap → Prop} {R : Result → Shared → Prop}
    (hx : env.kindOf x = some .local) (hk : env.scope.kind = .function) (W : Walks prog w A I fp [I] n P St)
    (hob : ∀ i h, St i h → ∃ o, h.get? I = some o) (hfp : ∀ b ∈ fp, b = I ∨ ∃ o, G b = some o)
    (C : Cx B env.locals G m ((I, oI) :: mu) s) (st : St 0 s.heap) (J : Nat → Kn → (Str → Option Value) → Mu → Prop) (h0 : J 0 G m mu)
    (step : ∀ i v B' G' m' mu' s' E', i < n → P i v → PinLe B B' → Le G G' → J i G' m' mu' → Cx B' env.locals G' (upd m' x v) mu' s' →
      wpAny (model prog w) A (execs body env) (fun f s'' => match f with
        | .next | .cont => ∃ G'' m'' mu'', Le G' G'' ∧ J (i + 1) G'' m'' mu'' ∧ Cx B' env.locals G'' m'' mu'' s''
        | .brk => False
        | .ret v => R (.ok (.ret v)) s'') E' s')
    (hR : ∀ G' m' mu' s', Le G G' → J n G' m' mu' → Cx B env.locals G' m' mu' s' → R (.ok .next) s') :
    codeAny (model prog w) A (.forLoop (.Name x px) (.ref I) body [] env) R s := by
  refine codeAny_forLoop (fun k s' => ∃ i G' m' mu' o, k = n + 1 - i ∧ i ≤ n ∧ Le G G' ∧ J i G' m' mu' ∧ St i s'.heap ∧ Cx B env.locals G' m' ((I, o) :: mu') s') ?_ (n + 1) ⟨0, G, m, mu, oI, rfl, Nat.zero_le _, Le.rfl', h0, st, C⟩
  rintro k s' ⟨i, G', m', mu', o, rfl, hi, hG, hJ, hst, D⟩
  rcases Nat.lt_or_ge i n with hlt | hge
  · refine W.item i s' _ _ hlt hst fun v h' tk hP hst' hkeep => ?_
    obtain ⟨o', ho'⟩ := hob _ _ hst'
    have D1 : Cx B env.locals G' m' ((I, o') :: mu') { s' with heap := h', toks := tk } := D.turnedE (fun b ob hb e => hkeep b ob (by simpa using hb) e) ho'
    have D2 := D1.hide0
    refine wpAny_assign_Name (r_store D2 hk hx fun s₂ D3 => ?_)
    have hpin : s₂.heap.get? I = some o' := D3.pin _ _ Pin.add_get
    refine wpAny_mono (step i v (B.add I o') G' m' mu' s₂ _ hlt hP (PinLe.add D1.none_of) hG hJ D3) (fun f s₃ hf => ?_) fun _ _ x => x
    have fin : (∃ G'' m'' mu'', Le G' G'' ∧ J (i + 1) G'' m'' mu'' ∧ Cx (B.add I o') env.locals G'' m'' mu'' s₃) → ∃ k, k < n + 1 - i ∧ ∃ j G' m' mu' o, k = n + 1 - j ∧ j ≤ n ∧ Le G G' ∧ J j G' m' mu' ∧ St j s₃.heap ∧ Cx B env.locals G' m' ((I, o) :: mu') s₃ := by
      rintro ⟨G'', m'', mu'', hG', hJ', D4⟩
      refine ⟨n + 1 - (i + 1), by omega, i + 1, G'', m'', mu'', o', rfl, hlt, hG.trans hG', hJ', ?_, D4.show' D1.none_of⟩
      refine W.frame _ _ _ hst' fun b hb ob e => ?_
      rcases hfp b hb with rfl | ⟨og, hg⟩
      · have e' : h'.get? b = some ob := e
        rw [ho'] at e'; cases e'; exact D4.pin _ _ Pin.add_get
      · have h1 : s'.heap.get? b = some og := D.know _ _ (hG _ _ hg)
        have hne : b ≠ I := fun q => by
          have := (D.mvs (I, o) (.head _)).2.1
          have h2 := hG _ _ hg
          rw [q] at h2; rw [h2] at this; cases this
        have h3 : h'.get? b = some og := hkeep b og (by simpa using hne) h1
        rw [e] at h3; cases h3
        exact D4.know _ _ (hG' _ _ (hG _ _ hg))
    cases f with
    | next => exact fin hf
    | cont => exact fin hf
    | brk => exact hf.elim
    | ret v => exact hf
  · have e : i = n := by omega
    subst e
    refine W.done s' _ _ hst fun h' tk hkeep => wpAny_execs_nil ?_
    have D0 := D.drop (mu' := mu') (List.sublist_cons_self _ _)
    have hI := D.mvs (I, o) (.head _)
    obtain ⟨oL, es, ep, h1, h2⟩ := D0.ns
    have kp : ∀ b ob, b ≠ I → s'.heap.get? b = some ob → h'.get? b = some ob := fun b ob hb e => hkeep b ob (by simpa using hb) e
    refine hR G' m' mu' _ hG hJ ⟨⟨oL, es, ep, kp _ _ hI.2.2.1.symm h1, h2⟩, D0.offL, fun b ob e => kp _ _ (fun q => by rw [q, hI.2.1] at e; cases e) (D0.know _ _ e), fun p hp => ⟨kp _ _ (fun q => (List.nodup_cons.mp D.nd).1 (mem_fst hp q)) (D0.mvs p hp).1, (D0.mvs p hp).2⟩, D0.nd, D0.bG, D0.gens, D0.drawn, D0.os, D0.ab, fun b ob e => kp _ _ (fun q => by rw [q, hI.2.2.2] at e; cases e) (D0.pin _ _ e), D0.zL, D0.zG⟩
end
end Mine
namespace Mine
open PySem PySem.W PySem.Calls PyProof.Rows

/-- a range's object -/
def RgO (o : Obj) (a b : Int) : Prop := ∃ t u v, o = { cls := .type "range", dict := none, data := .fields #[.int a t, .int b u, .int 1 v], slots := #[] }

section
variable {prog : Program} {w : World} {A : Around} {E : Value → Shared → Prop} {B : Pin} {L : Addr} {G : Kn} {m : Str → Option Value} {mu : Mu} {s : Shared} {env : Env}

theorem r_range1 {n : Int} {t : Tok} {Q : Value → Shared → Prop} (C : Cx B L G m mu s) (h : ∀ r o s', RgO o 0 n → Cx B L G m ((r, o) :: mu) s' → Q (.ref r) s') :
    wpAny (model prog w) A (call (.type "range") [.int n t]) Q E s :=
  call_range_1 (h _ _ _ ⟨_, _, _, rfl⟩ (pushed C _ rfl _))

/-- what an iterator needs, whatever it goes over -/
structure Ito (prog : Program) (w : World) (A : Around) (G : Kn) (I : Addr) (n : Nat) (P : Nat → Value → Prop) (h : Heap) : Prop where
  out : ∃ fp St, Walks prog w A I fp [I] n P St ∧ (∀ i h, St i h → ∃ o, h.get? I = some o) ∧ (∀ b ∈ fp, b = I ∨ ∃ o, G b = some o) ∧ St 0 h

theorem it_listG {l : Addr} {o : Obj} {vs : List Value} {n : Nat} {Q : Value → Shared → Prop} (hh : A.handled = none) (C : Cx B L G m mu s) (hl : G l = some o) (e : o = lo vs n)
    (h : ∀ I oI s', Cx B L G m ((I, oI) :: mu) s' → Ito prog w A G I vs.length (fun i v => vs[i]? = some v) s'.heap → Q (.ref I) s') : wpAny (model prog w) A (pyIter (.ref l)) Q E s := by
  have hg := C.know _ _ hl
  refine wpAny_pyIter_list (isList_of hg e) ?_
  have C' := pushed C { cls := .type "list_iterator", data := .fields #[.ref l, .int 0 0] } rfl s.toks
  have W := Walks.list (prog := prog) (w := w) hh s.heap.objs.size l (Nat.ne_of_lt (Heap.lt_size hg)) vs.toArray
  refine h _ _ _ C' ⟨⟨[s.heap.objs.size, l], fun i h => h.IsListIter s.heap.objs.size l i ∧ h.IsList l vs.toArray, (by simpa using W), fun i h st => ?_, fun b hb => ?_, ⟨_, C'.getM (i := 0) rfl, rfl, rfl⟩, isList_of (C'.know _ _ hl) e⟩⟩
  · obtain ⟨ob, h1, _⟩ := st.1; exact ⟨ob, h1⟩
  · rcases List.mem_cons.mp hb with rfl | hb
    · exact .inl rfl
    · have : b = l := by simpa using hb
      exact .inr ⟨o, this ▸ hl⟩

theorem it_rangeG {r : Addr} {o : Obj} {n : Int} {Q : Value → Shared → Prop} (hh : A.handled = none) (C : Cx B L G m ((r, o) :: mu) s) (ho : RgO o 0 n) (h0 : 0 ≤ n) (hn : n ≤ 1048576)
    (h : ∀ I oI s', Cx B L G m ((I, oI) :: mu) s' → Ito prog w A G I n.toNat (fun i v => ∃ t, v = .int (i : Int) t) s'.heap → Q (.ref I) s') : wpAny (model prog w) A (pyIter (.ref r)) Q E s := by
  obtain ⟨t, u, v, e⟩ := ho
  have hr := C.getM (i := 0) rfl
  rw [e] at hr
  refine wpAny_pyIter_range (a := 0) (b := n) (c := 1) hr (small_one (by omega) (by omega) (by omega) (by omega)) ?_
  have hsz : Builtin.Range.rangeSize 0 n 1 = n := by
    rw [rangeSize_one]; split <;> omega
  have C' := (pushed C { cls := .type "range_iterator", data := .fields #[rawInt 0, rawInt (Builtin.Range.rangeSize 0 n 1), rawInt 1] } rfl s.toks).drop (mu' := (s.heap.objs.size, _) :: mu) (List.Sublist.cons_cons _ (List.sublist_cons_self _ _))
  have W := Walks.range (prog := prog) (w := w) hh s.heap.objs.size 0 1 n.toNat
  refine h _ _ _ C' ⟨⟨_, _, W.weaken (fun i v q => ?_), fun i h st => ?_, fun b hb => .inl (by simpa using hb), ?_⟩⟩
  · obtain ⟨t, e⟩ := q; exact ⟨t, by rw [e]; simp⟩
  · exact ⟨_, st⟩
  · have := C'.getM (i := 0) rfl
    rw [hsz] at this
    show Heap.get? _ _ = _
    rw [show ((0 : Int) + ((0 : Nat) : Int) * 1) = 0 by simp, show ((n.toNat : Int) - ((0 : Nat) : Int)) = n by omega]
    simpa [hsz] using this

theorem r_forOn {x : Str} {px : Pos} {body : List Stmt} {I : Addr} {oI : Obj} {n : Nat} {P : Nat → Value → Prop} {R : Result → Shared → Prop}
    (hx : env.kindOf x = some .local) (hk : env.scope.kind = .function) (C : Cx B env.locals G m ((I, oI) :: mu) s) (T : Ito prog w A G I n P s.heap) (J : Nat → Kn → (Str → Option Value) → Mu → Prop) (h0 : J 0 G m mu)
    (step : ∀ i v B' G' m' mu' s' E', i < n → P i v → PinLe B B' → Le G G' → J i G' m' mu' → Cx B' env.locals G' (upd m' x v) mu' s' →
      wpAny (model prog w) A (execs body env) (fun f s'' => match f with
        | .next | .cont => ∃ G'' m'' mu'', Le G' G'' ∧ J (i + 1) G'' m'' mu'' ∧ Cx B' env.locals G'' m'' mu'' s''
        | .brk => False
        | .ret v => R (.ok (.ret v)) s'') E' s')
    (hR : ∀ G' m' mu' s', Le G G' → J n G' m' mu' → Cx B env.locals G' m' mu' s' → R (.ok .next) s') :
    codeAny (model prog w) A (.forLoop (.Name x px) (.ref I) body [] env) R s := by
  obtain ⟨fp, St, W, hob, hfp, st⟩ := T.out
  exact for_core hx hk W hob hfp C st J h0 step hR

/-- for x in range(..) -/
theorem r_forRange {x : Str} {px : Pos} {body : List Stmt} {r : Addr} {o : Obj} {n : Int} {R : Result → Shared → Prop}
    (C : Cx B env.locals G m ((r, o) :: mu) s) (ho : RgO o 0 n) (J : Nat → Kn → (Str → Option Value) → Mu → Prop) (h0 : J 0 G m mu) (h0n : 0 ≤ n) (hn : n ≤ 1048576)
    (step : ∀ (i : Nat) t B' G' m' mu' s' E', (i : Int) < n → PinLe B B' → Le G G' → J i G' m' mu' → Cx B' env.locals G' (upd m' x (.int i t)) mu' s' →
      wpAny (model prog w) A (execs body env) (fun f s'' => match f with
        | .next | .cont => ∃ G'' m'' mu'', Le G' G'' ∧ J (i + 1) G'' m'' mu'' ∧ Cx B' env.locals G'' m'' mu'' s''
        | .brk => False
        | .ret v => R (.ok (.ret v)) s'') E' s')
    (hR : ∀ G' m' mu' s', Le G G' → J n.toNat G' m' mu' → Cx B env.locals G' m' mu' s' → R (.ok .next) s')
    (hh : A.handled = none) (hx : env.kindOf x = some .local) (hk : env.scope.kind = .function) :
    wpAny (model prog w) A (pyIter (.ref r)) (fun it s₂ => codeAny (model prog w) A (.forLoop (.Name x px) it body [] env) R s₂) E s :=
  it_rangeG hh C ho h0n hn fun I oI s' D T => r_forOn hx hk D T J h0 (fun i v B' G' m' mu' s' E' hi q hB hG hJ D' => by
    obtain ⟨t, rfl⟩ := q; exact step i t B' G' m' mu' s' E' (by omega) hB hG hJ D') hR

/-- for x in a list that stands still -/
theorem r_forList {α : Type} {Rv : Value → α → Prop} {x : Str} {px : Pos} {body : List Stmt} {l : Addr} {o : Obj} {xs : List α} {R : Result → Shared → Prop}
    (C : Cx B env.locals G m mu s) (hl : G l = some o) (ho : OV Rv o xs) (J : Nat → Kn → (Str → Option Value) → Mu → Prop) (h0 : J 0 G m mu)
    (step : ∀ (i : Nat) v a B' G' m' mu' s' E', xs[i]? = some a → Rv v a → PinLe B B' → Le G G' → J i G' m' mu' → Cx B' env.locals G' (upd m' x v) mu' s' →
      wpAny (model prog w) A (execs body env) (fun f s'' => match f with
        | .next | .cont => ∃ G'' m'' mu'', Le G' G'' ∧ J (i + 1) G'' m'' mu'' ∧ Cx B' env.locals G'' m'' mu'' s''
        | .brk => False
        | .ret v => R (.ok (.ret v)) s'') E' s')
    (hR : ∀ G' m' mu' s', Le G G' → J xs.length G' m' mu' → Cx B env.locals G' m' mu' s' → R (.ok .next) s')
    (hh : A.handled = none) (hx : env.kindOf x = some .local) (hk : env.scope.kind = .function) :
    wpAny (model prog w) A (pyIter (.ref l)) (fun it s₂ => codeAny (model prog w) A (.forLoop (.Name x px) it body [] env) R s₂) E s := by
  obtain ⟨vs, n, e, p⟩ := id ho
  refine it_listG hh C hl e fun I oI s' D T => r_forOn hx hk D T J h0 (fun i v B' G' m' mu' s' E' hi hv hB hG hJ D' => ?_) (by rw [p.length]; exact hR)
  obtain ⟨a, ha, hRv⟩ := pr_atv p hv
  exact step i v a B' G' m' mu' s' E' ha hRv hB hG hJ D'

/-- for x in a list just made -/
theorem r_forNew {α : Type} {Rv : Value → α → Prop} {x : Str} {px : Pos} {body : List Stmt} {l : Addr} {o : Obj} {xs : List α} {R : Result → Shared → Prop}
    (C : Cx B env.locals G m ((l, o) :: mu) s) (ho : OV Rv o xs) (J : Nat → Kn → (Str → Option Value) → Mu → Prop) (h0 : ∀ G', Le G G' → J 0 G' m mu)
    (step : ∀ (i : Nat) v a B' G' m' mu' s' E', xs[i]? = some a → Rv v a → PinLe B B' → Le G G' → J i G' m' mu' → Cx B' env.locals G' (upd m' x v) mu' s' →
      wpAny (model prog w) A (execs body env) (fun f s'' => match f with
        | .next | .cont => ∃ G'' m'' mu'', Le G' G'' ∧ J (i + 1) G'' m'' mu'' ∧ Cx B' env.locals G'' m'' mu'' s''
        | .brk => False
        | .ret v => R (.ok (.ret v)) s'') E' s')
    (hR : ∀ G' m' mu' s', Le G G' → J xs.length G' m' mu' → Cx B env.locals G' m' mu' s' → R (.ok .next) s')
    (hh : A.handled = none) (hx : env.kindOf x = some .local) (hk : env.scope.kind = .function) :
    wpAny (model prog w) A (pyIter (.ref l)) (fun it s₂ => codeAny (model prog w) A (.forLoop (.Name x px) it body [] env) R s₂) E s := by
  obtain ⟨G1, hG, hl, D⟩ := C.freeze (i := 0) rfl
  exact r_forList D hl ho J (h0 _ hG) (fun i v a B' G' m' mu' s' E' h1 h2 h3 h4 => step i v a B' G' m' mu' s' E' h1 h2 h3 (hG.trans h4)) (fun G' m' mu' s' h => hR G' m' mu' s' (hG.trans h)) hh hx hk
end
end Mine
namespace Mine
open PySem PySem.W PySem.Calls PyProof.Rows

/-- a block's tests -/
abbrev tests (ifs : List Expr) (env : Env) : Sem Bool := forIn ifs true fun c r => if r = true then do let ok ← isTrue c env (eval c env); pure (ForInStep.yield ok) else pure (ForInStep.yield r)

section
variable {M : Model} {A : Around} {E : Value → Shared → Prop} {s : Shared} {env : Env}
theorem tests_nil {Q : Bool → Shared → Prop} (h : Q true s) : wpAny M A (tests [] env) Q E s := by
  unfold tests; rw [List.forIn_nil]; exact wpAny_pure h
theorem tests_one {c : Expr} {Q : Bool → Shared → Prop} (h : wpAny M A (isTrue c env (eval c env)) Q E s) : wpAny M A (tests [c] env) Q E s := by
  unfold tests; rw [List.forIn_cons]
  refine wpAny_bind ?_
  rw [if_pos rfl]
  refine wpAny_bind (wpAny_mono h (fun b s₁ h₁ => wpAny_pure ?_) fun _ _ x => x)
  show wpAny M A (forIn [] b _) Q E s₁
  rw [List.forIn_nil]; exact wpAny_pure h₁

theorem newFunctionEnv_cell {scope : Scope} {globals : Addr} {cl : List (Str × Addr)} {qual : Str} {x : Str} {Q : Env → Shared → Prop}
    (hc : ∀ k, cellsFrom k scope.names cl = (x, k) :: cl) (hp : ∀ h : Heap, pushCells h scope.names = h.push { cls := .type "cell", data := .cell none })
    (hQ : Q (newEnv scope s.heap.objs.size globals ((x, s.heap.objs.size + 1) :: cl) qual none .none (some env) builtinsNs) { s with heap := (s.heap.push { cls := .type "dict", data := .dict #[] }).push { cls := .type "cell", data := .cell none } }) :
    wpAny M A (newFunctionEnv scope globals cl [] qual none .none (some env)) Q E s := by
  simp only [newFunctionEnv, Option.isSome_some, if_true]
  refine wpAny_bind (wpAny_alloc ?_)
  refine wpAny_bind (wpAny_layCells _ (fun name kind cells => by cases hkc : kind == NameKind.cell <;> simp [hkc]) _ _ _ _ ?_)
  rw [show ({ s with heap := s.heap.push { cls := .type "dict", data := .dict #[] } } : Shared).heap.objs.size = s.heap.objs.size + 1 from Heap.size_push .., hc, hp]
  refine wpAny_bind ?_
  rw [List.forIn_nil]
  exact wpAny_pure (wpAny_pure hQ)
end

section
variable {prog : Program} {w : World} {A : Around} {E : Value → Shared → Prop} {B : Pin} {L : Addr} {G : Kn} {m : Str → Option Value} {mu : Mu} {s : Shared} {env : Env}

/-- an object that is let go -/
theorem Cx.lost {a : Addr} {o : Obj} (C : Cx B L G m ((a, o) :: mu) s) {h' : Heap} {n : Nat} (hs : ∀ b ob, b ≠ a → s.heap.get? b = some ob → h'.get? b = some ob) : Cx B L G m mu { s with heap := h', toks := n } := by
  have D0 := C.drop (mu' := mu) (List.sublist_cons_self _ _)
  have hI := C.mvs (a, o) (.head _)
  obtain ⟨oL, es, ep, h1, h2⟩ := D0.ns
  exact ⟨⟨oL, es, ep, hs _ _ hI.2.2.1.symm h1, h2⟩, D0.offL, fun b ob e => hs _ _ (fun q => by rw [q, hI.2.1] at e; cases e) (D0.know _ _ e), fun p hp => ⟨hs _ _ (fun q => (List.nodup_cons.mp C.nd).1 (mem_fst hp q)) (D0.mvs p hp).1, (D0.mvs p hp).2⟩, D0.nd, D0.bG, D0.gens, D0.drawn, D0.os, D0.ab, fun b ob e => hs _ _ (fun q => by rw [q, hI.2.2.2] at e; cases e) (D0.pin _ _ e), D0.zL, D0.zG⟩
theorem Cx.swap {p q : Addr × Obj} (C : Cx B L G m (p :: q :: mu) s) : Cx B L G m (q :: p :: mu) s := C.perm (List.Perm.swap _ _ _)
theorem Cx.rot {p q r : Addr × Obj} (C : Cx B L G m (p :: q :: r :: mu) s) : Cx B L G m (r :: p :: q :: mu) s := C.perm (((List.Perm.swap r q mu).cons p).trans (List.Perm.swap r p _)).symm

theorem comp_go {β : Type} {Rv : Value → β → Prop} {elt iter : Expr} {x : Str} {px : Pos} {ifs : List Expr} {scope : Scope} {pos : Pos} {I D : Addr} {oI oD : Obj} {n : Nat} {P : Nat → Value → Prop} {R : Result → Shared → Prop} {cenv : Env} {mc : Str → Option Value}
    (hx : cenv.kindOf x = some .local) (hk : cenv.scope.kind = .function) (C : Cx B cenv.locals G mc ((D, oD) :: (I, oI) :: mu) s) (hD : OV Rv oD []) (T : Ito prog w A G I n P s.heap) (hn : n ≤ 1048576)
    (J : Nat → Kn → Mu → List β → Prop) (h0 : J 0 G mu [])
    (step : ∀ i v B' G' mc mu' ys s' E', i < n → P i v → PinLe B B' → Le G G' → J i G' mu' ys → mc x = some v → Cx B' cenv.locals G' mc mu' s' →
      wpAny (model prog w) A (tests ifs cenv) (fun ok s₃ => if ok = true then wpAny (model prog w) A (eval elt cenv) (fun y s₄ => ∃ b G'' mc'' mu'', Rv y b ∧ Le G' G'' ∧ J (i + 1) G'' mu'' (ys ++ [b]) ∧ Cx B' cenv.locals G'' mc'' mu'' s₄) E' s₃
        else ∃ G'' mc'' mu'', Le G' G'' ∧ J (i + 1) G'' mu'' ys ∧ Cx B' cenv.locals G'' mc'' mu'' s₃) E' s')
    (hR : ∀ G' mc' mu' ys oD' s', Le G G' → J n G' mu' ys → OV Rv oD' ys → Cx B cenv.locals G' mc' ((D, oD') :: mu') s' → R (.ok .next) s') :
    codeAny (model prog w) A (.compLoop (.ListComp elt [⟨.Name x px, iter, ifs, 0⟩] scope pos) 0 (.ref I) (.ref D) cenv) R s := by
  obtain ⟨fp, St, W, hob, hfp, st⟩ := T.out
  refine codeAny_compLoop_tests (fun k s' => ∃ i G' mc' mu' oI' oD' ys, k = n + 1 - i ∧ i ≤ n ∧ ys.length ≤ i ∧ Le G G' ∧ J i G' mu' ys ∧ OV Rv oD' ys ∧ St i s'.heap ∧ Cx B cenv.locals G' mc' ((D, oD') :: (I, oI') :: mu') s') ?_ (n + 1)
    ⟨0, G, mc, mu, oI, oD, [], rfl, Nat.zero_le _, Nat.zero_le _, Le.rfl', h0, hD, st, C⟩
  rintro k s' ⟨i, G', mc', mu', oI', oD', ys, rfl, hi, hyl, hG, hJ, hys, hst, K⟩
  rcases Nat.lt_or_ge i n with hlt | hge
  · refine W.item i s' _ _ hlt hst fun v h' tk hP hst' hkeep => ?_
    obtain ⟨o', ho'⟩ := hob _ _ hst'
    have D1 : Cx B cenv.locals G' mc' ((I, o') :: (D, oD') :: mu') { s' with heap := h', toks := tk } := (K.swap).turnedE (fun b ob hb e => hkeep b ob (by simpa using hb) e) ho'
    have D2 := D1.hide0
    have D2z := D1.none_of
    have D3 := D2.hide0
    have D3z := D2.none_of
    have hIz : ((B.add I o').add D oD').z I = some o' := (PinLe.add D3z).2 _ _ Pin.add_get
    have hPin : PinLe B ((B.add I o').add D oD') := (PinLe.add D2z).trans (PinLe.add D3z)
    refine wpAny_assign_Name (r_store D3 hk hx fun s₂ D4 => ?_)
    refine wpAny_mono (step i v _ G' _ mu' ys _ _ hlt hP hPin hG hJ (by simp [upd]) D4) (fun ok s₃ hf => ?_) fun _ _ x => x
    have stn : ∀ (G'' : Kn) (s₄ : Shared), Le G' G'' → s₄.heap.get? I = some o' → (∀ b ob, G'' b = some ob → s₄.heap.get? b = some ob) → St (i + 1) s₄.heap := fun G'' s₄ hle hIg hkn => by
      refine W.frame _ _ _ hst' fun b hb ob e => ?_
      rcases hfp b hb with rfl | ⟨og, hg⟩
      · have e' : h'.get? b = some ob := e
        rw [ho'] at e'; cases e'; exact hIg
      · have h1 : s'.heap.get? b = some og := K.know _ _ (hG _ _ hg)
        have hne : b ≠ I := fun q => by
          have := (K.swap.mvs (I, oI') (.head _)).2.1
          have h2 := hG _ _ hg
          rw [q] at h2; rw [h2] at this; cases this
        have h3 : h'.get? b = some og := hkeep b og (by simpa using hne) h1
        rw [e] at h3; cases h3
        exact hkn _ _ (hle _ _ (hG _ _ hg))
    cases ok with
    | false =>
      simp only [Bool.false_eq_true, if_false] at hf ⊢
      obtain ⟨G'', mc'', mu'', hG', hJ', D5⟩ := hf
      refine ⟨n + 1 - (i + 1), by omega, i + 1, G'', mc'', mu'', o', oD', ys, rfl, hlt, by omega, hG.trans hG', hJ', hys, stn G'' s₃ hG' (D5.pin _ _ hIz) D5.know, ?_⟩
      
      exact ((D5.show' D3z).show' D2z).swap
    | true =>
      simp only [if_true] at hf ⊢
      refine wpAny_mono hf (fun y s₄ h₄ => ?_) fun _ _ x => x
      obtain ⟨b, G'', mc'', mu'', hRv, hG', hJ', D5⟩ := h₄
      have hIg := D5.pin _ _ hIz
      refine r_append (i := 0) (x := b) (D5.show' D3z) rfl hys hRv (by omega) fun o'' s₅ hys' D6 => ?_
      have D7 : Cx B cenv.locals G'' mc'' ((D, o'') :: (I, o') :: mu'') s₅ := (D6.show' D2z).swap
      exact ⟨n + 1 - (i + 1), by omega, i + 1, G'', mc'', mu'', o', o'', ys ++ [b], rfl, hlt, by simp; omega, hG.trans hG', hJ', hys', stn G'' s₅ hG' (D7.getL (by simp)) D7.know, D7⟩
  · have e : i = n := by omega
    subst e
    refine W.done s' _ _ hst fun h' tk hkeep => ?_
    have D1 : Cx B cenv.locals G' mc' ((D, oD') :: mu') { s' with heap := h', toks := tk } := (K.swap).lost (fun b ob hb e => hkeep b ob (by simpa using hb) e)
    exact hR G' mc' mu' ys oD' _ hG hJ hys D1

theorem comp_goC {β : Type} {Rv : Value → β → Prop} {elt iter : Expr} {x : Str} {px : Pos} {ifs : List Expr} {scope : Scope} {pos : Pos} {I D : Addr} {oI oD : Obj} {n : Nat} {P : Nat → Value → Prop} {R : Result → Shared → Prop} {cenv : Env} {mc : Str → Option Value}
    {c : Addr} {oc : Obj} {v₀ : Option Value} (hx : cenv.kindOf x = some .cell) (hcl : cenv.cells.lookup x = some c) (hk : cenv.scope.kind = .function) (C : Cx B cenv.locals G mc ((c, oc) :: (D, oD) :: (I, oI) :: mu) s) (hD : OV Rv oD []) (hoc : oc.data = .cell v₀) (T : Ito prog w A G I n P s.heap) (hn : n ≤ 1048576)
    (J : Nat → Kn → Mu → List β → Prop) (h0 : J 0 G mu [])
    (step : ∀ i v B' G' mc mu' ys s' E', i < n → P i v → PinLe B B' → Le G G' → J i G' mu' ys → (∃ o, B'.z c = some o ∧ o.data = .cell (some v)) → Cx B' cenv.locals G' mc mu' s' →
      wpAny (model prog w) A (tests ifs cenv) (fun ok s₃ => if ok = true then wpAny (model prog w) A (eval elt cenv) (fun y s₄ => ∃ b G'' mc'' mu'', Rv y b ∧ Le G' G'' ∧ J (i + 1) G'' mu'' (ys ++ [b]) ∧ Cx B' cenv.locals G'' mc'' mu'' s₄) E' s₃
        else ∃ G'' mc'' mu'', Le G' G'' ∧ J (i + 1) G'' mu'' ys ∧ Cx B' cenv.locals G'' mc'' mu'' s₃) E' s')
    (hR : ∀ G' mc' mu' ys oD' s', Le G G' → J n G' mu' ys → OV Rv oD' ys → Cx B cenv.locals G' mc' ((D, oD') :: mu') s' → R (.ok .next) s') :
    codeAny (model prog w) A (.compLoop (.ListComp elt [⟨.Name x px, iter, ifs, 0⟩] scope pos) 0 (.ref I) (.ref D) cenv) R s := by
  obtain ⟨fp, St, W, hob, hfp, st⟩ := T.out
  refine codeAny_compLoop_tests (fun k s' => ∃ i G' mc' mu' oI' oD' ys oc v₀, k = n + 1 - i ∧ i ≤ n ∧ ys.length ≤ i ∧ Le G G' ∧ J i G' mu' ys ∧ OV Rv oD' ys ∧ St i s'.heap ∧ oc.data = .cell v₀ ∧ Cx B cenv.locals G' mc' ((c, oc) :: (D, oD') :: (I, oI') :: mu') s') ?_ (n + 1)
    ⟨0, G, mc, mu, oI, oD, [], oc, v₀, rfl, Nat.zero_le _, Nat.zero_le _, Le.rfl', h0, hD, st, hoc, C⟩
  rintro k s' ⟨i, G', mc', mu', oI', oD', ys, oc, v₀, rfl, hi, hyl, hG, hJ, hys, hst, hoc, K⟩
  rcases Nat.lt_or_ge i n with hlt | hge
  · refine W.item i s' _ _ hlt hst fun v h' tk hP hst' hkeep => ?_
    obtain ⟨o', ho'⟩ := hob _ _ hst'
    have D1 : Cx B cenv.locals G' mc' ((I, o') :: (c, oc) :: (D, oD') :: mu') { s' with heap := h', toks := tk } := (K.rot).turnedE (fun b ob hb e => hkeep b ob (by simpa using hb) e) ho'
    refine wpAny_assign_Name (wpAny_storeName_cell hk hx hcl ⟨oc, D1.getM (i := 1) rfl, hoc⟩ fun h₂ hv hs => ?_)
    obtain ⟨oc', hoc1, hoc2⟩ := hv
    have Da := D1.swap.turnedE (n := tk) (fun b ob hb e => (hs.2 b hb).trans e) hoc1
    have D2 := Da.hide0.hide0
    have D2z := Da.hide0.none_of
    have D3 := D2.hide0
    have D3z := D2.none_of
    have hcz : (((B.add c oc').add I o').add D oD').z c = some oc' := (PinLe.add D3z).2 _ _ ((PinLe.add D2z).2 _ _ Pin.add_get)
    have hIz : (((B.add c oc').add I o').add D oD').z I = some o' := (PinLe.add D3z).2 _ _ Pin.add_get
    have hPin : PinLe B (((B.add c oc').add I o').add D oD') := ((PinLe.add Da.none_of).trans (PinLe.add D2z)).trans (PinLe.add D3z)
    refine wpAny_mono (step i v _ G' mc' mu' ys _ _ hlt hP hPin hG hJ ⟨oc', hcz, hoc2⟩ D3) (fun ok s₃ hf => ?_) fun _ _ x => x
    have stn : ∀ (G'' : Kn) (s₄ : Shared), Le G' G'' → s₄.heap.get? I = some o' → (∀ b ob, G'' b = some ob → s₄.heap.get? b = some ob) → St (i + 1) s₄.heap := fun G'' s₄ hle hIg hkn => by
      refine W.frame _ _ _ hst' fun b hb ob e => ?_
      rcases hfp b hb with rfl | ⟨og, hg⟩
      · have e' : h'.get? b = some ob := e
        rw [ho'] at e'; cases e'; exact hIg
      · have h1 : s'.heap.get? b = some og := K.know _ _ (hG _ _ hg)
        have hne : b ≠ I := fun q => by
          have := (K.rot.mvs (I, oI') (.head _)).2.1
          have h2 := hG _ _ hg
          rw [q] at h2; rw [h2] at this; cases this
        have h3 : h'.get? b = some og := hkeep b og (by simpa using hne) h1
        rw [e] at h3; cases h3
        exact hkn _ _ (hle _ _ (hG _ _ hg))
    cases ok with
    | false =>
      simp only [Bool.false_eq_true, if_false] at hf ⊢
      obtain ⟨G'', mc'', mu'', hG', hJ', D5⟩ := hf
      refine ⟨n + 1 - (i + 1), by omega, i + 1, G'', mc'', mu'', o', oD', ys, oc', some v, rfl, hlt, by omega, hG.trans hG', hJ', hys, stn G'' s₃ hG' (D5.pin _ _ hIz) D5.know, hoc2, ?_⟩
      
      exact ((D5.show' D3z).show' D2z).swap.show' Da.none_of
    | true =>
      simp only [if_true] at hf ⊢
      refine wpAny_mono hf (fun y s₄ h₄ => ?_) fun _ _ x => x
      obtain ⟨b, G'', mc'', mu'', hRv, hG', hJ', D5⟩ := h₄
      have hIg := D5.pin _ _ hIz
      refine r_append (i := 0) (x := b) (D5.show' D3z) rfl hys hRv (by omega) fun o'' s₅ hys' D6 => ?_
      have D7 : Cx B cenv.locals G'' mc'' ((c, oc') :: (D, o'') :: (I, o') :: mu'') s₅ := (D6.show' D2z).swap.show' Da.none_of
      exact ⟨n + 1 - (i + 1), by omega, i + 1, G'', mc'', mu'', o', o'', ys ++ [b], oc', some v, rfl, hlt, by simp; omega, hG.trans hG', hJ', hys', stn G'' s₅ hG' (D7.getL (by simp)) D7.know, hoc2, D7⟩
  · have e : i = n := by omega
    subst e
    refine W.done s' _ _ hst fun h' tk hkeep => ?_
    have D1 : Cx B cenv.locals G' mc' ((c, oc) :: (D, oD') :: mu') { s' with heap := h', toks := tk } := (K.rot).lost (fun b ob hb e => hkeep b ob (by simpa using hb) e)
    exact hR G' mc' mu' ys oD' _ hG hJ hys (D1.drop (List.sublist_cons_self _ _))
end
end Mine
namespace Mine
open PySem PySem.W PySem.Calls PyProof.Rows

section
variable {B : Pin} {L : Addr} {G : Kn} {m : Str → Option Value} {mu : Mu} {s : Shared}
theorem Cx.leaveN (C : Cx B L G m mu s) {oL : Obj} (hoL : s.heap.get? L = some oL) {B' : Pin} (x : PinLe (B.add L oL) B') {L' : Addr} {G' : Kn} {m' : Str → Option Value} {mu' : Mu} {s' : Shared} (D : Cx B' L' G' m' mu' s') :
    ∃ oC, Cx B L G' m ((L', oC) :: mu') s' ∧ s'.heap.Ns L' m' := by
  have K := C.leave hoL x D
  obtain ⟨oC, es, ep, h1, h2⟩ := id D.ns
  have hz : B'.z L = some oL := x.2 _ _ Pin.add_get
  refine ⟨oC, ⟨K.ns, K.offL, K.know, fun p hp => ?_, List.nodup_cons.mpr ⟨fun h => ?_, K.nd⟩, K.bG, K.gens, K.drawn, K.os, K.ab, K.pin, K.zL, K.zG⟩, D.ns⟩
  · rcases List.mem_cons.mp hp with rfl | hp
    · refine ⟨h1, D.offL, fun h => ?_, ((PinLe.add C.zL).trans x).none D.zL⟩
      have h' : L' = L := h
      have := D.zL; rw [h', hz] at this; cases this
    · exact K.mvs p hp
  · obtain ⟨p, hp, e⟩ := List.mem_map.mp h
    exact (D.mvs p hp).2.2.1 e
end

section
variable {prog : Program} {w : World} {A : Around} {E : Value → Shared → Prop} {B : Pin} {G : Kn} {m : Str → Option Value} {mu : Mu} {s : Shared} {env : Env}

theorem post_none {Q : Value → Shared → Prop} {D Cc : Addr} {oD oC : Obj} {mC : Str → Option Value} (C : Cx B env.locals G m ((Cc, oC) :: (D, oD) :: mu) s) (hn : s.heap.Ns Cc mC)
    (h : ∀ s'', Cx B env.locals G m ((D, oD) :: mu) s'' → Q (.ref D) s'') : compPost (model prog w) A E none Q (.ref D) Cc (.ok .next) s :=
  ⟨mC, hn, fun h' hs => h _ (C.lost (n := s.toks) fun b ob hb e => (hs.2 b hb).trans e)⟩
theorem post_use {Q : Value → Shared → Prop} {D Cc : Addr} {oD oC : Obj} {mC : Str → Option Value} {y : Str} {py : Pos} (C : Cx B env.locals G m ((Cc, oC) :: (D, oD) :: mu) s) (hn : s.heap.Ns Cc mC)
    (hk : env.scope.kind = .function) (hy : env.kindOf y = some .local)
    (h : ∀ s'', Cx B env.locals G (upd m y (.ref D)) ((D, oD) :: mu) s'' → Q .none s'') : compPost (model prog w) A E (some (assign (.Name y py) env)) Q (.ref D) Cc (.ok .next) s := by
  show wpAny (model prog w) A (assign (.Name y py) env (.ref D)) _ E s
  refine wpAny_assign_Name (wpAny_storeName_local hy C.ns (fun h₂ hn₂ hs₂ => ?_) (by rw [hk]; rfl))
  have C2 := C.stored (n := s.toks + 1) hn₂ hs₂
  exact ⟨mC, hn.sameBut hs₂ (C.mvs (Cc, oC) (.head _)).2.2.1, fun h' hs => h _ (C2.lost (n := s.toks + 1) fun b ob hb e => (hs.2 b hb).trans e)⟩

theorem Ito.at' {I : Addr} {n : Nat} {P : Nat → Value → Prop} {h h' : Heap} (T : Ito prog w A G I n P h) (hI : ∀ o, h.get? I = some o → h'.get? I = some o) (hG : ∀ b og, G b = some og → h.get? b = some og ∧ h'.get? b = some og) : Ito prog w A G I n P h' := by
  obtain ⟨fp, St, W, hob, hfp, st⟩ := T.out
  refine ⟨⟨fp, St, W, hob, hfp, W.frame _ _ _ st fun b hb ob e => ?_⟩⟩
  rcases hfp b hb with rfl | ⟨og, hg⟩
  · exact hI _ e
  · obtain ⟨h1, h2⟩ := hG _ _ hg
    rw [e] at h1; cases h1; exact h2
theorem Ito.self {I : Addr} {n : Nat} {P : Nat → Value → Prop} (T : Ito prog w A G I n P s.heap) {Q : Value → Shared → Prop} (h : Q (.ref I) s) : wpAny (model prog w) A (pyIter (.ref I)) Q E s := by
  obtain ⟨fp, St, W, hob, hfp, st⟩ := T.out
  exact W.self 0 _ _ _ st h

abbrev compBlk (prog : Program) (w : World) (A : Around) (E : Value → Shared → Prop) (elt iter : Expr) (x : Str) (px : Pos) (ifs : List Expr) (scope : Scope) (pos : Pos) (cl : List (Str × Addr)) (env : Env) (RR : Value → Addr → Result → Shared → Prop) (it : Value) (s : Shared) : Prop :=
  wpAny (model prog w) A (newList []) (fun acc s₃ => wpAny (model prog w) A (newFunctionEnv scope env.globals cl [] env.qual none .none (some env)) (fun cenv s₄ =>
      codeAny (model prog w) A (.compStart (.ListComp elt [⟨.Name x px, iter, ifs, 0⟩] scope pos) 0 it acc { cenv with scope := relabel scope env }) (RR acc cenv.locals) s₄) E s₃) E s

/-- a block as a value -/
theorem r_comp {elt iter : Expr} {x : Str} {px : Pos} {ifs : List Expr} {scope : Scope} {cl : List (Str × Addr)} {pos : Pos} {Q : Value → Shared → Prop}
    (hclos : closureFor scope env = pure cl) (hkind : scope.kind = .function) (hnames : ∀ y ∈ scope.names, y.2 = .local → scope.names.lookup y.1 = some .local)
    (h : wpAny (model prog w) A (eval iter env) (fun xv s₁ => wpAny (model prog w) A (pyIter xv) (fun it s₂ => compBlk prog w A E elt iter x px ifs scope pos cl env (compPost (model prog w) A E none Q) it s₂) E s₁) E s)
    (hs : ∀ x, foldedSetIterable iter env x = pure x := by intro _; rfl) :
    wpAny (model prog w) A (eval (.ListComp elt [⟨.Name x px, iter, ifs, 0⟩] scope pos) env) Q E s := by
  rw [eval_ListComp]
  exact wpAny_comprehension_free (use := none) rfl hs hclos hkind hnames h
/-- a block that is stored in a name -/
theorem r_compA {elt iter : Expr} {x y : Str} {px py spos : Pos} {ifs : List Expr} {scope : Scope} {cl : List (Str × Addr)} {pos : Pos} {Q : Flow → Shared → Prop}
    (hsw : swapsWith (.ListComp elt [⟨.Name x px, iter, ifs, 0⟩] scope pos) (some (.Name y py)) spos.line env = pure true)
    (hclos : closureFor scope env = pure cl) (hkind : scope.kind = .function) (hnames : ∀ y ∈ scope.names, y.2 = .local → scope.names.lookup y.1 = some .local)
    (h : wpAny (model prog w) A (eval iter env) (fun xv s₁ => wpAny (model prog w) A (pyIter xv) (fun it s₂ => compBlk prog w A E elt iter x px ifs scope pos cl env (compPost (model prog w) A E (some (assign (.Name y py) env)) fun _ s' => Q .next s') it s₂) E s₁) E s)
    (hs : ∀ x, foldedSetIterable iter env x = pure x := by intro _; rfl) :
    wpAny (model prog w) A (exec (.Assign [.Name y py] (.ListComp elt [⟨.Name x px, iter, ifs, 0⟩] scope pos) spos) env) Q E s := by
  rw [exec_Assign_Name_used _ _ _ _ hsw]
  refine wpAny_bind (wpAny_standAt (wpAny_bind ?_))
  show wpAny _ A (do let _ ← comprehension (.ListComp elt [⟨.Name x px, iter, ifs, 0⟩] scope pos) scope env _ (newList []) false (eval iter env) (some (assign (.Name y py) env))) _ _ s
  exact wpAny_bind (wpAny_mono (wpAny_comprehension_free (use := some (assign (.Name y py) env)) (Q := fun _ s' => Q .next s') rfl hs hclos hkind hnames h) (fun _ s' hq => wpAny_pure (wpAny_pure hq)) fun _ _ e => e)

theorem comp_blk {β : Type} {Rv : Value → β → Prop} {elt iter : Expr} {x : Str} {px : Pos} {ifs : List Expr} {scope : Scope} {cl : List (Str × Addr)} {pos : Pos} {I : Addr} {oI : Obj} {n : Nat} {P : Nat → Value → Prop} {RR : Value → Addr → Result → Shared → Prop}
    (hkx : scope.names.lookup x = some .local) (hcell : ∀ y ∈ scope.names, y.2 ≠ .cell) (hkind : scope.kind = .function) (C : Cx B env.locals G m ((I, oI) :: mu) s) (T : Ito prog w A G I n P s.heap) (hn : n ≤ 1048576)
    (J : Nat → Kn → Mu → List β → Prop) (h0 : J 0 G mu [])
    (step : ∀ (Cc : Addr) i v (_ : i < n) (_ : P i v) B' G' mc mu' ys s' E', PinLe B B' → Le G G' → J i G' mu' ys → mc x = some v → Cx B' Cc G' mc mu' s' →
      wpAny (model prog w) A (tests ifs (compEnvC scope cl Cc env)) (fun ok s₃ => if ok = true then wpAny (model prog w) A (eval elt (compEnvC scope cl Cc env)) (fun y s₄ => ∃ b G'' mc'' mu'', Rv y b ∧ Le G' G'' ∧ J (i + 1) G'' mu'' (ys ++ [b]) ∧ Cx B' Cc G'' mc'' mu'' s₄) E' s₃
        else ∃ G'' mc'' mu'', Le G' G'' ∧ J (i + 1) G'' mu'' ys ∧ Cx B' Cc G'' mc'' mu'' s₃) E' s')
    (hR : ∀ G' mu' ys D oD Cc oC mC s', Le G G' → J n G' mu' ys → OV Rv oD ys → Cx B env.locals G' m ((Cc, oC) :: (D, oD) :: mu') s' → s'.heap.Ns Cc mC → RR (.ref D) Cc (.ok .next) s') :
    compBlk prog w A E elt iter x px ifs scope pos cl env RR (.ref I) s := by
  refine r_newList (R := Rv) (xs := []) C .nil (by simp) fun D oD s₃ hD C3 => ?_
  refine wpAny_newFunctionEnv hcell (by intro y hy; simp at hy) (fun h₁ hns₁ hsb₁ => ?_) hkind
  have k1 : ∀ b o, s₃.heap.get? b = some o → h₁.get? b = some o := fun b o e => hsb₁.extBut b o (Nat.ne_of_lt (Heap.lt_size e)) (Heap.get?_push_of_some _ e)
  have hfresh : s₃.heap.get? s₃.heap.objs.size = none := by
    cases q : s₃.heap.get? s₃.heap.objs.size with
    | none => rfl
    | some o' => exact absurd (Heap.lt_size q) (Nat.lt_irrefl _)
  obtain ⟨oL', hoL', K⟩ := C3.enter (n := s₃.toks + ([] : List (Str × Value)).length) k1 hns₁ hfresh (Nat.le_of_lt (Nat.lt_of_le_of_lt C3.ab C3.ltL))
  have hP1 := PinLe.add (o := oL') C3.zL
  have T' := T.at' (h' := _) (fun o e => by
    have h1 := C.getM (i := 0) rfl
    rw [h1] at e; cases e; exact K.getL (by simp)) (fun b og e => ⟨C.know _ _ e, K.know _ _ e⟩)
  have loop := comp_go (cenv := compEnvC scope cl s₃.heap.objs.size env) (lookup_relabel_local hkx) hkind K hD T' hn J h0 (fun i v B' G' mc mu' ys s' E' hi hv hB hG hJ hb D' => step _ i v hi hv B' G' mc mu' ys s' E' (hP1.trans hB) hG hJ hb D') (R := RR (.ref D) s₃.heap.objs.size) (elt := elt) (iter := iter) (px := px) (ifs := ifs) (scope := scope) (pos := pos)
        (fun G' mc' mu' ys oD' s' hG hJ hys D' => by
          obtain ⟨oC, F, hns⟩ := C3.leaveN hoL' PinLe.rfl' D'
          exact hR G' mu' ys D oD' _ oC _ s' hG hJ hys F hns)
  exact codeAny_compStart_list loop (T'.self loop)

theorem comp_blkC {β : Type} {Rv : Value → β → Prop} {elt iter : Expr} {x : Str} {px : Pos} {ifs : List Expr} {scope : Scope} {cl : List (Str × Addr)} {pos : Pos} {I : Addr} {oI : Obj} {n : Nat} {P : Nat → Value → Prop} {RR : Value → Addr → Result → Shared → Prop}
    (hkx : (relabel scope env).names.lookup x = some .cell) (hc : ∀ k, cellsFrom k scope.names cl = (x, k) :: cl) (hp : ∀ h : Heap, pushCells h scope.names = h.push { cls := .type "cell", data := .cell none }) (hkind : scope.kind = .function) (C : Cx B env.locals G m ((I, oI) :: mu) s) (T : Ito prog w A G I n P s.heap) (hn : n ≤ 1048576)
    (J : Nat → Kn → Mu → List β → Prop) (h0 : J 0 G mu [])
    (step : ∀ (Cc c : Addr) i v (_ : i < n) (_ : P i v) B' G' mc mu' ys s' E', PinLe B B' → Le G G' → J i G' mu' ys → (∃ o, B'.z c = some o ∧ o.data = .cell (some v)) → Cx B' Cc G' mc mu' s' →
      wpAny (model prog w) A (tests ifs (compEnvC scope ((x, c) :: cl) Cc env)) (fun ok s₃ => if ok = true then wpAny (model prog w) A (eval elt (compEnvC scope ((x, c) :: cl) Cc env)) (fun y s₄ => ∃ b G'' mc'' mu'', Rv y b ∧ Le G' G'' ∧ J (i + 1) G'' mu'' (ys ++ [b]) ∧ Cx B' Cc G'' mc'' mu'' s₄) E' s₃
        else ∃ G'' mc'' mu'', Le G' G'' ∧ J (i + 1) G'' mu'' ys ∧ Cx B' Cc G'' mc'' mu'' s₃) E' s')
    (hR : ∀ G' mu' ys D oD Cc oC mC s', Le G G' → J n G' mu' ys → OV Rv oD ys → Cx B env.locals G' m ((Cc, oC) :: (D, oD) :: mu') s' → s'.heap.Ns Cc mC → RR (.ref D) Cc (.ok .next) s') :
    compBlk prog w A E elt iter x px ifs scope pos cl env RR (.ref I) s := by
  refine r_newList (R := Rv) (xs := []) C .nil (by simp) fun D oD s₃ hD C3 => ?_
  refine newFunctionEnv_cell hc hp ?_
  have hfresh : s₃.heap.get? s₃.heap.objs.size = none := by
    cases q : s₃.heap.get? s₃.heap.objs.size with
    | none => rfl
    | some o' => exact absurd (Heap.lt_size q) (Nat.lt_irrefl _)
  obtain ⟨oL', hoL', K0⟩ := C3.enter (n := s₃.toks) (h' := s₃.heap.push { cls := .type "dict", data := .dict #[] }) (fun b o e => Heap.get?_push_of_some _ e) (Heap.Ns.new _ _) hfresh (Nat.le_of_lt (Nat.lt_of_le_of_lt C3.ab C3.ltL))
  have K := pushed K0 { cls := .type "cell", data := .cell none } rfl s₃.toks
  rw [show ({ s₃ with heap := s₃.heap.push { cls := .type "dict", data := .dict #[] } } : Shared).heap.objs.size = s₃.heap.objs.size + 1 from Heap.size_push ..] at K
  have hP1 := PinLe.add (o := oL') C3.zL
  have T' := T.at' (h' := _) (fun o e => by
    have h1 := C.getM (i := 0) rfl
    rw [h1] at e; cases e; exact K.getL (by simp)) (fun b og e => ⟨C.know _ _ e, K.know _ _ e⟩)
  have loop := comp_goC (cenv := compEnvC scope ((x, s₃.heap.objs.size + 1) :: cl) s₃.heap.objs.size env) (c := s₃.heap.objs.size + 1) hkx (by show List.lookup x ((x, _) :: cl) = _; simp) hkind K hD rfl T' hn J h0 (fun i v B' G' mc mu' ys s' E' hi hv hB hG hJ hb D' => step _ _ i v hi hv B' G' mc mu' ys s' E' (hP1.trans hB) hG hJ hb D') (R := RR (.ref D) s₃.heap.objs.size) (elt := elt) (iter := iter) (px := px) (ifs := ifs) (scope := scope) (pos := pos)
        (fun G' mc' mu' ys oD' s' hG hJ hys D' => by
          obtain ⟨oC, F, hns⟩ := C3.leaveN hoL' PinLe.rfl' D'
          exact hR G' mu' ys D oD' _ oC _ s' hG hJ hys F hns)
  exact codeAny_compStart_list loop (T'.self loop)
end
end Mine
namespace Mine
open PySem PySem.W PySem.Calls PyProof.Rows
section
variable {prog : Program} {w : World} {A : Around} {E : Value → Shared → Prop} {B : Pin} {G : Kn} {m : Str → Option Value} {mu : Mu} {s : Shared} {env : Env}

theorem compL {β : Type} {Rv : Value → β → Prop} {α : Type} {Ra : Value → α → Prop} {l : Addr} {o : Obj} {xs : List α} {elt iter : Expr} {x : Str} {px : Pos} {ifs : List Expr} {scope : Scope} {cl : List (Str × Addr)} {pos : Pos} {RR : Value → Addr → Result → Shared → Prop}
    (C : Cx B env.locals G m mu s) (hl : G l = some o) (ho : OV Ra o xs) (hn : xs.length ≤ 1048576) (J : Nat → Kn → Mu → List β → Prop) (h0 : J 0 G mu [])
    (step : ∀ (Cc : Addr) (i : Nat) (v : Value) (a : α) (_ : xs[i]? = some a) (_ : Ra v a) B' G' mc mu' ys s' E', PinLe B B' → Le G G' → J i G' mu' ys → mc x = some v → Cx B' Cc G' mc mu' s' →
      wpAny (model prog w) A (tests ifs (compEnvC scope cl Cc env)) (fun ok s₃ => if ok = true then wpAny (model prog w) A (eval elt (compEnvC scope cl Cc env)) (fun y s₄ => ∃ b G'' mc'' mu'', Rv y b ∧ Le G' G'' ∧ J (i + 1) G'' mu'' (ys ++ [b]) ∧ Cx B' Cc G'' mc'' mu'' s₄) E' s₃
        else ∃ G'' mc'' mu'', Le G' G'' ∧ J (i + 1) G'' mu'' ys ∧ Cx B' Cc G'' mc'' mu'' s₃) E' s')
    (hR : ∀ G' mu' ys D oD Cc oC mC s', Le G G' → J xs.length G' mu' ys → OV Rv oD ys → Cx B env.locals G' m ((Cc, oC) :: (D, oD) :: mu') s' → s'.heap.Ns Cc mC → RR (.ref D) Cc (.ok .next) s')
    (hh : A.handled = none) (hkx : scope.names.lookup x = some .local) (hcell : ∀ y ∈ scope.names, y.2 ≠ .cell) (hkind : scope.kind = .function) :
    wpAny (model prog w) A (pyIter (.ref l)) (fun it s₂ => compBlk prog w A E elt iter x px ifs scope pos cl env RR it s₂) E s :=
  by
  obtain ⟨vs, k, e, p⟩ := id ho
  refine it_listG hh C hl e fun I oI s' D T => comp_blk hkx hcell hkind D T (by rw [p.length]; exact hn) J h0 (fun Cc i v hi q B' G' mc mu' ys s' E' hB hG hJ hb D' => ?_) (by rw [p.length]; exact hR)
  obtain ⟨a, ha, hRv⟩ := pr_atv p q
  exact step Cc i v a ha hRv B' G' mc mu' ys s' E' hB hG hJ hb D'

theorem compN {β : Type} {Rv : Value → β → Prop} {α : Type} {Ra : Value → α → Prop} {l : Addr} {o : Obj} {xs : List α} {elt iter : Expr} {x : Str} {px : Pos} {ifs : List Expr} {scope : Scope} {cl : List (Str × Addr)} {pos : Pos} {RR : Value → Addr → Result → Shared → Prop}
    (C : Cx B env.locals G m ((l, o) :: mu) s) (ho : OV Ra o xs) (hn : xs.length ≤ 1048576) (J : Nat → Kn → Mu → List β → Prop) (h0 : ∀ G', Le G G' → J 0 G' mu [])
    (step : ∀ (Cc : Addr) (i : Nat) (v : Value) (a : α) (_ : xs[i]? = some a) (_ : Ra v a) B' G' mc mu' ys s' E', PinLe B B' → Le G G' → J i G' mu' ys → mc x = some v → Cx B' Cc G' mc mu' s' →
      wpAny (model prog w) A (tests ifs (compEnvC scope cl Cc env)) (fun ok s₃ => if ok = true then wpAny (model prog w) A (eval elt (compEnvC scope cl Cc env)) (fun y s₄ => ∃ b G'' mc'' mu'', Rv y b ∧ Le G' G'' ∧ J (i + 1) G'' mu'' (ys ++ [b]) ∧ Cx B' Cc G'' mc'' mu'' s₄) E' s₃
        else ∃ G'' mc'' mu'', Le G' G'' ∧ J (i + 1) G'' mu'' ys ∧ Cx B' Cc G'' mc'' mu'' s₃) E' s')
    (hR : ∀ G' mu' ys D oD Cc oC mC s', Le G G' → J xs.length G' mu' ys → OV Rv oD ys → Cx B env.locals G' m ((Cc, oC) :: (D, oD) :: mu') s' → s'.heap.Ns Cc mC → RR (.ref D) Cc (.ok .next) s')
    (hh : A.handled = none) (hkx : scope.names.lookup x = some .local) (hcell : ∀ y ∈ scope.names, y.2 ≠ .cell) (hkind : scope.kind = .function) :
    wpAny (model prog w) A (pyIter (.ref l)) (fun it s₂ => compBlk prog w A E elt iter x px ifs scope pos cl env RR it s₂) E s :=
  by
  obtain ⟨G1, hG1, hl, D⟩ := C.freeze (i := 0) rfl
  exact compL D hl ho hn J (h0 _ hG1) (fun Cc i v a h1 h2 B' G' mc mu' ys s' E' hB hG hJ hb D' => step Cc i v a h1 h2 B' G' mc mu' ys s' E' hB (hG1.trans hG) hJ hb D') (fun G' mu' ys D oD Cc oC mC s' hG => hR G' mu' ys D oD Cc oC mC s' (hG1.trans hG)) hh hkx hcell hkind

theorem compR {β : Type} {Rv : Value → β → Prop} {r : Addr} {o : Obj} {n : Int} {elt iter : Expr} {x : Str} {px : Pos} {ifs : List Expr} {scope : Scope} {cl : List (Str × Addr)} {pos : Pos} {RR : Value → Addr → Result → Shared → Prop}
    (C : Cx B env.locals G m ((r, o) :: mu) s) (ho : RgO o 0 n) (h0n : 0 ≤ n) (hn : n ≤ 1048576) (J : Nat → Kn → Mu → List β → Prop) (h0 : J 0 G mu [])
    (step : ∀ (Cc : Addr) (i : Nat) (t : Tok) (_ : (i : Int) < n) B' G' mc mu' ys s' E', PinLe B B' → Le G G' → J i G' mu' ys → mc x = some (.int i t) → Cx B' Cc G' mc mu' s' →
      wpAny (model prog w) A (tests ifs (compEnvC scope cl Cc env)) (fun ok s₃ => if ok = true then wpAny (model prog w) A (eval elt (compEnvC scope cl Cc env)) (fun y s₄ => ∃ b G'' mc'' mu'', Rv y b ∧ Le G' G'' ∧ J (i + 1) G'' mu'' (ys ++ [b]) ∧ Cx B' Cc G'' mc'' mu'' s₄) E' s₃
        else ∃ G'' mc'' mu'', Le G' G'' ∧ J (i + 1) G'' mu'' ys ∧ Cx B' Cc G'' mc'' mu'' s₃) E' s')
    (hR : ∀ G' mu' ys D oD Cc oC mC s', Le G G' → J n.toNat G' mu' ys → OV Rv oD ys → Cx B env.locals G' m ((Cc, oC) :: (D, oD) :: mu') s' → s'.heap.Ns Cc mC → RR (.ref D) Cc (.ok .next) s')
    (hh : A.handled = none) (hkx : scope.names.lookup x = some .local) (hcell : ∀ y ∈ scope.names, y.2 ≠ .cell) (hkind : scope.kind = .function) :
    wpAny (model prog w) A (pyIter (.ref r)) (fun it s₂ => compBlk prog w A E elt iter x px ifs scope pos cl env RR it s₂) E s :=
  it_rangeG hh C ho h0n hn fun I oI s' D T => comp_blk hkx hcell hkind D T (by omega) J h0 (fun Cc i v hi q B' G' mc mu' ys s' E' hB hG hJ hb D' => by
    obtain ⟨t, rfl⟩ := q
    exact step Cc i t (by omega) B' G' mc mu' ys s' E' hB hG hJ hb D') hR

theorem compRC {β : Type} {Rv : Value → β → Prop} {r : Addr} {o : Obj} {n : Int} {elt iter : Expr} {x : Str} {px : Pos} {ifs : List Expr} {scope : Scope} {cl : List (Str × Addr)} {pos : Pos} {RR : Value → Addr → Result → Shared → Prop}
    (C : Cx B env.locals G m ((r, o) :: mu) s) (ho : RgO o 0 n) (h0n : 0 ≤ n) (hn : n ≤ 1048576) (J : Nat → Kn → Mu → List β → Prop) (h0 : J 0 G mu [])
    (step : ∀ (Cc c : Addr) (i : Nat) (t : Tok) (_ : (i : Int) < n) B' G' mc mu' ys s' E', PinLe B B' → Le G G' → J i G' mu' ys → (∃ o, B'.z c = some o ∧ o.data = .cell (some (.int i t))) → Cx B' Cc G' mc mu' s' →
      wpAny (model prog w) A (tests ifs (compEnvC scope ((x, c) :: cl) Cc env)) (fun ok s₃ => if ok = true then wpAny (model prog w) A (eval elt (compEnvC scope ((x, c) :: cl) Cc env)) (fun y s₄ => ∃ b G'' mc'' mu'', Rv y b ∧ Le G' G'' ∧ J (i + 1) G'' mu'' (ys ++ [b]) ∧ Cx B' Cc G'' mc'' mu'' s₄) E' s₃
        else ∃ G'' mc'' mu'', Le G' G'' ∧ J (i + 1) G'' mu'' ys ∧ Cx B' Cc G'' mc'' mu'' s₃) E' s')
    (hR : ∀ G' mu' ys D oD Cc oC mC s', Le G G' → J n.toNat G' mu' ys → OV Rv oD ys → Cx B env.locals G' m ((Cc, oC) :: (D, oD) :: mu') s' → s'.heap.Ns Cc mC → RR (.ref D) Cc (.ok .next) s')
    (hh : A.handled = none) (hkx : (relabel scope env).names.lookup x = some .cell) (hc : ∀ k, cellsFrom k scope.names cl = (x, k) :: cl) (hp : ∀ h : Heap, pushCells h scope.names = h.push { cls := .type "cell", data := .cell none }) (hkind : scope.kind = .function) :
    wpAny (model prog w) A (pyIter (.ref r)) (fun it s₂ => compBlk prog w A E elt iter x px ifs scope pos cl env RR it s₂) E s :=
  it_rangeG hh C ho h0n hn fun I oI s' D T => comp_blkC hkx hc hp hkind D T (by omega) J h0 (fun Cc c i v hi q B' G' mc mu' ys s' E' hB hG hJ hb D' => by
    obtain ⟨t, rfl⟩ := q
    exact step Cc c i t (by omega) B' G' mc mu' ys s' E' hB hG hJ hb D') hR
end
end Mine
namespace Mine
/-! the plain law: rows of goals as a graph -/
abbrev Rws := List (List Int)
def rowOf (st : Rws) (k : Int) : List Int := st.getD k.toNat []
abbrev InR (st : Rws) (k : Int) : Prop := 0 ≤ k ∧ k < (st.length : Int)
def Edge (st : Rws) (a b : Int) : Prop := InR st a ∧ InR st b ∧ b ∈ rowOf st a
inductive Reach (st : Rws) (a : Int) : Int → Prop
  | refl : Reach st a a
  | tail {b c : Int} : Reach st a b → Edge st b c → Reach st a c
theorem Reach.trans {st : Rws} {a b c : Int} (x : Reach st a b) (y : Reach st b c) : Reach st a c := by
  induction y with
  | refl => exact x
  | tail _ e ih => exact .tail ih e
theorem Reach.head {st : Rws} {a b c : Int} (e : Edge st a b) (y : Reach st b c) : Reach st a c := (Reach.tail .refl e).trans y
theorem Reach.cases_head {st : Rws} {a c : Int} (x : Reach st a c) : a = c ∨ ∃ b, Edge st a b ∧ Reach st b c := by
  induction x with
  | refl => exact .inl rfl
  | tail h e ih =>
    rcases ih with rfl | ⟨b, e', r⟩
    · exact .inr ⟨_, e, .refl⟩
    · exact .inr ⟨b, e', .tail r e⟩
theorem Reach.inR {st : Rws} {a b : Int} (x : Reach st a b) (h : InR st a) : InR st b := by
  cases x with
  | refl => exact h
  | tail _ e => exact e.2.1
theorem getElem?_rowOf {st : Rws} {k : Int} (h : InR st k) : st[k.toNat]? = some (rowOf st k) := by
  have : k.toNat < st.length := by omega
  simp [rowOf, List.getD, this]
theorem rowOf_mem {st : Rws} {k : Int} (h : InR st k) : rowOf st k ∈ st := List.mem_of_getElem? (getElem?_rowOf h)

/-- Short: few rows, short rows -/
structure Small (st : Rws) : Prop where
  len : st.length ≤ 7
  row : ∀ r ∈ st, r.length ≤ 4
  pos : ∀ r ∈ st, ∀ x ∈ r, 0 ≤ x
  lt : ∀ r ∈ st, ∀ x ∈ r, x < 32
theorem Small.rowLen {st : Rws} (S : Small st) (k : Int) : (rowOf st k).length ≤ 4 := by
  unfold rowOf
  rw [List.getD_eq_getElem?_getD]
  cases h : st[k.toNat]? with
  | none => simp
  | some r => exact S.row r (List.mem_of_getElem? h)
theorem Small.rowPos {st : Rws} (S : Small st) {k x : Int} (h : x ∈ rowOf st k) : 0 ≤ x := by
  unfold rowOf at h
  rw [List.getD_eq_getElem?_getD] at h
  cases e : st[k.toNat]? with
  | none => rw [e] at h; simp at h
  | some r => rw [e] at h; exact S.pos r (List.mem_of_getElem? e) x h

theorem Small.rowLt {st : Rws} (S : Small st) {k x : Int} (h : x ∈ rowOf st k) : x < 32 := by
  unfold rowOf at h
  rw [List.getD_eq_getElem?_getD] at h
  cases e : st[k.toNat]? with
  | none => rw [e] at h; simp at h
  | some r => rw [e] at h; exact S.lt r (List.mem_of_getElem? e) x h

/-! reached -/
abbrev From (st : Rws) (seeds : List Int) (k : Int) : Prop := ∃ x ∈ seeds, InR st x ∧ Reach st x k
structure RInv (st : Rws) (seeds : List Int) (seen : List Bool) (wait : List Int) : Prop where
  len : seen.length = st.length
  sound : ∀ k : Nat, seen[k]? = some true → From st seeds k
  soundW : ∀ x ∈ wait, InR st x → From st seeds x
  seedsIn : ∀ x ∈ seeds, InR st x → seen[x.toNat]? = some true ∨ x ∈ wait
  closed : ∀ k : Nat, seen[k]? = some true → ∀ g ∈ rowOf st k, InR st g → seen[g.toNat]? = some true ∨ g ∈ wait
theorem RInv.start (st : Rws) (seeds : List Int) : RInv st seeds (List.replicate st.length false) seeds where
  len := by simp
  sound := fun k h => by
    rw [List.getElem?_replicate] at h; split at h <;> simp at h
  soundW := fun x hx hi => ⟨x, hx, hi, .refl⟩
  seedsIn := fun x hx _ => .inr hx
  closed := fun k h => by
    rw [List.getElem?_replicate] at h; split at h <;> simp at h
theorem RInv.skip {st : Rws} {seeds : List Int} {seen : List Bool} {wait : List Int} {x : Int} (I : RInv st seeds seen (wait ++ [x])) (h : InR st x → seen[x.toNat]? = some true) : RInv st seeds seen wait where
  len := I.len
  sound := I.sound
  soundW := fun y hy hi => I.soundW y (by simp [hy]) hi
  seedsIn := fun y hy hi => by
    rcases I.seedsIn y hy hi with q | q
    · exact .inl q
    · rcases List.mem_append.mp q with q | q
      · exact .inr q
      · rw [List.mem_singleton] at q; subst q; exact .inl (h hi)
  closed := fun k hk g hg hi => by
    rcases I.closed k hk g hg hi with q | q
    · exact .inl q
    · rcases List.mem_append.mp q with q | q
      · exact .inr q
      · rw [List.mem_singleton] at q; subst q; exact .inl (h hi)
theorem set_true {seen : List Bool} {i k : Nat} : (seen.set i true)[k]? = some true ↔ (k = i ∧ i < seen.length) ∨ seen[k]? = some true := by
  rw [List.getElem?_set]
  by_cases h : i = k
  · subst h
    by_cases hl : i < seen.length
    · simp [hl]
    · simp [hl]
  · have : ¬ k = i := fun q => h q.symm
    simp [h, this]
theorem RInv.take {st : Rws} {seeds : List Int} {seen : List Bool} {wait : List Int} {x : Int} (I : RInv st seeds seen (wait ++ [x])) (h : InR st x) : RInv st seeds (seen.set x.toNat true) (wait ++ rowOf st x) where
  len := by rw [List.length_set]; exact I.len
  sound := fun k hk => by
    rcases set_true.mp hk with ⟨rfl, _⟩ | q
    · have := I.soundW x (by simp) h
      have e : ((x.toNat : Nat) : Int) = x := by omega
      rw [e]; exact this
    · exact I.sound k q
  soundW := fun y hy hi => by
    rcases List.mem_append.mp hy with q | q
    · exact I.soundW y (by simp [q]) hi
    · obtain ⟨z, hz, h1, h2⟩ := I.soundW x (by simp) h
      exact ⟨z, hz, h1, .tail h2 ⟨h, hi, q⟩⟩
  seedsIn := fun y hy hi => by
    rcases I.seedsIn y hy hi with q | q
    · exact .inl (set_true.mpr (.inr q))
    · rcases List.mem_append.mp q with q | q
      · exact .inr (by simp [q])
      · rw [List.mem_singleton] at q; subst q
        exact .inl (set_true.mpr (.inl ⟨rfl, by rw [I.len]; omega⟩))
  closed := fun k hk g hg hi => by
    rcases set_true.mp hk with ⟨rfl, _⟩ | q
    · have e : ((x.toNat : Nat) : Int) = x := by omega
      rw [e] at hg; exact .inr (by simp [hg])
    · rcases I.closed k q g hg hi with q | q
      · exact .inl (set_true.mpr (.inr q))
      · rcases List.mem_append.mp q with q | q
        · exact .inr (by simp [q])
        · rw [List.mem_singleton] at q; subst q
          exact .inl (set_true.mpr (.inl ⟨rfl, by rw [I.len]; omega⟩))
theorem RInv.fin {st : Rws} {seeds : List Int} {seen : List Bool} (I : RInv st seeds seen []) (k : Nat) : seen[k]? = some true ↔ From st seeds k := by
  refine ⟨I.sound k, fun ⟨x, hx, hi, hr⟩ => ?_⟩
  have key : ∀ {y : Int}, Reach st x y → seen[y.toNat]? = some true := fun {y} r => by
    induction r with
    | refl => rcases I.seedsIn x hx hi with q | q
              · exact q
              · simp at q
    | tail r e ih =>
      rename_i b c
      have hb : InR st b := r.inR hi
      have eb : ((b.toNat : Nat) : Int) = b := by omega
      rcases I.closed b.toNat ih c (by rw [eb]; exact e.2.2) e.2.1 with q | q
      · exact q
      · simp at q
  have := key hr
  simpa using this
/-- the measure -/
def rms (seen : List Bool) (wait : List Int) : Nat := (seen.count false) * 5 + wait.length
theorem count_set {seen : List Bool} {i : Nat} (h : seen[i]? = some false) : (seen.set i true).count false + 1 = seen.count false := by
  induction seen generalizing i with
  | nil => simp at h
  | cons b r ih =>
    cases i with
    | zero => simp at h; subst h; simp
    | succ i =>
      simp at h
      have := ih h
      simp only [List.set_cons_succ, List.count_cons]
      omega
theorem rms_take {st : Rws} (S : Small st) {seen : List Bool} {wait : List Int} {x : Int} (h : seen[x.toNat]? = some false) : rms (seen.set x.toNat true) (wait ++ rowOf st x) < rms seen (wait ++ [x]) := by
  have h1 := count_set h
  have h2 := S.rowLen x
  unfold rms
  simp only [List.length_append, List.length_singleton]
  omega
theorem rms_skip {seen : List Bool} {wait : List Int} {x : Int} : rms seen wait < rms seen (wait ++ [x]) := by
  unfold rms; simp only [List.length_append, List.length_singleton]; omega

/-! met -/
def goalsOf (st : Rws) (k : Int) : List Int := (rowOf st k).filter fun g => decide (g < (st.length : Int))
theorem mem_goals {st : Rws} (S : Small st) {k g : Int} (hk : InR st k) : g ∈ goalsOf st k ↔ Edge st k g := by
  unfold goalsOf Edge
  rw [List.mem_filter]
  constructor
  · rintro ⟨h1, h2⟩; exact ⟨hk, ⟨S.rowPos h1, by simpa using h2⟩, h1⟩
  · rintro ⟨_, h2, h3⟩; exact ⟨h3, by simpa using h2.2⟩
structure MInv (st : Rws) (b : Int) (met wait : List Int) (x : Option Int) (done : List Int) : Prop where
  nd : met.Nodup
  inr : ∀ k ∈ met, InR st k
  has : b ∈ met
  sound : ∀ k ∈ met, Reach st b k
  sub : ∀ k ∈ wait, k ∈ met
  closed : ∀ k ∈ met, k ∈ wait ∨ some k = x ∨ ∀ g ∈ goalsOf st k, g ∈ met
  dn : ∀ g ∈ done, g ∈ met
  xm : ∀ k, x = some k → k ∈ met
theorem MInv.start {st : Rws} {b : Int} (h : InR st b) : MInv st b [b] [b] none [] where
  nd := by simp
  inr := by simpa using h
  has := by simp
  sound := by intro k hk; rw [List.mem_singleton] at hk; subst hk; exact .refl
  sub := fun k hk => hk
  closed := fun k hk => .inl hk
  dn := by simp
  xm := by simp
theorem MInv.pop {st : Rws} {b x : Int} {met wait : List Int} (I : MInv st b met (wait ++ [x]) none []) : MInv st b met wait (some x) [] where
  nd := I.nd
  inr := I.inr
  has := I.has
  sound := I.sound
  sub := fun k hk => I.sub k (by simp [hk])
  closed := fun k hk => by
    rcases I.closed k hk with q | q | q
    · rcases List.mem_append.mp q with q | q
      · exact .inl q
      · rw [List.mem_singleton] at q; exact .inr (.inl (by rw [q]))
    · cases q
    · exact .inr (.inr q)
  dn := by simp
  xm := fun k e => by cases e; exact I.sub x (by simp)
theorem MInv.old {st : Rws} {b x g : Int} {met wait done : List Int} (I : MInv st b met wait (some x) done) (h : g ∈ met) : MInv st b met wait (some x) (done ++ [g]) :=
  ⟨I.nd, I.inr, I.has, I.sound, I.sub, I.closed, fun k hk => by
    rcases List.mem_append.mp hk with q | q
    · exact I.dn k q
    · rw [List.mem_singleton] at q; rw [q]; exact h, I.xm⟩
theorem MInv.new {st : Rws} (S : Small st) {b x g : Int} {met wait done : List Int} (I : MInv st b met wait (some x) done) (h : g ∉ met) (hg : g ∈ goalsOf st x) : MInv st b (met ++ [g]) (wait ++ [g]) (some x) (done ++ [g]) := by
  have hx := I.xm x rfl
  have he := (mem_goals S (I.inr x hx)).mp hg
  refine ⟨?_, ?_, by simp [I.has], ?_, ?_, ?_, ?_, fun k e => by cases e; simp [hx]⟩
  · rw [List.nodup_append]; exact ⟨I.nd, by simp, fun a ha c hc e => by rw [List.mem_singleton] at hc; exact h (hc ▸ e ▸ ha)⟩
  · intro k hk
    rcases List.mem_append.mp hk with q | q
    · exact I.inr k q
    · rw [List.mem_singleton] at q; rw [q]; exact he.2.1
  · intro k hk
    rcases List.mem_append.mp hk with q | q
    · exact I.sound k q
    · rw [List.mem_singleton] at q; rw [q]; exact .tail (I.sound x hx) he
  · intro k hk
    rcases List.mem_append.mp hk with q | q
    · simp [I.sub k q]
    · simp [List.mem_singleton.mp q]
  · intro k hk
    rcases List.mem_append.mp hk with q | q
    · rcases I.closed k q with q | q | q
      · exact .inl (by simp [q])
      · exact .inr (.inl q)
      · exact .inr (.inr fun g hg => by simp [q g hg])
    · exact .inl (by simp [List.mem_singleton.mp q])
  · intro k hk
    rcases List.mem_append.mp hk with q | q
    · simp [I.dn k q]
    · simp [List.mem_singleton.mp q]
theorem MInv.turn {st : Rws} {b x : Int} {met wait : List Int} (I : MInv st b met wait (some x) (goalsOf st x)) : MInv st b met wait none [] :=
  ⟨I.nd, I.inr, I.has, I.sound, I.sub, fun k hk => by
    rcases I.closed k hk with q | q | q
    · exact .inl q
    · cases q; exact .inr (.inr I.dn)
    · exact .inr (.inr q), by simp, by simp⟩
theorem MInv.fin {st : Rws} (S : Small st) {b : Int} {met : List Int} (I : MInv st b met [] none []) (v : Int) : v ∈ met ↔ Reach st b v := by
  refine ⟨I.sound v, fun r => ?_⟩
  induction r with
  | refl => exact I.has
  | tail r e ih =>
    rename_i c d
    rcases I.closed c ih with q | q | q
    · simp at q
    · cases q
    · exact q d ((mem_goals S (I.inr c ih)).mpr e)
theorem nodup_sub_len {α : Type} [DecidableEq α] : ∀ {l l' : List α}, l.Nodup → (∀ x ∈ l, x ∈ l') → l.length ≤ l'.length
  | [], _, _, _ => Nat.zero_le _
  | a :: l, l', hn, hs => by
    have ha : a ∈ l' := hs a (.head _)
    have hn' := List.nodup_cons.mp hn
    have h1 : l.length ≤ (l'.erase a).length := nodup_sub_len hn'.2 fun x hx => (List.mem_erase_of_ne (fun e : x = a => hn'.1 (by rw [← e]; exact hx))).mpr (hs x (.tail _ hx))
    have h2 := List.length_erase_of_mem ha
    have h3 : 0 < l'.length := List.length_pos_of_mem ha
    simp only [List.length_cons]; omega
theorem nodup_bound {n : Nat} {l : List Int} (hn : l.Nodup) (hi : ∀ k ∈ l, 0 ≤ k ∧ k < (n : Int)) : l.length ≤ n := by
  have h1 : (l.map Int.toNat).Nodup := by
    refine List.pairwise_map.mpr (List.Pairwise.imp_of_mem (fun {a b} ha hb hne => ?_) hn)
    have := hi a ha; have := hi b hb; omega
  have h2 : (l.map Int.toNat) ⊆ List.range n := fun k hk => by
    obtain ⟨z, hz, rfl⟩ := List.mem_map.mp hk
    have := hi z hz
    exact List.mem_range.mpr (by omega)
  have h3 := nodup_sub_len h1 h2
  simpa using h3
theorem MInv.len {st : Rws} {b : Int} {met wait : List Int} {x : Option Int} {done : List Int} (I : MInv st b met wait x done) : met.length ≤ st.length := nodup_bound I.nd I.inr
def picks (n : Nat) (f : Nat → Bool) : List Int := ((List.range n).filter f).map Int.ofNat
theorem picks_succ {n : Nat} {f : Nat → Bool} : picks (n + 1) f = picks n f ++ (if f n = true then [(n : Int)] else []) := by
  unfold picks
  rw [List.range_succ, List.filter_append, List.map_append]
  cases h : f n <;> simp [h]
theorem mem_picks {n : Nat} {f : Nat → Bool} {x : Int} : x ∈ picks n f ↔ 0 ≤ x ∧ x < (n : Int) ∧ f x.toNat = true := by
  unfold picks
  simp only [List.mem_map, List.mem_filter, List.mem_range]
  constructor
  · rintro ⟨k, ⟨h1, h2⟩, rfl⟩
    refine ⟨by simp, by simp; omega, by simpa using h2⟩
  · rintro ⟨h1, h2, h3⟩
    exact ⟨x.toNat, ⟨by omega, h3⟩, by simp; omega⟩
theorem picks_len {n : Nat} {f : Nat → Bool} : (picks n f).length ≤ n := by
  unfold picks
  rw [List.length_map]
  have := List.length_filter_le f (List.range n)
  simpa using this
theorem picks_congr {n : Nat} {f g : Nat → Bool} (h : ∀ k, k < n → f k = g k) : picks n f = picks n g := by
  unfold picks
  rw [List.filter_congr fun k hk => h k (List.mem_range.mp hk)]
end Mine
namespace Mine
/-! how deep each row leads -/
def at' (l : List Int) (v : Nat) : Int := l.getD v 0
theorem at_set {l : List Int} {i v : Nat} {x : Int} (h : i < l.length) : at' (l.set i x) v = if v = i then x else at' l v := by
  unfold at'
  simp only [List.getD_eq_getElem?_getD, List.getElem?_set]
  by_cases e : i = v
  · subst e; simp [h]
  · have : ¬ v = i := fun q => e q.symm
    simp [e, this]
theorem at_get {l : List Int} {v : Nat} (h : v < l.length) : l[v]? = some (at' l v) := by
  unfold at'; simp [List.getD, h]
theorem at_rep {n v : Nat} {x : Int} (h : v < n) : at' (List.replicate n x) v = x := by
  unfold at'; simp [List.getD, h]
def gsN (st : Rws) (v : Nat) : List Nat := (List.range st.length).filter fun g => decide ((g : Int) ∈ rowOf st v)
theorem mem_gsN {st : Rws} {v g : Nat} : g ∈ gsN st v ↔ g < st.length ∧ (g : Int) ∈ rowOf st v := by
  unfold gsN; simp [List.mem_filter]
theorem gsN_nodup {st : Rws} {v : Nat} : (gsN st v).Nodup := List.Pairwise.filter _ List.nodup_range
theorem edge_gsN {st : Rws} {v g : Nat} (hv : v < st.length) : g ∈ gsN st v ↔ Edge st v g := by
  rw [mem_gsN]; unfold Edge
  constructor
  · rintro ⟨h1, h2⟩; exact ⟨⟨by omega, by omega⟩, ⟨by omega, by omega⟩, h2⟩
  · rintro ⟨_, h2, h3⟩; exact ⟨by omega, h3⟩
/-- what depths hands back -/
structure DepthIs (st : Rws) (found : List Int) : Prop where
  len : found.length = st.length
  eqn : ∀ v, v < st.length → (at' found v = -1 ∧ ∃ g ∈ gsN st v, at' found g = -1) ∨
    (0 ≤ at' found v ∧ at' found v < st.length ∧ (∀ g ∈ gsN st v, 0 ≤ at' found g ∧ at' found g + 1 ≤ at' found v) ∧ (at' found v = 0 ∨ ∃ g ∈ gsN st v, at' found v = at' found g + 1))

def cntU (st : Rws) (found : List Int) (v : Nat) : Nat := ((gsN st v).filter fun g => decide (at' found g < 0)).length
def nneg (st : Rws) (found : List Int) : Nat := ((List.range st.length).filter fun g => decide (at' found g < 0)).length

theorem filter_drop1 {l : List Nat} (hn : l.Nodup) {p q : Nat → Bool} {u : Nat} (hu : p u = true) (hq : ∀ g, q g = (p g && !decide (g = u))) : (l.filter q).length + (if u ∈ l then 1 else 0) = (l.filter p).length := by
  induction l with
  | nil => simp
  | cons a l ih =>
    have hn' := List.nodup_cons.mp hn
    have := ih hn'.2
    by_cases e : a = u
    · subst e
      have hnot : ¬ a ∈ l := hn'.1
      rw [if_neg hnot] at this
      rw [List.filter_cons_of_neg (by rw [hq]; simp), List.filter_cons_of_pos hu, if_pos (.head _), List.length_cons]
      omega
    · have e' : ¬ u = a := fun h => e h.symm
      have hm : (u ∈ a :: l) ↔ u ∈ l := by simp [e']
      by_cases hp : p a = true
      · rw [List.filter_cons_of_pos (by rw [hq]; simp [hp, e]), List.filter_cons_of_pos hp, List.length_cons, List.length_cons]
        simp only [hm]; omega
      · rw [List.filter_cons_of_neg (by rw [hq]; simp [hp]), List.filter_cons_of_neg hp]
        simp only [hm]; omega

structure KI (st : Rws) (found most left ready : List Int) (u : Nat) (pend : List Int) : Prop where
  fl : found.length = st.length
  ml : most.length = st.length
  ll : left.length = st.length
  fneg : ∀ v, v < st.length → at' found v = -1 ∨ 0 ≤ at' found v
  rnd : ready.Nodup
  rin : ∀ x ∈ ready, InR st x ∧ at' found x.toNat = -1
  pnd : pend.Nodup
  pin : ∀ x ∈ pend, InR st x ∧ at' found x.toNat = -1 ∧ u ∈ gsN st x.toNat
  ufd : pend ≠ [] → u < st.length ∧ 0 ≤ at' found u ∧ at' most u = at' found u
  lft : ∀ v, v < st.length → at' left v = cntU st found v + (if (v : Int) ∈ pend then 1 else 0)
  zro : ∀ v, v < st.length → at' found v = -1 → (at' left v = 0 ↔ (v : Int) ∈ ready)
  prc : ∀ v, v < st.length → 0 ≤ at' found v → (∀ g ∈ gsN st v, 0 ≤ at' found g ∧ at' found g + 1 ≤ at' found v) ∧ (at' found v = 0 ∨ ∃ g ∈ gsN st v, at' found v = at' found g + 1)
  mst : ∀ v, v < st.length → at' found v = -1 → 0 ≤ at' most v ∧ (∀ g ∈ gsN st v, 0 ≤ at' found g → ¬ (g = u ∧ (v : Int) ∈ pend) → at' found g + 1 ≤ at' most v) ∧ (at' most v = 0 ∨ ∃ g ∈ gsN st v, 0 ≤ at' found g ∧ at' most v = at' found g + 1)
  bnf : ∀ v, v < st.length → 0 ≤ at' found v → at' found v + 1 + nneg st found ≤ st.length
  bnm : ∀ v, v < st.length → at' found v = -1 → at' most v + nneg st found ≤ st.length

/-- all is done -/
theorem KI.fin {st : Rws} {found most left : List Int} {u : Nat} (I : KI st found most left [] u []) : DepthIs st found where
  len := I.fl
  eqn := fun v hv => by
    rcases I.fneg v hv with h | h
    · refine .inl ⟨h, ?_⟩
      have hz := I.zro v hv h
      have hl := I.lft v hv
      have hne : at' left v ≠ 0 := fun e => by have := hz.mp e; simp at this
      have hc : cntU st found v ≠ 0 := fun e => hne (by rw [hl, e]; simp)
      unfold cntU at hc
      obtain ⟨g, hg⟩ := List.exists_mem_of_length_pos (Nat.pos_of_ne_zero hc)
      rw [List.mem_filter] at hg
      refine ⟨g, hg.1, ?_⟩
      have h2 : at' found g < 0 := by simpa using hg.2
      rcases I.fneg g (mem_gsN.mp hg.1).1 with q | q
      · exact q
      · omega
    · have hb := I.bnf v hv h
      exact .inr ⟨h, by omega, (I.prc v hv h).1, (I.prc v hv h).2⟩

theorem srcs_mem {st : Rws} {u : Nat} {x : Int} {xs : List Int} (h : ∀ y, y ∈ xs ↔ InR st y ∧ (u : Int) ∈ rowOf st y) (hu : u < st.length) : x ∈ xs ↔ InR st x ∧ u ∈ gsN st x.toNat := by
  rw [h]
  constructor
  · rintro ⟨h1, h2⟩
    refine ⟨h1, mem_gsN.mpr ⟨hu, ?_⟩⟩
    have : ((x.toNat : Nat) : Int) = x := by omega
    rw [this]; exact h2
  · rintro ⟨h1, h2⟩
    have : ((x.toNat : Nat) : Int) = x := by omega
    have h3 := (mem_gsN.mp h2).2
    rw [this] at h3; exact ⟨h1, h3⟩

/-- one is popped and told -/
theorem KI.pop {st : Rws} {found most left ready xs : List Int} {u0 : Nat} {x : Int} (I : KI st found most left (ready ++ [x]) u0 []) (hxs : ∀ y, y ∈ xs ↔ InR st y ∧ x ∈ rowOf st y) (hnd : xs.Nodup) :
    KI st (found.set x.toNat (at' most x.toNat)) most left ready x.toNat xs ∧ nneg st (found.set x.toNat (at' most x.toNat)) < nneg st found := by
  obtain ⟨hin, hfx⟩ := I.rin x (by simp)
  have hun : x.toNat < st.length := by omega
  have ex : ((x.toNat : Nat) : Int) = x := by omega
  have hul : x.toNat < found.length := by rw [I.fl]; exact hun
  have hm0 := (I.mst _ hun hfx).1
  have aset : ∀ v, at' (found.set x.toNat (at' most x.toNat)) v = if v = x.toNat then at' most x.toNat else at' found v := fun v => at_set hul
  have hxs' : ∀ y, y ∈ xs ↔ InR st y ∧ x.toNat ∈ gsN st y.toNat := fun y => srcs_mem (u := x.toNat) (by rw [ex]; exact hxs) hun
  have hp : ∀ (l : List Nat), l.Nodup → (l.filter fun g => decide (at' (found.set x.toNat (at' most x.toNat)) g < 0)).length + (if x.toNat ∈ l then 1 else 0) = (l.filter fun g => decide (at' found g < 0)).length := fun l hl =>
    filter_drop1 hl (by rw [hfx]; decide) fun g => by
      rw [aset]
      by_cases e : g = x.toNat
      · rw [if_pos e]; simp [e]; omega
      · rw [if_neg e]; simp [e]
  have hcnt : ∀ v, cntU st (found.set x.toNat (at' most x.toNat)) v + (if x.toNat ∈ gsN st v then 1 else 0) = cntU st found v := fun v => hp _ gsN_nodup
  have hneg : nneg st (found.set x.toNat (at' most x.toNat)) + 1 = nneg st found := by
    have := hp (List.range st.length) List.nodup_range
    rw [if_pos (List.mem_range.mpr hun)] at this
    exact this
  have hleft0 : at' left x.toNat = 0 := (I.zro _ hun hfx).mpr (by rw [ex]; simp)
  have hcu0 : cntU st found x.toNat = 0 := by
    have := I.lft _ hun
    rw [hleft0] at this; simp at this; omega
  -- all goals of x are told
  have hgoals : ∀ g ∈ gsN st x.toNat, 0 ≤ at' found g := fun g hg => by
    rcases I.fneg g (mem_gsN.mp hg).1 with q | q
    · exfalso
      unfold cntU at hcu0
      have : g ∈ (gsN st x.toNat).filter fun g => decide (at' found g < 0) := List.mem_filter.mpr ⟨hg, by rw [q]; decide⟩
      rw [List.eq_nil_of_length_eq_zero hcu0] at this; simp at this
    · exact q
  have hself : x.toNat ∉ gsN st x.toNat := fun h => by have := hgoals _ h; rw [hfx] at this; omega
  refine ⟨⟨by rw [List.length_set]; exact I.fl, I.ml, I.ll, fun v hv => ?_, ?_, fun y hy => ?_, hnd, fun y hy => ?_, fun _ => ?_, fun v hv => ?_, fun v hv hf => ?_, fun v hv hf => ?_, fun v hv hf => ?_, fun v hv hf => ?_, fun v hv hf => ?_⟩, by omega⟩
  · rw [aset]; split
    · exact .inr hm0
    · exact I.fneg v hv
  · exact (List.nodup_append.mp I.rnd).1
  · have := I.rin y (by simp [hy])
    refine ⟨this.1, ?_⟩
    rw [aset, if_neg fun e => ?_]; exact this.2
    have ey : y = x := by omega
    have := (List.nodup_append.mp I.rnd).2.2 y hy x (by simp)
    exact this ey
  · obtain ⟨h1, h2⟩ := (hxs' y).mp hy
    refine ⟨h1, ?_, h2⟩
    have hyn : y.toNat < st.length := by omega
    have hne : y.toNat ≠ x.toNat := fun e => hself (e ▸ h2)
    rw [aset, if_neg hne]
    rcases I.fneg y.toNat hyn with q | q
    · exact q
    · exact absurd ((I.prc _ hyn q).1 _ h2).1 (by rw [hfx]; omega)
  · refine ⟨hun, ?_, ?_⟩
    · rw [aset, if_pos rfl]; exact hm0
    · rw [aset, if_pos rfl]
  · have h1 := I.lft v hv
    have h2 := hcnt v
    simp only [List.not_mem_nil, if_false] at h1
    have h3 : ((v : Int) ∈ xs) ↔ x.toNat ∈ gsN st v := by
      rw [hxs' v]
      have : ((v : Int)).toNat = v := by omega
      rw [this]
      exact ⟨fun q => q.2, fun q => ⟨⟨by omega, by omega⟩, q⟩⟩
    by_cases q : x.toNat ∈ gsN st v
    · rw [if_pos q] at h2; rw [if_pos (h3.mpr q)]; omega
    · rw [if_neg q] at h2; rw [if_neg (fun r => q (h3.mp r))]; omega
  · rw [aset] at hf
    have hne : v ≠ x.toNat := fun e => by rw [if_pos e] at hf; omega
    rw [if_neg hne] at hf
    have := I.zro v hv hf
    rw [this, List.mem_append, List.mem_singleton]
    constructor
    · rintro (q | q)
      · exact q
      · exact absurd (by omega) hne
    · exact .inl
  · rw [aset] at hf ⊢
    by_cases e : v = x.toNat
    · subst e
      rw [if_pos rfl]
      have hm := I.mst _ hun hfx
      have ag : ∀ g ∈ gsN st x.toNat, at' (found.set x.toNat (at' most x.toNat)) g = at' found g := fun g hg => by
        rw [aset, if_neg (fun e : g = x.toNat => hself (e ▸ hg : x.toNat ∈ gsN st x.toNat))]
      refine ⟨fun g hg => ?_, ?_⟩
      · rw [ag g hg]; exact ⟨hgoals g hg, hm.2.1 g hg (hgoals g hg) (by simp)⟩
      · rcases hm.2.2 with q | ⟨g, hg, _, q⟩
        · exact .inl q
        · exact .inr ⟨g, hg, by rw [ag g hg]; exact q⟩
    · rw [if_neg e] at hf ⊢
      have hv' := I.prc v hv hf
      have ag : ∀ g ∈ gsN st v, at' (found.set x.toNat (at' most x.toNat)) g = at' found g := fun g hg => by
        rw [aset, if_neg fun e' => ?_]
        have := (hv'.1 g hg).1; rw [e', hfx] at this; omega
      refine ⟨fun g hg => by rw [ag g hg]; exact hv'.1 g hg, ?_⟩
      rcases hv'.2 with q | ⟨g, hg, q⟩
      · exact .inl q
      · exact .inr ⟨g, hg, by rw [ag g hg]; exact q⟩
  · rw [aset] at hf
    have hne : v ≠ x.toNat := fun e => by rw [if_pos e] at hf; omega
    rw [if_neg hne] at hf
    have hm := I.mst v hv hf
    refine ⟨hm.1, fun g hg h0 hnp => ?_, ?_⟩
    · rw [aset] at h0 ⊢
      by_cases e : g = x.toNat
      · exfalso
        refine hnp ⟨e, (hxs' v).mpr ⟨⟨by omega, by omega⟩, ?_⟩⟩
        have : ((v : Int)).toNat = v := by omega
        rw [this, ← e]; exact hg
      · rw [if_neg e] at h0 ⊢; exact hm.2.1 g hg h0 (by simp)
    · rcases hm.2.2 with q | ⟨g, hg, h0, q⟩
      · exact .inl q
      · have e : g ≠ x.toNat := fun e => by rw [e, hfx] at h0; omega
        exact .inr ⟨g, hg, by rw [aset, if_neg e]; exact h0, by rw [aset, if_neg e]; exact q⟩
  · rw [aset] at hf ⊢
    by_cases e : v = x.toNat
    · rw [if_pos e]
      have := I.bnm _ hun hfx; omega
    · rw [if_neg e] at hf ⊢
      have := I.bnf v hv hf; omega
  · rw [aset] at hf
    have hne : v ≠ x.toNat := fun e => by rw [if_pos e] at hf; omega
    rw [if_neg hne] at hf
    have := I.bnm v hv hf; omega

/-- a source is told -/
theorem KI.step {st : Rws} {found most left ready pend : List Int} {u : Nat} {x : Int} (I : KI st found most left ready u (x :: pend)) :
    KI st found (most.set x.toNat (max (at' most x.toNat) (at' most u + 1))) (left.set x.toNat (at' left x.toNat - 1)) (if at' left x.toNat - 1 = 0 then ready ++ [x] else ready) u pend := by
  obtain ⟨hin, hfx, hux⟩ := I.pin x (.head _)
  obtain ⟨hu, hfu, hmu⟩ := I.ufd (by simp)
  have hxn : x.toNat < st.length := by omega
  have ex : ((x.toNat : Nat) : Int) = x := by omega
  have hnd := List.nodup_cons.mp I.pnd
  have hxu : x.toNat ≠ u := fun e => by rw [e] at hfx; omega
  have am : ∀ v, at' (most.set x.toNat (max (at' most x.toNat) (at' most u + 1))) v = if v = x.toNat then max (at' most x.toNat) (at' most u + 1) else at' most v := fun v => at_set (by rw [I.ml]; exact hxn)
  have al : ∀ v, at' (left.set x.toNat (at' left x.toNat - 1)) v = if v = x.toNat then at' left x.toNat - 1 else at' left v := fun v => at_set (by rw [I.ll]; exact hxn)
  have hl := I.lft _ hxn
  rw [ex, if_pos (List.mem_cons_self ..)] at hl
  have hxr : x ∉ ready := fun h => by
    have := (I.zro _ hxn hfx).mpr (by rw [ex]; exact h)
    omega
  have hmx := I.mst _ hxn hfx
  refine ⟨I.fl, by rw [List.length_set]; exact I.ml, by rw [List.length_set]; exact I.ll, I.fneg, ?_, fun y hy => ?_, hnd.2, fun y hy => I.pin y (.tail _ hy), fun hne => ?_, fun v hv => ?_, fun v hv hf => ?_, I.prc, fun v hv hf => ?_, I.bnf, fun v hv hf => ?_⟩
  · split
    · rw [List.nodup_append]
      exact ⟨I.rnd, by simp, fun a ha b hb e => by rw [List.mem_singleton] at hb; exact hxr (hb ▸ e ▸ ha)⟩
    · exact I.rnd
  · split at hy
    · rcases List.mem_append.mp hy with q | q
      · exact I.rin y q
      · rw [List.mem_singleton] at q; subst q; exact ⟨hin, hfx⟩
    · exact I.rin y hy
  · refine ⟨hu, hfu, ?_⟩
    rw [am, if_neg fun e => hxu e.symm]; exact hmu
  · rw [al]
    by_cases e : v = x.toNat
    · rw [if_pos e, hl, e, ex, if_neg hnd.1]; omega
    · have h1 := I.lft v hv
      have e' : ¬ (v : Int) = x := fun q => e (by omega)
      rw [if_neg e, h1]
      congr 2
      simp [e']
  · rw [al]
    by_cases e : v = x.toNat
    · rw [if_pos e]
      have ev : (v : Int) = x := by omega
      rw [ev]
      split
      · rename_i h0; simp [h0]
      · rename_i h0; simp [h0, hxr]
    · rw [if_neg e, I.zro v hv hf]
      have e' : ¬ (v : Int) = x := fun q => e (by omega)
      split
      · simp [e']
      · rfl
  · rw [am]
    by_cases e : v = x.toNat
    · rw [if_pos e, e] at *
      refine ⟨by omega, fun g hg h0 hnp => ?_, ?_⟩
      · by_cases eg : g = u
        · subst eg; rw [hmu]; omega
        · have := hmx.2.1 g hg h0 (fun q => eg q.1); omega
      · by_cases hle : at' most x.toNat ≤ at' most u + 1
        · exact .inr ⟨u, hux, hfu, by rw [hmu] at *; omega⟩
        · rcases hmx.2.2 with q | ⟨g, hg, h0, q⟩
          · omega
          · exact .inr ⟨g, hg, h0, by omega⟩
    · rw [if_neg e]
      have hm := I.mst v hv hf
      have e' : ¬ (v : Int) = x := fun q => e (by omega)
      refine ⟨hm.1, fun g hg h0 hnp => hm.2.1 g hg h0 fun q => hnp ⟨q.1, ?_⟩, hm.2.2⟩
      rcases List.mem_cons.mp q.2 with q2 | q2
      · exact absurd q2 e'
      · exact q2
  · rw [am]
    by_cases e : v = x.toNat
    · rw [if_pos e]
      have h1 := I.bnm _ hxn hfx
      have h2 := I.bnf u hu hfu
      rw [hmu]; omega
    · rw [if_neg e]; exact I.bnm v hv hf
end Mine
namespace Mine
structure PI (st : Rws) (i : Nat) (done : List Int) (left : List Int) (rows : Rws) : Prop where
  ll : left.length = st.length
  rl : rows.length = st.length
  lv : ∀ v, v < st.length → at' left v = if v < i then ((gsN st v).length : Int) else if v = i then (((done.filter fun g => decide (InR st g)).length : Nat) : Int) else 0
  rw : ∀ g, g < st.length → rows[g]? = some (picks i (fun v => decide ((g : Int) ∈ rowOf st v)) ++ (if (g : Int) ∈ done then [(i : Int)] else []))
theorem PI.start {st : Rws} : PI st 0 [] (List.replicate st.length 0) (List.replicate st.length []) where
  ll := by simp
  rl := by simp
  lv := fun v hv => by rw [at_rep hv]; simp
  rw := fun g hg => by simp [hg, picks]
theorem PI.out {st : Rws} {i : Nat} {done left : List Int} {rows : Rws} (I : PI st i done left rows) {g : Int} (h : ¬ InR st g) : PI st i (done ++ [g]) left rows where
  ll := I.ll
  rl := I.rl
  lv := fun v hv => by
    rw [I.lv v hv, List.filter_append, List.filter_cons_of_neg (by simpa using h)]; simp
  rw := fun k hk => by
    rw [I.rw k hk]
    have : ¬ (k : Int) = g := fun e => h (by rw [← e]; exact ⟨by omega, by omega⟩)
    simp [this]
theorem PI.into {st : Rws} {i : Nat} {done left : List Int} {rows : Rws} (I : PI st i done left rows) {g : Int} (h : InR st g) (hd : g ∉ done) (hi : i < st.length) {row : List Int} (hr : rows[g.toNat]? = some row) :
    PI st i (done ++ [g]) (left.set i (at' left i + 1)) (rows.set g.toNat (row ++ [(i : Int)])) where
  ll := by rw [List.length_set]; exact I.ll
  rl := by rw [List.length_set]; exact I.rl
  lv := fun v hv => by
    rw [at_set (by rw [I.ll]; exact hi), I.lv i hi, List.filter_append, List.filter_cons_of_pos (by simpa using h)]
    by_cases e : v = i
    · subst e; simp
    · rw [if_neg e, I.lv v hv]; simp [e]
  rw := fun k hk => by
    rw [List.getElem?_set]
    by_cases e : g.toNat = k
    · have ek : (k : Int) = g := by omega
      rw [if_pos e]
      have h1 := I.rw g.toNat (by omega)
      rw [hr] at h1
      have h2 : ((g.toNat : Nat) : Int) = g := by omega
      rw [h2, if_neg hd, List.append_nil] at h1
      have hlt : g.toNat < rows.length := by rw [I.rl]; omega
      rw [if_pos hlt, Option.some.inj h1, ek]
      simp
    · rw [if_neg e, I.rw k hk]
      have : ¬ (k : Int) = g := fun q => e (by omega)
      simp [this]
theorem gsN_len {st : Rws} {i : Nat} {ys : List Int} (hn : ys.Nodup) (hm : ∀ x, x ∈ ys ↔ x ∈ rowOf st i) : (ys.filter fun g => decide (InR st g)).length = (gsN st i).length := by
  have h1 : ((ys.filter fun g => decide (InR st g)).map Int.toNat).Nodup := by
    refine List.pairwise_map.mpr (List.Pairwise.imp_of_mem (fun {a b} ha hb hne => ?_) (List.Pairwise.filter _ hn))
    have h1 := (List.mem_filter.mp ha).2; have h2 := (List.mem_filter.mp hb).2
    simp at h1 h2; omega
  have h2 : ∀ x ∈ ((ys.filter fun g => decide (InR st g)).map Int.toNat), x ∈ gsN st i := fun x hx => by
    obtain ⟨g, hg, rfl⟩ := List.mem_map.mp hx
    have hg1 := (List.mem_filter.mp hg).1; have hg2 := (List.mem_filter.mp hg).2
    simp at hg2
    have e : ((g.toNat : Nat) : Int) = g := by omega
    exact mem_gsN.mpr ⟨by omega, by rw [e]; exact (hm g).mp hg1⟩
  have h3 : ∀ x ∈ gsN st i, x ∈ ((ys.filter fun g => decide (InR st g)).map Int.toNat) := fun x hx => by
    obtain ⟨h4, h5⟩ := mem_gsN.mp hx
    exact List.mem_map.mpr ⟨(x : Int), List.mem_filter.mpr ⟨(hm _).mpr h5, by simp; omega⟩, by simp⟩
  have h4 := nodup_sub_len h1 h2
  have h5 := nodup_sub_len gsN_nodup h3
  rw [List.length_map] at h4 h5
  omega
theorem PI.next {st : Rws} {i : Nat} {ys left : List Int} {rows : Rws} (I : PI st i ys left rows) (hn : ys.Nodup) (hm : ∀ x, x ∈ ys ↔ x ∈ rowOf st i) : PI st (i + 1) [] left rows where
  ll := I.ll
  rl := I.rl
  lv := fun v hv => by
    rw [I.lv v hv]
    by_cases h1 : v < i
    · rw [if_pos h1, if_pos (by omega)]
    · rw [if_neg h1]
      by_cases h2 : v = i
      · subst h2
        rw [if_pos rfl, if_pos (by omega), gsN_len hn hm]
      · rw [if_neg h2, if_neg (by omega)]; simp
  rw := fun g hg => by
    rw [I.rw g hg, picks_succ]
    simp only [List.not_mem_nil, if_false, List.append_nil]
    congr 2
    by_cases h : (g : Int) ∈ rowOf st i
    · rw [if_pos ((hm _).mpr h), if_pos (by simpa using h)]
    · rw [if_neg (fun q => h ((hm _).mp q)), if_neg (by simpa using h)]
theorem picks_nodup {n : Nat} {f : Nat → Bool} : (picks n f).Nodup := by
  unfold picks
  refine List.pairwise_map.mpr (List.Pairwise.imp (fun {a b} hne => ?_) (List.Pairwise.filter _ List.nodup_range))
  simp; omega
theorem PI.kahn {st : Rws} {left : List Int} {rows : Rws} (I : PI st st.length [] left rows) : KI st (List.replicate st.length (-1)) (List.replicate st.length 0) left (picks st.length fun k => decide (at' left k = 0)) 0 [] := by
  have hr : ∀ v, v < st.length → at' (List.replicate st.length (-1 : Int)) v = -1 := fun v hv => at_rep hv
  have hc : ∀ v, cntU st (List.replicate st.length (-1)) v = (gsN st v).length := fun v => by
    unfold cntU
    rw [List.filter_eq_self.mpr]
    intro g hg
    rw [hr g (mem_gsN.mp hg).1]; decide
  have hn : nneg st (List.replicate st.length (-1)) = st.length := by
    unfold nneg
    rw [List.filter_eq_self.mpr]
    · simp
    · intro g hg
      rw [hr g (List.mem_range.mp hg)]; decide
  refine ⟨by simp, by simp, I.ll, fun v hv => .inl (hr v hv), picks_nodup, fun x hx => ?_, by simp, by simp, by simp, fun v hv => ?_, fun v hv _ => ?_, fun v hv hf => ?_, fun v hv _ => ?_, fun v hv hf => ?_, fun v hv _ => ?_⟩
  · obtain ⟨h1, h2, h3⟩ := mem_picks.mp hx
    exact ⟨⟨h1, h2⟩, hr _ (by omega)⟩
  · rw [I.lv v hv, if_pos hv, hc]; simp
  · rw [mem_picks]; simp; omega
  · rw [hr v hv] at hf; omega
  · rw [at_rep hv]
    refine ⟨by omega, fun g hg h0 _ => ?_, .inl rfl⟩
    rw [hr g (mem_gsN.mp hg).1] at h0; omega
  · rw [hr v hv] at hf; omega
  · rw [at_rep hv, hn]; omega
/-- the rows of sources -/
theorem PI.srcs {st : Rws} {left : List Int} {rows : Rws} (I : PI st st.length [] left rows) {x : Int} (hx : InR st x) : rows[x.toNat]? = some (picks st.length fun v => decide (x ∈ rowOf st v)) := by
  rw [I.rw x.toNat (by omega)]
  have e : ((x.toNat : Nat) : Int) = x := by omega
  simp [e]
theorem mem_srcs {st : Rws} {x y : Int} : y ∈ picks st.length (fun v => decide (x ∈ rowOf st v)) ↔ InR st y ∧ x ∈ rowOf st y := by
  rw [mem_picks]
  constructor
  · rintro ⟨h1, h2, h3⟩
    have e : ((y.toNat : Nat) : Int) = y := by omega
    have h4 : x ∈ rowOf st (y.toNat : Int) := by simpa using h3
    rw [e] at h4; exact ⟨⟨h1, h2⟩, h4⟩
  · rintro ⟨h1, h2⟩
    have e : ((y.toNat : Nat) : Int) = y := by omega
    refine ⟨h1.1, h1.2, ?_⟩
    rw [e]; simpa using h2
end Mine
namespace Mine
theorem goalsOf_gsN {st : Rws} (S : Small st) {k : Nat} (hk : k < st.length) {g : Int} : g ∈ goalsOf st k ↔ 0 ≤ g ∧ g.toNat ∈ gsN st k := by
  rw [mem_goals S (show InR st k from ⟨by omega, by omega⟩), mem_gsN]
  unfold Edge
  constructor
  · rintro ⟨_, h2, h3⟩
    have e : ((g.toNat : Nat) : Int) = g := by omega
    exact ⟨h2.1, by omega, by rw [e]; exact h3⟩
  · rintro ⟨h1, h2, h3⟩
    have e : ((g.toNat : Nat) : Int) = g := by omega
    rw [e] at h3
    exact ⟨⟨by omega, by omega⟩, ⟨h1, by omega⟩, h3⟩
theorem goalsOf_lt {st : Rws} (S : Small st) {k : Int} {g : Int} (h : g ∈ goalsOf st k) : 0 ≤ g ∧ g < (st.length : Int) := by
  unfold goalsOf at h
  rw [List.mem_filter] at h
  exact ⟨S.rowPos h.1, by simpa using h.2⟩
/-- what stands below a row -/
def belowOf (st : Rws) (found : List Int) (k : Int) : List Int := (goalsOf st k).map fun g => at' found g.toNat
theorem right_neg {st : Rws} (S : Small st) {found : List Int} (D : DepthIs st found) {k : Nat} (hk : k < st.length) (h : (-1 : Int) ∈ belowOf st found k) : at' found k = -1 := by
  obtain ⟨g, hg, e⟩ := List.mem_map.mp h
  have hg' := (goalsOf_gsN S hk).mp hg
  rcases D.eqn k hk with ⟨h1, _⟩ | ⟨_, _, h3, _⟩
  · exact h1
  · have := (h3 _ hg'.2).1; omega
theorem right_max {st : Rws} (S : Small st) {found : List Int} (D : DepthIs st found) {k : Nat} (hk : k < st.length) (h : (-1 : Int) ∉ belowOf st found k) {M : Int} (hM : M ∈ [0] ++ (belowOf st found k).map (· + 1)) (hle : ∀ a ∈ [0] ++ (belowOf st found k).map (· + 1), a ≤ M) : at' found k = M := by
  rcases D.eqn k hk with ⟨_, g, hg, e⟩ | ⟨h1, _, h3, h4⟩
  · exfalso
    exact h (List.mem_map.mpr ⟨(g : Int), (goalsOf_gsN S hk).mpr ⟨by omega, by simpa using hg⟩, by simpa using e⟩)
  · have up : at' found k ≤ M := by
      rcases h4 with e | ⟨g, hg, e⟩
      · rw [e]; exact hle 0 (by simp)
      · rw [e]
        refine hle _ (List.mem_append.mpr (.inr (List.mem_map.mpr ⟨at' found g, List.mem_map.mpr ⟨(g : Int), (goalsOf_gsN S hk).mpr ⟨by omega, by simpa using hg⟩, by simp⟩, rfl⟩)))
    have dn : M ≤ at' found k := by
      rcases List.mem_append.mp hM with q | q
      · rw [List.mem_singleton] at q; rw [q]; exact h1
      · obtain ⟨d, hd, rfl⟩ := List.mem_map.mp q
        obtain ⟨g, hg, rfl⟩ := List.mem_map.mp hd
        have := (h3 _ ((goalsOf_gsN S hk).mp hg).2).2
        exact this
    omega
theorem right_bounds {st : Rws} {found : List Int} (D : DepthIs st found) {k : Nat} (hk : k < st.length) : -1 ≤ at' found k ∧ at' found k < (st.length : Int) := by
  rcases D.eqn k hk with ⟨h1, _⟩ | ⟨h1, h2, _⟩
  · rw [h1]; exact ⟨by omega, by omega⟩
  · exact ⟨by omega, h2⟩
theorem below_len {st : Rws} (S : Small st) {found : List Int} {k : Int} : (belowOf st found k).length ≤ 4 := by
  unfold belowOf goalsOf
  rw [List.length_map]
  exact Nat.le_trans (List.length_filter_le _ _) (S.rowLen k)
end Mine
namespace Mine

/-- a number on a ring -/
def RingAt (st : Rws) (k : Int) : Prop := ∃ g, Edge st k g ∧ Reach st g k
/-- a number from which a ring is met -/
def EndAt (st : Rws) (k : Int) : Prop := ∃ r, InR st r ∧ RingAt st r ∧ Reach st k r

section
variable {st : Rws} {found : List Int}
theorem dep_edge (D : DepthIs st found) {a b : Int} (e : Edge st a b) (h : 0 ≤ at' found a.toNat) : 0 ≤ at' found b.toNat ∧ at' found b.toNat < at' found a.toNat := by
  obtain ⟨ha, hb, hm⟩ := e
  have hg : b.toNat ∈ gsN st a.toNat := by
    refine (edge_gsN (by omega)).mpr ?_
    rw [show ((a.toNat : Nat) : Int) = a by omega, show ((b.toNat : Nat) : Int) = b by omega]
    exact ⟨ha, hb, hm⟩
  rcases D.eqn a.toNat (by omega) with q | q
  · omega
  · have := q.2.2.1 _ hg; omega
theorem dep_reach (D : DepthIs st found) {a b : Int} (x : Reach st a b) (h : 0 ≤ at' found a.toNat) : 0 ≤ at' found b.toNat ∧ at' found b.toNat ≤ at' found a.toNat := by
  induction x with
  | refl => exact ⟨h, Int.le_refl _⟩
  | tail _ e ih => have := dep_edge D e ih.1; omega
theorem ring_neg (D : DepthIs st found) {k : Int} (h : RingAt st k) : at' found k.toNat < 0 := by
  obtain ⟨g, e, r⟩ := h
  rcases Int.lt_or_le (at' found k.toNat) 0 with q | q
  · exact q
  · have h1 := dep_edge D e q
    have h2 := dep_reach D r h1.1
    omega
theorem end_neg (D : DepthIs st found) {k : Int} (h : EndAt st k) : at' found k.toNat < 0 := by
  obtain ⟨r, _, hr, x⟩ := h
  rcases Int.lt_or_le (at' found k.toNat) 0 with q | q
  · exact q
  · have h1 := dep_reach D x q
    have h2 := ring_neg D hr
    omega
theorem neg_step (D : DepthIs st found) {a : Int} (ha : InR st a) (h : at' found a.toNat < 0) : ∃ g, Edge st a g ∧ at' found g.toNat < 0 := by
  rcases D.eqn a.toNat (by omega) with ⟨_, g, hg, e⟩ | q
  · have := (edge_gsN (by omega)).mp hg
    rw [show ((a.toNat : Nat) : Int) = a by omega] at this
    exact ⟨g, this, by simpa using (by omega : at' found g < 0)⟩
  · omega
open Classical in
noncomputable def card (st : Rws) (a : Int) : List Nat := (List.range st.length).filter fun u : Nat => decide (Reach st a (u : Int))
theorem mem_card {a : Int} {u : Nat} : u ∈ card st a ↔ u < st.length ∧ Reach st a (u : Int) := by
  unfold card; simp [List.mem_filter]
theorem neg_end (D : DepthIs st found) : ∀ (n : Nat) (a : Int), (card st a).length ≤ n → InR st a → at' found a.toNat < 0 → EndAt st a
  | 0, a, hc, ha, h => by
    have h1 : a.toNat ∈ card st a := mem_card.mpr ⟨by omega, by rw [show ((a.toNat : Nat) : Int) = a by omega]; exact .refl⟩
    have := List.length_pos_of_mem h1
    omega
  | n + 1, a, hc, ha, h => by
    obtain ⟨g, e, hg⟩ := neg_step D ha h
    by_cases q : Reach st g a
    · exact ⟨a, ha, ⟨g, e, q⟩, .refl⟩
    · have hlt : (card st g).length + 1 ≤ (card st a).length := by
        have hn : (a.toNat :: card st g).Nodup := List.nodup_cons.mpr ⟨fun hm => by
          have := (mem_card.mp hm).2
          rw [show ((a.toNat : Nat) : Int) = a by omega] at this
          exact q this, List.Pairwise.filter _ List.nodup_range⟩
        refine nodup_sub_len hn fun u hu => ?_
        rcases List.mem_cons.mp hu with rfl | hu
        · exact mem_card.mpr ⟨by omega, by rw [show ((a.toNat : Nat) : Int) = a by omega]; exact .refl⟩
        · have := mem_card.mp hu
          exact mem_card.mpr ⟨this.1, .head e this.2⟩
      obtain ⟨r, h1, h2, h3⟩ := neg_end D n g (by omega) e.2.1 hg
      exact ⟨r, h1, h2, .head e h3⟩
theorem depth_end (D : DepthIs st found) {k : Int} (hk : InR st k) : at' found k.toNat < 0 ↔ EndAt st k := ⟨neg_end D _ k (Nat.le_refl _) hk, end_neg D⟩
theorem ring_iff (D : DepthIs st found) {k : Nat} (hk : k < st.length) : (at' found k < 0 ∧ From st (rowOf st k) k) ↔ RingAt st k := by
  constructor
  · rintro ⟨_, g, hg, h1, h2⟩
    exact ⟨g, ⟨⟨by omega, by omega⟩, h1, hg⟩, h2⟩
  · rintro ⟨g, e, x⟩
    exact ⟨by simpa using ring_neg D ⟨g, e, x⟩, g, e.2.2, e.2.1, x⟩

/-! one more edge -/
def putEdge (st : Rws) (b e : Int) : Rws := st.set b.toNat (rowOf st b ++ [e])
variable {b e : Int}
theorem put_len : (putEdge st b e).length = st.length := by unfold putEdge; simp
theorem put_row (hb : InR st b) {k : Int} (h0 : 0 ≤ k) : rowOf (putEdge st b e) k = if k = b then rowOf st b ++ [e] else rowOf st k := by
  unfold putEdge rowOf
  simp only [List.getD_eq_getElem?_getD, List.getElem?_set]
  have hbl : b.toNat < st.length := by have := hb.1; have := hb.2; omega
  by_cases q : k = b
  · subst q; simp [hbl]
  · have : ¬ b.toNat = k.toNat := fun z => q (by have := hb.1; omega)
    simp [q, this]
theorem put_edge (hb : InR st b) (he : InR st e) {x y : Int} : Edge (putEdge st b e) x y ↔ Edge st x y ∨ (x = b ∧ y = e) := by
  unfold Edge InR
  rw [put_len]
  constructor
  · rintro ⟨h1, h2, h3⟩
    rw [put_row hb h1.1] at h3
    split at h3
    · rename_i q
      rcases List.mem_append.mp h3 with h3 | h3
      · exact .inl ⟨h1, h2, q ▸ h3⟩
      · exact .inr ⟨q, by simpa using h3⟩
    · exact .inl ⟨h1, h2, h3⟩
  · rintro (⟨h1, h2, h3⟩ | ⟨rfl, rfl⟩)
    · refine ⟨h1, h2, ?_⟩
      rw [put_row hb h1.1]
      split
      · rename_i q; exact List.mem_append_left _ (q ▸ h3)
      · exact h3
    · refine ⟨hb, he, ?_⟩
      rw [put_row hb hb.1, if_pos rfl]; simp
theorem put_mono (hb : InR st b) (he : InR st e) {x y : Int} (r : Reach st x y) : Reach (putEdge st b e) x y := by
  induction r with
  | refl => exact .refl
  | tail _ q ih => exact .tail ih ((put_edge hb he).mpr (.inl q))
theorem put_reach (hb : InR st b) (he : InR st e) {x y : Int} (r : Reach (putEdge st b e) x y) : Reach st x y ∨ (Reach st x b ∧ Reach st e y) := by
  induction r with
  | refl => exact .inl .refl
  | tail _ q ih =>
    rcases (put_edge hb he).mp q with q | ⟨rfl, rfl⟩
    · rcases ih with ih | ih
      · exact .inl (.tail ih q)
      · exact .inr ⟨ih.1, .tail ih.2 q⟩
    · rcases ih with ih | ih
      · exact .inr ⟨ih, .refl⟩
      · exact .inr ⟨ih.1, .refl⟩
theorem put_ring (hb : InR st b) (he : InR st e) {r : Int} (h : RingAt (putEdge st b e) r) : RingAt st r ∨ Reach st e b := by
  obtain ⟨g, q, x⟩ := h
  rcases (put_edge hb he).mp q with q | ⟨rfl, rfl⟩
  · rcases put_reach hb he x with x | ⟨x, y⟩
    · exact .inl ⟨g, q, x⟩
    · exact .inr (y.trans (.head q x))
  · rcases put_reach hb he x with x | ⟨x, _⟩
    · exact .inr x
    · exact .inr x
theorem ring_mono (hb : InR st b) (he : InR st e) {r : Int} (h : RingAt st r) : RingAt (putEdge st b e) r :=
  let ⟨g, q, x⟩ := h; ⟨g, (put_edge hb he).mpr (.inl q), put_mono hb he x⟩
theorem end_mono (hb : InR st b) (he : InR st e) {k : Int} (h : EndAt st k) : EndAt (putEdge st b e) k := by
  obtain ⟨r, h1, h2, h3⟩ := h
  exact ⟨r, by unfold InR; rw [put_len]; exact h1, ring_mono hb he h2, put_mono hb he h3⟩
theorem closes_iff (hb : InR st b) (he : InR st e) : EndAt (putEdge st b e) b ↔ (Reach st e b ∨ EndAt st e ∨ EndAt st b) := by
  constructor
  · rintro ⟨r, h1, h2, h3⟩
    have h1' : InR st r := by unfold InR at h1; rw [put_len] at h1; exact h1
    rcases put_ring hb he h2 with h2 | h2
    · rcases put_reach hb he h3 with h3 | ⟨_, h3⟩
      · exact .inr (.inr ⟨r, h1', h2, h3⟩)
      · exact .inr (.inl ⟨r, h1', h2, h3⟩)
    · exact .inl h2
  · have hbe : Edge (putEdge st b e) b e := (put_edge hb he).mpr (.inr ⟨rfl, rfl⟩)
    rintro (h | h | h)
    · exact ⟨b, by unfold InR; rw [put_len]; exact hb, ⟨e, hbe, put_mono hb he h⟩, .refl⟩
    · obtain ⟨r, h1, h2, h3⟩ := end_mono hb he h
      exact ⟨r, h1, h2, .head hbe h3⟩
    · exact end_mono hb he h
theorem end_same (hb : InR st b) (he : InR st e) {k : Int} (hn : ¬ Reach st k b) (h : EndAt (putEdge st b e) k) : EndAt st k := by
  obtain ⟨r, h1, ⟨g, q, x⟩, h3⟩ := h
  have h1' : InR st r := by unfold InR at h1; rw [put_len] at h1; exact h1
  have h3' : Reach st k r := (put_reach hb he h3).resolve_right fun z => hn z.1
  refine ⟨r, h1', ?_, h3'⟩
  rcases (put_edge hb he).mp q with q | ⟨rfl, rfl⟩
  · exact ⟨g, q, (put_reach hb he x).resolve_right fun z => hn (h3'.trans (.head q z.1))⟩
  · exact absurd h3' hn
variable {later : List Int}
theorem gsN_put (hb : InR st b) (he : InR st e) {u g : Nat} (hu : u < st.length) : g ∈ gsN (putEdge st b e) u ↔ g ∈ gsN st u ∨ ((u : Int) = b ∧ (g : Int) = e) := by
  rw [edge_gsN (by rw [put_len]; exact hu), edge_gsN hu, put_edge hb he]
theorem later_same (D : DepthIs st found) (D' : DepthIs (putEdge st b e) later) (hb : InR st b) (he : InR st e) : ∀ (n : Nat) (u : Nat), u < st.length → (at' found u).toNat ≤ n → ¬ Reach st u b → at' later u = at' found u := by
  intro n
  induction n using Nat.strongRecOn with
  | ind n ih =>
  intro u hu hle hn
  have hne : (u : Int) ≠ b := fun q => hn (q ▸ .refl)
  have ihg : ∀ g, g ∈ gsN st u → 0 ≤ at' found u → 0 ≤ at' found g → at' found g + 1 ≤ at' found u → at' later g = at' found g := fun g hg h1 h2 h3 => by
    have hgl := (mem_gsN.mp hg).1
    exact ih (at' found g).toNat (by omega) g hgl (Nat.le_refl _) fun x => hn (.head ((edge_gsN hu).mp hg) x)
  have hk : InR st (u : Int) := ⟨by omega, by omega⟩
  have hk' : InR (putEdge st b e) (u : Int) := by unfold InR; rw [put_len]; exact hk
  have h1 := depth_end D hk
  have h2 := depth_end D' hk'
  simp only [Int.toNat_natCast] at h1 h2
  have hu' : u < (putEdge st b e).length := by rw [put_len]; exact hu
  rcases D.eqn u hu with q | q
  · have h3 : at' later u < 0 := h2.mpr (end_mono hb he (h1.mp (by omega)))
    rcases D'.eqn u hu' with q' | q'
    · omega
    · omega
  · rcases D'.eqn u hu' with q' | q'
    · have h3 := h1.mpr (end_same hb he hn (h2.mp (by omega)))
      omega
    · obtain ⟨a1, _, a3, a4⟩ := q
      obtain ⟨b1, _, b3, b4⟩ := q'
      have sg : ∀ g, g ∈ gsN (putEdge st b e) u ↔ g ∈ gsN st u := fun g => by
        rw [gsN_put hb he hu]; exact ⟨fun z => z.resolve_right fun y => hne y.1, .inl⟩
      rcases a4 with a4 | ⟨g, hg, a4⟩
      · rcases b4 with b4 | ⟨g, hg, b4⟩
        · omega
        · have := a3 g ((sg g).mp hg); omega
      · have e1 := ihg g hg a1 (a3 g hg).1 (a3 g hg).2
        have l1 := (b3 g ((sg g).mpr hg)).2
        rcases b4 with b4 | ⟨g', hg', b4⟩
        · have := b3 g ((sg g).mpr hg); omega
        · have hg'' := (sg g').mp hg'
          have e2 := ihg g' hg'' a1 (a3 g' hg'').1 (a3 g' hg'').2
          have l2 := (a3 g' hg'').2
          omega
theorem later_least (D : DepthIs st found) (D' : DepthIs (putEdge st b e) later) (hb : InR st b) (he : InR st e) : ∀ (n : Nat) (u : Nat), u < st.length → 0 ≤ at' later u → (at' later u).toNat ≤ n → at' found u ≤ at' later u := by
  intro n
  induction n using Nat.strongRecOn with
  | ind n ih =>
  intro u hu h0 hle
  have hu' : u < (putEdge st b e).length := by rw [put_len]; exact hu
  rcases D.eqn u hu with q | q
  · omega
  · obtain ⟨a1, _, a3, a4⟩ := q
    rcases a4 with a4 | ⟨g, hg, a4⟩
    · omega
    · rcases D'.eqn u hu' with q' | ⟨_, _, b3, z⟩
      · omega
      · clear z
        have hg' := b3 g ((gsN_put hb he hu).mpr (.inl hg))
        have := ih (at' later g).toNat (by omega) g (mem_gsN.mp hg).1 hg'.1 (Nat.le_refl _)
        omega
end
theorem picks_ord {n : Nat} {f : Nat → Bool} : (picks n f).Pairwise (· ≤ ·) := by
  unfold picks
  refine List.pairwise_map.mpr ?_
  refine (List.Pairwise.filter _ List.pairwise_lt_range).imp fun h => ?_
  exact Int.ofNat_le.mpr (Nat.le_of_lt h)
end Mine
namespace Mine
open PySem PySem.W PySem.Calls PyProof.Rows

/-! the set's table: what stands in it rises -/
def Rise (xs : Array Nat) : Prop := xs.toList.Pairwise (· < ·)
theorem Rise.lt {xs : Array Nat} (h : Rise xs) {i j : Nat} (hij : i < j) (hj : j < xs.size) : xs[i] < xs[j] := by
  have := List.pairwise_iff_getElem.mp h i j (by simp; omega) (by simpa using hj) hij
  simpa using this
theorem Rise.le {xs : Array Nat} (h : Rise xs) {i j : Nat} (hij : i ≤ j) (hj : j < xs.size) : xs[i] ≤ xs[j] := by
  rcases Nat.lt_or_ge i j with q | q
  · exact Nat.le_of_lt (h.lt q hj)
  · have : i = j := by omega
    subst this; exact Nat.le_refl _

theorem below_go {xs : Array Nat} (h : Rise xs) (j : Nat) : ∀ fuel lo hi : Nat, hi - lo ≤ fuel → lo ≤ hi → hi ≤ xs.size → (∀ i (_ : i < xs.size), i < lo → xs[i] < j) → (∀ i (_ : i < xs.size), hi ≤ i → j ≤ xs[i]) →
    ∃ b, SetTable.below.go xs j fuel lo hi = b ∧ b ≤ xs.size ∧ (∀ i (_ : i < xs.size), i < b → xs[i] < j) ∧ (∀ i (_ : i < xs.size), b ≤ i → j ≤ xs[i]) := by
  intro fuel
  induction fuel with
  | zero =>
    intro lo hi hf hle hs h1 h2
    have : lo = hi := by omega
    subst this
    exact ⟨lo, rfl, hs, h1, h2⟩
  | succ fuel ih =>
    intro lo hi hf hle hs h1 h2
    unfold SetTable.below.go
    by_cases hlt : lo < hi
    · rw [if_pos hlt]
      have hm : (lo + hi) / 2 < xs.size := by omega
      have hg : xs.getD ((lo + hi) / 2) j = xs[(lo + hi) / 2] := by simp [Array.getD, hm]
      dsimp only
      rw [hg]
      by_cases hc : xs[(lo + hi) / 2] < j
      · rw [if_pos hc]
        refine ih _ _ (by omega) (by omega) hs (fun i hi' hlo => ?_) h2
        exact Nat.lt_of_le_of_lt (h.le (show i ≤ (lo + hi) / 2 by omega) hm) hc
      · rw [if_neg hc]
        refine ih _ _ (by omega) (by omega) (by omega) h1 fun i hi' hge => ?_
        exact Nat.le_trans (Nat.not_lt.mp hc) (h.le hge hi')
    · rw [if_neg hlt]
      have : lo = hi := by omega
      subst this
      exact ⟨lo, rfl, hs, h1, h2⟩
theorem below_spec {xs : Array Nat} (h : Rise xs) (j : Nat) : SetTable.below xs j ≤ xs.size ∧ (∀ i (_ : i < xs.size), i < SetTable.below xs j → xs[i] < j) ∧ (∀ i (_ : i < xs.size), SetTable.below xs j ≤ i → j ≤ xs[i]) := by
  obtain ⟨b, e, r⟩ := below_go h j xs.size 0 xs.size (by omega) (by omega) (by omega) (fun i _ q => absurd q (Nat.not_lt_zero _)) (fun i q1 q2 => by omega)
  have : SetTable.below xs j = b := e
  rw [this]; exact r

theorem Rise.insert {xs : Array Nat} (h : Rise xs) {j : Nat} (hne : xs[SetTable.below xs j]? ≠ some j) : Rise (SetTable.insertAt xs (SetTable.below xs j) j) := by
  obtain ⟨hb, h1, h2⟩ := below_spec h j
  unfold Rise
  rw [SetTable.toList_insertAt]
  generalize hbb : SetTable.below xs j = b at hne hb h1 h2
  have h2' : ∀ i (_ : i < xs.size), b ≤ i → j < xs[i] := by
    intro i hi hle
    have hge := h2 i hi hle
    rcases Nat.lt_or_ge j xs[i] with q | q
    · exact q
    · have e : xs[i] = j := Nat.le_antisymm q hge
      have hbs : b < xs.size := by omega
      have hb2 := h2 b hbs (Nat.le_refl _)
      have hb3 := h.le hle hi
      have e2 : xs[b] = j := by omega
      exact absurd (by rw [Array.getElem?_eq_getElem hbs, e2]) hne
  rw [List.pairwise_append]
  refine ⟨List.Pairwise.sublist (List.take_sublist _ _) h, ?_, ?_⟩
  · rw [List.pairwise_cons]
    refine ⟨fun a ha => ?_, List.Pairwise.sublist (List.drop_sublist _ _) h⟩
    obtain ⟨k, hk⟩ := List.mem_iff_getElem?.mp ha
    rw [List.getElem?_drop] at hk
    have hk2 : xs[b + k]? = some a := by simpa using hk
    obtain ⟨hlt, e⟩ := Array.getElem?_eq_some_iff.mp hk2
    rw [← e]; exact h2' _ hlt (by omega)
  · intro a ha c hc
    have haj : a < j := by
      obtain ⟨k, hk⟩ := List.mem_iff_getElem?.mp ha
      rw [List.getElem?_take] at hk
      split at hk
      · rename_i hkb
        have hk2 : xs[k]? = some a := by simpa using hk
        obtain ⟨hlt, e⟩ := Array.getElem?_eq_some_iff.mp hk2
        rw [← e]; exact h1 _ hlt hkb
      · cases hk
    rcases List.mem_cons.mp hc with rfl | hc
    · exact haj
    · obtain ⟨k, hk⟩ := List.mem_iff_getElem?.mp hc
      rw [List.getElem?_drop] at hk
      have hk2 : xs[b + k]? = some c := by simpa using hk
      obtain ⟨hlt, e⟩ := Array.getElem?_eq_some_iff.mp hk2
      have := h2' _ hlt (by omega)
      omega

/-- a small table: eight places, no deaths, at most four things -/
structure Tb (bt : Bool) (t : SetTable) (n : Nat) : Prop where
  led : bt = false → t.led = true
  dm : t.dummies = #[]
  up : Rise t.place
  msk : t.mask = 7
  sz : t.place.size = n
  pl : t.plain = true
theorem Tb.fresh {bt led : Bool} (h : bt = false → led = true) : Tb bt (.fresh 0 0 led) 0 := ⟨h, rfl, .nil, rfl, rfl, rfl⟩

theorem has_nil (j : Nat) : SetTable.has #[] j = false := by simp [SetTable.has]

theorem slot_or {t : SetTable} (hd : t.dummies = #[]) (j : Nat) : t.slot j = .empty ∨ ∃ i, t.slot j = .live i ∧ t.place[i]? = some j := by
  unfold SetTable.slot
  rw [hd, has_nil]
  dsimp only
  split
  · rename_i h; exact .inr ⟨_, rfl, by simpa using h⟩
  · exact .inl rfl
theorem slot_empty {t : SetTable} {j : Nat} (h : t.slot j = .empty) : t.place[SetTable.below t.place j]? ≠ some j := by
  unfold SetTable.slot at h
  dsimp only at h
  split at h
  · cases h
  · rename_i hn; simpa using hn

/-- the places that a small hash goes through -/
def nxt (i : Nat) : Nat := (i * 5 + 1) % 8
def itr : Nat → Nat → Nat
  | 0, i => i
  | k + 1, i => itr k (nxt i)
theorem itr_all : ∀ i < 8, ∀ r < 8, ∃ k, k < 8 ∧ itr k i = r := by decide +kernel
theorem nxt_lt (i : Nat) : nxt i < 8 := Nat.mod_lt _ (by decide)

theorem adv {t : SetTable} (hm : t.mask = 7) {p : SetTable.Probe} (h1 : p.more = 0) (h2 : p.perturb < 32) (hj : p.j = p.i) : (t.advance p).more = 0 ∧ (t.advance p).perturb < 32 ∧ (t.advance p).j = (t.advance p).i ∧ (t.advance p).i = nxt p.i ∧ (t.advance p).dummy = p.dummy := by
  have hp : p.perturb / 32 = 0 := Nat.div_eq_of_lt h2
  unfold SetTable.advance SetTable.leap SetTable.runEnd
  rw [hm, if_neg (by omega)]
  simp only [hp]
  refine ⟨?_, by show 0 < 32; omega, trivial, by show (p.i * 5 + 1 + 0) % (7 + 1) = nxt p.i; rfl, trivial⟩
  have : ¬ ((p.i * 5 + 1 + 0) % (7 + 1) + 9 ≤ 7) := by omega
  rw [if_neg this]; omega

theorem go_find {t : SetTable} (hd : t.dummies = #[]) (hm : t.mask = 7) {hashAt : Nat → Int} {h : Int} (hh : ∀ i, hashAt i ≠ h) : ∀ (n fuel : Nat) (p : SetTable.Probe), n < fuel → p.more = 0 → p.perturb < 32 → p.j = p.i → t.slot (itr n p.i) = .empty →
    ∃ j, SetTable.probe.go t hashAt h fuel p = some (.empty j p.dummy) ∧ t.slot j = .empty := by
  intro n
  induction n with
  | zero =>
    intro fuel p hf _ _ hj he
    obtain ⟨f, rfl⟩ : ∃ f, fuel = f + 1 := ⟨fuel - 1, by omega⟩
    unfold SetTable.probe.go
    rw [hj]
    have he' : t.slot p.i = .empty := he
    rw [he']
    exact ⟨p.i, rfl, he'⟩
  | succ n ih =>
    intro fuel p hf h1 h2 hj he
    obtain ⟨f, rfl⟩ : ∃ f, fuel = f + 1 := ⟨fuel - 1, by omega⟩
    unfold SetTable.probe.go
    rcases slot_or hd p.j with hs | ⟨i, hs, _⟩
    · rw [hs]; exact ⟨p.j, rfl, hs⟩
    · rw [hs]
      dsimp only
      rw [if_neg (by simpa using hh i)]
      obtain ⟨a1, a2, a3, a4, a5⟩ := adv hm h1 h2 hj
      obtain ⟨j, hg, hj'⟩ := ih f (t.advance p) (by omega) a1 a2 a3 (by rw [a4]; exact he)
      exact ⟨j, by rw [hg, a5], hj'⟩

theorem freeSlot_small {bt : Bool} {t : SetTable} {n : Nat} (g : Tb bt t n) (hn : n ≤ 7) {h : Int} (h0 : 0 ≤ h) (h32 : h < 32) : ∃ j, t.freeSlot h = some (j, false) ∧ t.slot j = .empty := by
  -- some place of the eight is free
  obtain ⟨r, hr, he⟩ : ∃ r, r < 8 ∧ t.slot r = .empty := by
    apply Classical.byContradiction
    intro hno
    have hall : ∀ r, r < 8 → r ∈ t.place.toList := fun r hr => by
      rcases slot_or g.dm r with h | ⟨i, _, hi⟩
      · exact absurd ⟨r, hr, h⟩ hno
      · exact List.mem_of_getElem? (by simpa using hi)
    have h8 : (List.range 8).length ≤ t.place.toList.length := nodup_sub_len List.nodup_range fun r hr => hall r (List.mem_range.mp hr)
    have := g.sz
    simp at h8; omega
  have hb : SetTable.bits h = h.toNat := by
    unfold SetTable.bits
    rw [Int.emod_eq_of_lt h0 (by omega)]
  have hi8 : h.toNat % 8 < 8 := Nat.mod_lt _ (by decide)
  obtain ⟨k, hk, hkr⟩ := itr_all (h.toNat % 8) hi8 r hr
  have hps : t.probeStart h = { j := h.toNat % 8, more := 0, i := h.toNat % 8, perturb := h.toNat, dummy := none } := by
    unfold SetTable.probeStart SetTable.runEnd
    rw [g.msk, hb]
    dsimp only
    rw [if_neg (by omega)]
    simp
  obtain ⟨j, hg, hj⟩ := go_find (hashAt := fun _ => h + 1) (h := h) g.dm g.msk (fun _ => by omega) k (10 * SetTable.turns t.mask) (t.probeStart h) (by rw [g.msk]; unfold SetTable.turns; omega) (by rw [hps]) (by rw [hps]; dsimp only; omega) (by rw [hps]) (by rw [hps]; dsimp only; rw [hkr]; exact he)
  refine ⟨j, ?_, hj⟩
  unfold SetTable.freeSlot SetTable.probe
  rw [hg, hps]
  rfl

theorem insertAt_size {α : Type} {xs : Array α} {p : Nat} {x : α} (hp : p ≤ xs.size) : (SetTable.insertAt xs p x).size = xs.size + 1 := by
  unfold SetTable.insertAt
  simp only [Array.size_append, Array.size_push, Array.size_extract]
  omega

theorem layNew_small {bt : Bool} {t : SetTable} {es : Array (Int × Value)} (g : Tb bt t es.size) (hn : es.size ≤ 3) {h : Int} (h0 : 0 ≤ h) (h32 : h < 32) (x : Value) :
    ∃ es' t', layNew t es h x = (es', t', false, false) ∧ Tb bt t' es'.size ∧ es'.size = es.size + 1 ∧ es'.toList.Perm (es.toList ++ [(h, x)]) := by
  obtain ⟨j, hf, hj⟩ := freeSlot_small g (by omega) h0 h32
  have hpl : SetTable.below t.place j ≤ es.size := by rw [← g.sz]; exact (below_spec g.up j).1
  have hsz := insertAt_size (x := (h, x)) hpl
  have hpz := insertAt_size (x := j) (show SetTable.below t.place j ≤ t.place.size by rw [g.sz]; exact hpl)
  have hT : Tb bt (t.put j).1 (SetTable.insertAt es (SetTable.below t.place j) (h, x)).size := by
    refine ⟨g.led, ?_, ?_, g.msk, ?_, g.pl⟩
    · show (if SetTable.has t.dummies j then _ else t.dummies) = #[]
      rw [g.dm, has_nil]; rfl
    · exact g.up.insert (slot_empty hj)
    · show (SetTable.insertAt t.place (SetTable.below t.place j) j).size = _
      rw [hpz, hsz, g.sz]
  have hfit : (t.put j).1.fits (SetTable.insertAt es (SetTable.below t.place j) (h, x)).size = true := by
    unfold SetTable.fits SetTable.fill
    rw [hT.sz, hT.dm, hT.msk]
    simp; omega
  refine ⟨SetTable.insertAt es (SetTable.below t.place j) (h, x), (t.put j).1, ?_, hT, hsz, ?_⟩
  · unfold layNew
    rw [hf]
    dsimp only
    have e2 : (t.put j).2 = SetTable.below t.place j := rfl
    rw [e2]
    unfold SetTable.orStandIn
    rw [if_pos hfit, hfit]; rfl
  · rw [SetTable.toList_insertAt]
    have h1 : (es.toList.take (SetTable.below t.place j) ++ (h, x) :: es.toList.drop (SetTable.below t.place j)).Perm ((h, x) :: (es.toList.take (SetTable.below t.place j) ++ es.toList.drop (SetTable.below t.place j))) := List.perm_middle
    rw [List.take_append_drop] at h1
    exact h1.trans (List.perm_append_comm (l₁ := [(h, x)]) (l₂ := es.toList))
end Mine
namespace Mine
open PySem PySem.W PySem.Calls PyProof.Rows

abbrev so (es : Array (Int × Value)) (ep : Nat) (t : SetTable) : Obj := { cls := .type "set", dict := none, data := .set es ep t, slots := #[] }
def isE (e : Int × Value) (k : Int) : Prop := e.1 = hashInt k ∧ ∃ t, e.2 = .int k t
def byText (w : World) : Bool := w.params.followText "set-order"
/-- o is a set of the ints ks, four small ones at most -/
def SetO (w : World) (o : Obj) (ks : List Int) : Prop :=
  ∃ es ep t, o = so es ep t ∧ Paired isE es.toList ks ∧ ks.Nodup ∧ Tb (byText w) t es.size ∧ ∀ k ∈ ks, 0 ≤ k ∧ k < 32
theorem hash_small {k : Int} (h0 : 0 ≤ k) (h : k < 32) : hashInt k = k := by
  have : ∀ n : Fin 32, hashInt ((n.val : Nat) : Int) = ((n.val : Nat) : Int) := by decide +kernel
  have e := this ⟨k.toNat, by omega⟩
  have e2 : ((k.toNat : Nat) : Int) = k := by omega
  simpa [e2] using e

theorem pr_perm {α β : Type} {R : β → α → Prop} {vs us : List β} (h : us.Perm vs) : ∀ {xs : List α}, Paired R vs xs → ∃ ys, ys.Perm xs ∧ Paired R us ys := by
  induction h with
  | nil => intro xs p; exact ⟨xs, List.Perm.refl _, p⟩
  | cons a _ ih =>
    intro xs p
    cases p with
    | cons q p =>
      obtain ⟨ys, h1, h2⟩ := ih p
      exact ⟨_ :: ys, h1.cons _, .cons q h2⟩
  | swap a b l =>
    intro xs p
    cases p with
    | cons q p =>
      cases p with
      | cons q' p => exact ⟨_ :: _ :: _, List.Perm.swap _ _ _, .cons q' (.cons q p)⟩
  | trans _ _ ih1 ih2 =>
    intro xs p
    obtain ⟨ys, h1, h2⟩ := ih2 p
    obtain ⟨zs, h3, h4⟩ := ih1 h2
    exact ⟨zs, h3.trans h1, h4⟩

section
variable {prog : Program} {w : World} {A : Around} {E : Value → Shared → Prop} {s : Shared}

theorem elems_of {es : List (Int × Value)} {ks : List Int} (p : Paired isE es ks) : ElemsOf (intKind prog w) es := by
  intro e he
  obtain ⟨i, hi⟩ := List.mem_iff_getElem?.mp he
  obtain ⟨k, _, h1, t, h2⟩ := pr_atv p hi
  refine ⟨⟨k, ?_, h1⟩, ?_⟩
  · rw [h2]; exact intKind_is _ _ _ _
  · rw [h2]; rfl
theorem findIdx_none {es : List (Int × Value)} {ks : List Int} (p : Paired isE es ks) {k : Int} (h : k ∉ ks) : es.findIdx? (fun e => (intKind prog w).is k e.2) = none := by
  rw [List.findIdx?_eq_none_iff]
  intro e he
  obtain ⟨i, hi⟩ := List.mem_iff_getElem?.mp he
  obtain ⟨k', hk', h1, t, h2⟩ := pr_atv p hi
  rw [h2]
  cases q : (intKind prog w).is k (Value.int k' t) with
  | false => rfl
  | true =>
    have := (intKind prog w).inj _ k k' q (intKind_is _ _ _ _)
    subst this
    exact absurd (List.mem_of_getElem? hk') h
theorem findIdx_some {es : List (Int × Value)} {ks : List Int} (p : Paired isE es ks) {k : Int} (h : k ∈ ks) : ∃ j, es.findIdx? (fun e => (intKind prog w).is k e.2) = some j := by
  cases q : es.findIdx? (fun e => (intKind prog w).is k e.2) with
  | some j => exact ⟨j, rfl⟩
  | none =>
    exfalso
    rw [List.findIdx?_eq_none_iff] at q
    obtain ⟨i, hi⟩ := List.mem_iff_getElem?.mp h
    obtain ⟨e, he, h1, t, h2⟩ := pr_at p hi
    have := q e (List.mem_of_getElem? he)
    rw [h2, intKind_is] at this
    cases this

theorem set_add {a : Addr} {o : Obj} {ks : List Int} {k : Int} {tk : Tok} {Q : Bool → Shared → Prop} (ho : s.heap.get? a = some o) (hS : SetO w o ks) (h0 : 0 ≤ k) (h32 : k < 32) (hb : k ∉ ks → ks.length ≤ 3)
    (h : ∀ h' o' ks' b, Heap.SameBut a s.heap h' → h'.get? a = some o' → SetO w o' ks' → ks'.Perm (if k ∈ ks then ks else ks ++ [k]) → Q b { s with heap := h' }) (hl : ks.length ≤ 4) :
    wpAny (model prog w) A (setAddHashed a (.int k tk) (hashInt k)) Q E s := by
  obtain ⟨es, ep, t, rfl, p, nd, g, sm⟩ := hS
  have hlen : es.size = ks.length := by rw [← p.length]; simp
  have hel : ElemsOf (intKind prog w) es.toList := elems_of p
  have hbs : byScan (.int k tk) es = true := byScan_of rfl (by rw [hlen]; unfold scanBound; omega) hel
  have hkey : (intKind prog w).is k (.int k tk) = true := intKind_is _ _ _ _
  have heq : ({ s with heap := s.heap } : Shared) = s := by cases s; rfl
  have hf : t.fits es.size = true := by
    unfold SetTable.fits SetTable.fill
    rw [g.sz, g.dm, g.msk]; simp; omega
  unfold setAddHashed setAddHashedIn
  refine wpAny_holding (wpAny_bind (wpAny_setState_of ho rfl hf ?_))
  dsimp only
  rw [hbs]
  simp only [↓reduceIte]
  unfold setAddByScan
  refine wpAny_bind (wpAny_bind (wpAny_rule (wpAny_bind ?_)))
  refine wpAny_setScan_of (knd := intKind prog w) hkey ho rfl hf hel ?_
  by_cases hk : k ∈ ks
  · obtain ⟨j, hj⟩ := findIdx_some (prog := prog) (w := w) p hk
    rw [hj]
    dsimp only
    refine wpAny_pure (wpAny_pure ?_)
    have := h s.heap (so es ep t) ks false (Heap.SameBut.refl a s.heap) ho ⟨es, ep, t, rfl, p, nd, g, sm⟩ (by rw [if_pos hk])
    rw [heq] at this; exact this
  · rw [findIdx_none p hk]
    dsimp only
    obtain ⟨es1, t1, eL, g1, hz1, hperm⟩ := layNew_small (h := hashInt k) g (by rw [hlen]; exact hb hk) (by rw [hash_small h0 h32]; exact h0) (by rw [hash_small h0 h32]; exact h32) (.int k tk)
    rw [eL]
    dsimp only
    obtain ⟨ks1, hks1, p1⟩ := pr_perm hperm (pr_app p (.cons ⟨rfl, tk, rfl⟩ .nil) : Paired isE (es.toList ++ [(hashInt k, .int k tk)]) (ks ++ [k]))
    have nd1 : ks1.Nodup := by
      rw [hks1.nodup_iff, List.nodup_append]
      exact ⟨nd, by simp, fun x hx y hy => by rw [List.mem_singleton] at hy; subst hy; exact fun e => hk (e ▸ hx)⟩
    have sm1 : ∀ x ∈ ks1, 0 ≤ x ∧ x < 32 := fun x hx => by
      rcases List.mem_append.mp (hks1.mem_iff.mp hx) with q | q
      · exact sm x q
      · rw [List.mem_singleton] at q; subst q; exact ⟨h0, h32⟩
    have hl1 := hb hk
    have ho1 := Heap.get?_update_self (Obj.putSet es1 t1) ho rfl
    have hnt : t1.tooFull = false := by
      unfold SetTable.tooFull SetTable.fill
      rw [g1.sz, g1.dm, g1.msk]; simp; omega
    have tail : wpAny (model prog w) A (do
        storeSet a es1 t1
        if (!false && t1.tooFull) = true then do
            (match (relayAll t1 es1 (SetTable.grown es1.size)).2.2 with | true => rule "set.scan.the-table-gave-way" | false => pure ())
            storeSet a (relayAll t1 es1 (SetTable.grown es1.size)).1 (relayAll t1 es1 (SetTable.grown es1.size)).2.1
            pure (some true)
          else pure (some true)) (fun r s' => wpAny (model prog w) A (match r with | some added => pure added | none => setAddHashedIn a (.int k tk) (hashInt k) 99999) Q E s') E s := by
      refine wpAny_bind (wpAny_storeSet_of ho rfl ?_ (by rw [sizeLine_eq]; omega))
      rw [hnt, if_neg (by simp)]
      exact wpAny_pure (wpAny_pure (h _ _ ks1 true (Heap.SameBut.update ..) ho1 ⟨es1, _, t1, rfl, p1, nd1, g1, sm1⟩ (by rw [if_neg hk]; exact hks1)))
    refine wpAny_bind (wpAny_pure ?_)
    split
    · refine wpAny_bind ?_
      rw [hashByValue_scannable 8 (by rfl)]
      refine wpAny_pure ?_
      exact tail
    · refine wpAny_bind (wpAny_pure ?_)
      simp only [↓reduceIte]
      exact tail
end
end Mine
namespace Mine
open PySem PySem.W PySem.Calls PyProof.Rows

section
variable {prog : Program} {w : World} {A : Around}

/-- a number comes into a set -/
def Adds (prog : Program) (w : World) (SP : Obj → List Int → Prop) (S : Addr) (xs : List Int) : Prop := ∀ (A : Around) (E : Value → Shared → Prop) (s : Shared) (o : Obj) (ks : List Int) (k : Int) (tk : Tok) (i : Nat) (Q : Bool → Shared → Prop), s.heap.get? S = some o → SP o ks → xs[i]? = some k → (∀ x, x ∈ ks ↔ x ∈ xs.take i) →
  (∀ h' o' ks' b, Heap.SameBut S s.heap h' → h'.get? S = some o' → SP o' ks' → (∀ x, x ∈ ks' ↔ x = k ∨ x ∈ ks) → Q b { s with heap := h' }) → wpAny (model prog w) A (setAddHashed S (.int k tk) (hashInt k)) Q E s
theorem fill_loop {I S : Addr} {fp : List Addr} {n : Nat} {P : Nat → Value → Prop} {St : Nat → Heap → Prop} {xs : List Int} {R : Result → Shared → Prop} {SP : Obj → List Int → Prop} (hadd : Adds prog w SP S xs) (T : Walks prog w A.in1 I fp [I] n P St) (hS : S ∉ fp) (hI : I ∈ fp)
    (hv : ∀ i v, P i v → ∃ x, xs[i]? = some x ∧ isI v x) (hn : n = xs.length) :
    ∀ (k i : Nat) (s : Shared) (o : Obj) (ks : List Int), n - i = k → i ≤ n → St i s.heap → s.heap.get? S = some o → SP o ks → (∀ x, x ∈ ks ↔ x ∈ xs.take i) →
      (∀ h' tk o' ks', (∀ b ob, b ≠ S → b ≠ I → s.heap.get? b = some ob → h'.get? b = some ob) → h'.get? S = some o' → SP o' ks' → (∀ x, x ∈ ks' ↔ x ∈ xs) → R (.ok (.ret .none)) { s with heap := h', toks := tk }) →
      codeAny (model prog w) A (.builtin "set.update.loop" ⟨[.ref S, .ref I], []⟩) R s := by
  have hSI : S ≠ I := fun e => hS (e ▸ hI)
  intro k
  induction k with
  | zero =>
    intro i s o ks hk hi st ho hO hm hR
    have e : i = n := by omega
    subst e
    refine codeAny_builtin PyProof.Rows.F.entry_set_update_loop ?_
    rw [Around.under_plainId PyProof.Rows.F.plain_set_update_loop _]
    show wpAny _ A.in1 (pyNext (.ref I) >>= _) _ _ s
    refine wpAny_bind (T.done s _ _ st fun h' tk hkeep => ?_)
    show wpAny _ A.in1 (ret Value.none) _ _ _
    exact wpAny_pure (hR h' tk o ks (fun b ob _ hb e => hkeep b ob (by simpa using hb) e) (hkeep S o (by simpa using hSI) ho) hO (fun x => by rw [hm, hn, List.take_length]))
  | succ k ih =>
    intro i s o ks hk hi st ho hO hm hR
    have hlt : i < n := by omega
    refine codeAny_builtin PyProof.Rows.F.entry_set_update_loop ?_
    rw [Around.under_plainId PyProof.Rows.F.plain_set_update_loop _]
    show wpAny _ A.in1 (pyNext (.ref I) >>= _) _ _ s
    refine wpAny_bind (T.item i s _ _ hlt st fun v h' tk hP st' hkeep => ?_)
    obtain ⟨x, hx, t, rfl⟩ := hv i v hP
    have ho' : h'.get? S = some o := hkeep S o (by simpa using hSI) ho
    show wpAny _ A.in1 (holding [Value.int x t] (setAdd S (.int x t)) >>= _) _ _ _
    refine wpAny_bind (wpAny_holding ?_)
    unfold setAdd
    refine wpAny_holding ?_
    refine wpAny_bind ((intKind prog w).pyHash (k := x) (intKind_is _ _ _ _) ?_)
    refine hadd _ _ { s with heap := h', toks := tk + 1 } o ks x t i _ ho' hO hx hm fun h2 o2 ks2 b hsb ho2 hO2 hp2 => ?_
    refine wpAny_pure ⟨plainId_quiet PyProof.Rows.F.plain_set_update_loop _, ?_⟩
    refine ih (i + 1) _ o2 ks2 (by omega) hlt (T.frame _ _ _ st' fun b hb ob e => ?_) ho2 hO2 (fun y => ?_) fun h3 tk3 o3 ks3 hk3 ho3 hO3 hm3 => ?_
    · have hne : b ≠ S := fun q => hS (q ▸ hb)
      rw [hsb.2 b hne]; exact e
    · rw [hp2, List.take_add_one, hx, hm y]
      simp only [Option.toList_some, List.mem_append, List.mem_singleton]
      exact or_comm
    · refine hR h3 tk3 o3 ks3 (fun b ob hbS hbI e => hk3 b ob hbS hbI ?_) ho3 hO3 hm3
      rw [hsb.2 b hbS]; exact hkeep b ob (by simpa using hbI) e
end
end Mine
namespace Mine
open PySem PySem.W PySem.Calls PyProof.Rows

section
variable {prog : Program} {w : World} {A : Around} {E : Value → Shared → Prop} {s : Shared}

theorem set_born (a : Value) {Q₁ : Value → Shared → Prop}
    (h : Q₁ (.ref s.heap.objs.size) { s with heap := s.heap.push (so #[] 0 (.fresh 0 0 (!byText w))) }) :
    codeAny (model prog w) A (.call (.builtin "set.__new__") ⟨[.type "set", a], []⟩) (wants Q₁ E) s := by
  refine codeAny_of_tree ?_
  show wpAny _ A.in1 (do checkBuiltinCall "set.__new__" ⟨[.type "set", a], []⟩; again (.builtin "set.__new__" ⟨[.type "set", a], []⟩)) _ _ s
  refine wpAny_bind (wpAny_of_eq (PySem.F.newCall_set_1 a) (wpAny_pure ⟨plainId_quiet PySem.F.plain_set_new _, codeAny_builtin PySem.F.entry_set_new ?_⟩))
  rw [Around.under_plainId PySem.F.plain_set_new _]
  unfold Builtin.«set.__new__» Builtin.Frozenset.newClass
  have hsub := sub_set_self
  obtain ⟨hp, g, d, tk, os⟩ := s
  dsimp only
  wp_walk
  refine wpAny_askSetting (wpAny_pure ?_)
  dsimp only
  simp only [newObj]
  refine wpAny_bind (wpAny_alloc (wpAny_pure ?_))
  exact wpAny_pure h

set_option maxHeartbeats 3200000 in
theorem set_of_listG {l : Addr} {vs : List Value} {n : Nat} {xs : List Int} {Q : Value → Shared → Prop} (hh : A.handled = none) (hl : s.heap.get? l = some (lo vs n)) (p : Paired isI vs xs) {SP : Obj → List Int → Prop} (h0 : SP (so #[] 0 (.fresh 0 0 (!byText w))) []) (hadd : Adds prog w SP s.heap.objs.size xs)
    (h : ∀ h' tk o ks, (∀ b ob, s.heap.get? b = some ob → h'.get? b = some ob) → h'.get? s.heap.objs.size = some o → SP o ks → (∀ x, x ∈ ks ↔ x ∈ xs) → Q (.ref s.heap.objs.size) { s with heap := h', toks := tk }) :
    wpAny (model prog w) A (call (.type "set") [.ref l]) Q E s := by
  obtain ⟨c, tl, hmro⟩ := PySem.F.called_set.mro
  have hmade := PySem.F.called_set.made
  have hsub := PySem.F.called_set.sub
  have hct := PySem.F.typeCall_set_1 (.ref l)
  have h1 := PySem.F.called_set.notType
  have h2 := PySem.F.called_set.canCreate
  refine wpAny_call (codeAny_of_tree ?_)
  show wpAny _ _ (callAny (.type "set") _) _ _ _
  refine wpAny_pure ⟨Code.quiet_builtin _ (by decide +kernel), codeAny_builtin PySem.F.entry_type_call ?_⟩
  rw [Around.under_plain (weight_type_call_type "set" [.ref l] []) rfl]
  repeat (any_goals (first | assumption | wp_step))
  refine codeAny_mono (set_born (.ref l) (E := E) (Q₁ := fun obj s₁ => obj = .ref s.heap.objs.size ∧ s₁ = { s with heap := s.heap.push (so #[] 0 (.fresh 0 0 (!byText w))) }) ⟨rfl, rfl⟩) fun r s₁ hr => ?_
  cases r with
  | error e => exact hr
  | ok fl =>
    cases fl with
    | ret obj =>
      obtain ⟨rfl, rfl⟩ := hr
      have hS : (s.heap.push (so #[] 0 (.fresh 0 0 (!byText w)))).get? s.heap.objs.size = some (so #[] 0 (.fresh 0 0 (!byText w))) := Heap.get?_push_size _ rfl
      have hT : Shared.TypeIs { s with heap := s.heap.push (so #[] 0 (.fresh 0 0 (!byText w))) } (.ref s.heap.objs.size) "set" := ⟨_, hS, rfl⟩
      have hli := PySem.F.called_set.init.lookup
      have hbi := PySem.F.called_set.init.bind (.ref s.heap.objs.size)
      repeat (any_goals (first | assumption | wp_step))
      refine codeAny_mono (codeAny_call_builtin (R := wants (fun r s₂ => r = .none ∧ ∃ h' tk o ks, s₂ = { s with heap := h', toks := tk } ∧ (∀ b ob, s.heap.get? b = some ob → h'.get? b = some ob) ∧ h'.get? s.heap.objs.size = some o ∧ SP o ks ∧ ∀ x, x ∈ ks ↔ x ∈ xs) E)
        PySem.F.called_set.init.plain PySem.F.entry_set_init (check_set_init_1 hT ?_)) fun r₂ s₂ hr₂ => ?_
      · have hol' : (s.heap.push (so #[] 0 (.fresh 0 0 (!byText w)))).get? l = some (lo vs n) := Heap.get?_push_of_some _ hl
        have hsls := PySem.F.sub_list_set
        have hslf := PySem.F.sub_list_frozenset
        have hne : (Value.type "list" == Value.type "dict") = false := by decide
        have hl1 : (s.heap.push (so #[] 0 (.fresh 0 0 (!byText w)))).IsList l vs.toArray := ⟨_, hol', rfl, n, rfl⟩
        unfold Builtin.«set.__init__» noKeywords Builtin.Frozenset.updateFrom
        generalize hPI : pyIter = PI
        wp_walk
        subst hPI
        refine wpAny_pyIter_list hl1 ?_
        refine wpAny_bind (wpAny_runValue ?_)
        have hlS : l < s.heap.objs.size := Heap.lt_size hl
        have hI1 : (s.heap.push (so #[] 0 (.fresh 0 0 (!byText w)))).objs.size = s.heap.objs.size + 1 := Heap.size_push ..
        have hneI : l ≠ (s.heap.push (so #[] 0 (.fresh 0 0 (!byText w)))).objs.size := by rw [hI1]; exact Nat.ne_of_lt (Nat.lt_succ_of_lt hlS)
        have hh3 : A.in1.in1.in1.handled = none := by simp [hh]
        have hlen := p.length
        refine fill_loop (xs := xs) hadd (Walks.list hh3 _ l hneI vs.toArray) (S := s.heap.objs.size) (by
            rw [hI1]; simp only [List.mem_cons, List.mem_singleton, List.not_mem_nil, or_false, not_or]
            exact ⟨Nat.ne_of_lt (Nat.lt_succ_self _), Nat.ne_of_gt hlS⟩) (by simp) (fun i v hv => ?_) (by simp; exact hlen) (vs.toArray.size - 0) 0 _ (so #[] 0 (.fresh 0 0 (!byText w))) [] rfl (Nat.zero_le _)
          ⟨⟨_, Heap.get?_push_size _ rfl, rfl, rfl⟩, hl1.push _⟩ (Heap.get?_push_of_some _ hS) h0 (by simp) fun h' tk o' ks' hk ho' hO' hm => ?_
        · obtain ⟨x, hx, hR⟩ := pr_atv p (i := i) (v := v) (by simpa using hv)
          exact ⟨x, hx, hR⟩
        · show wpAny _ _ _ _ _ _
          refine wpAny_pure ?_
          show wpAny _ _ (ret Value.none) _ _ _
          refine wpAny_pure ⟨rfl, h', tk, o', ks', rfl, fun b ob e => ?_, ho', hO', hm⟩
          have hlt := Heap.lt_size e
          exact hk b ob (Nat.ne_of_lt hlt) (by rw [hI1]; exact Nat.ne_of_lt (Nat.lt_succ_of_lt hlt)) (Heap.get?_push_of_some _ (Heap.get?_push_of_some _ e))
      · cases r₂ with
        | error e => exact hr₂
        | ok fl₂ =>
          cases fl₂ with
          | ret r =>
            obtain ⟨rfl, h', tk, o', ks', rfl, hk, ho', hO', hm⟩ := hr₂
            repeat (any_goals (first | assumption | wp_step))
            exact h h' _ o' ks' hk ho' hO' hm
          | _ => exact hr₂.elim
    | _ => exact hr.elim
theorem adds_small {S : Addr} {xs : List Int} (h4 : xs.length ≤ 4) (hsm : ∀ x ∈ xs, 0 ≤ x ∧ x < 32) : Adds prog w (SetO w) S xs := fun A E s o ks k tk i Q ho hO hx hm h => by
  have hsmx := hsm k (List.mem_of_getElem? hx)
  have hlt : i < xs.length := by
    rcases Nat.lt_or_ge i xs.length with q | q
    · exact q
    · rw [List.getElem?_eq_none q] at hx; cases hx
  have hklen : ks.length ≤ i := by
    obtain ⟨_, _, _, _, _, nd, _, _⟩ := hO
    have h1 := nodup_sub_len nd (fun y hy => (hm y).mp hy)
    rw [List.length_take] at h1; omega
  refine set_add ho hO hsmx.1 hsmx.2 (fun _ => by omega) (fun h2 o2 ks2 b hsb ho2 hO2 hp2 => h h2 o2 ks2 b hsb ho2 hO2 fun y => ?_) (by omega)
  rw [hp2.mem_iff]
  by_cases q : k ∈ ks
  · rw [if_pos q]
    exact ⟨.inr, fun r => r.elim (fun e => e ▸ q) id⟩
  · rw [if_neg q]; simp [or_comm]
theorem set_of_list {l : Addr} {vs : List Value} {n : Nat} {xs : List Int} {Q : Value → Shared → Prop} (hh : A.handled = none) (hl : s.heap.get? l = some (lo vs n)) (p : Paired isI vs xs) (h4 : xs.length ≤ 4) (hsm : ∀ x ∈ xs, 0 ≤ x ∧ x < 32)
    (h : ∀ h' tk o ks, (∀ b ob, s.heap.get? b = some ob → h'.get? b = some ob) → h'.get? s.heap.objs.size = some o → SetO w o ks → (∀ x, x ∈ ks ↔ x ∈ xs) → Q (.ref s.heap.objs.size) { s with heap := h', toks := tk }) :
    wpAny (model prog w) A (call (.type "set") [.ref l]) Q E s :=
  set_of_listG hh hl p ⟨#[], 0, _, rfl, .nil, .nil, Tb.fresh (fun e => by rw [e]; rfl), by simp⟩ (adds_small h4 hsm) h
end
end Mine
namespace Mine
open PySem PySem.W PySem.Calls PyProof.Rows

theorem slot_sit_next : Slot "set_iterator" "__next__" "set_iterator.__next__" :=
  .of (owner := "set_iterator") (n := "__next__") (by rw [typeLookup_type, builtinLookup_eq_fast]; kernel_rfl) (by decide +kernel) (by decide +kernel) (by decide +kernel)
    (by first | exact .inl (by decide +kernel) | exact .inr (by decide +kernel)) (by rw [isSubtype_type]; kernel_rfl)
theorem entry_sit_next : entryFor table "set_iterator.__next__" = some Builtin.«set_iterator.__next__» := entryFor_of_tree (by kernel_rfl)
theorem owner_sit : Manifest.owners.lookup (String.ofList ['r', 'o', 't', 'a', 'r', 'e', 't', 'i', '_', 't', 'e', 's'].reverse) = some Manifest.sig_set_iterator := by kernel_rfl
theorem args_sit_next (a : Value) : argsOk "set_iterator.__next__" ⟨[a], []⟩ := by
  unfold argsOk; rw [signature?_of (id := "set_iterator.__next__") (n := ['_', '_', 't', 'x', 'e', 'n', '_', '_']) (o := ['r', 'o', 't', 'a', 'r', 'e', 't', 'i', '_', 't', 'e', 's']) (by kernel_rfl) owner_sit]; kernel_rfl
theorem entry_set_iter : entryFor table "set.__iter__" = some Builtin.«frozenset.__iter__» :=
  entryFor_alias (id' := "frozenset.__iter__") (by kernel_rfl) rfl (by decide +kernel) (by kernel_rfl)

theorem pick_go {α : Type} (next : Nat → Nat) : ∀ (fuel k : Nat) (left : List α) (out : Array α), left.length ≤ fuel → (pickOrder.go next fuel k left out).toList.Perm (out.toList ++ left) := by
  intro fuel
  induction fuel with
  | zero =>
    intro k left out h
    have : left = [] := List.eq_nil_of_length_eq_zero (by omega)
    subst this
    simp [pickOrder.go]
  | succ fuel ih =>
    intro k left out h
    unfold pickOrder.go
    cases hl : left with
    | nil => simp
    | cons a r =>
      have hlt : next k % (a :: r).length < (a :: r).length := Nat.mod_lt _ (by simp)
      rw [List.getElem?_eq_getElem hlt]
      dsimp only
      refine (ih (k + 1) _ _ (by rw [List.length_eraseIdx_of_lt hlt]; rw [hl] at h; simp at h ⊢; omega)).trans ?_
      rw [Array.toList_push, List.append_assoc]
      refine List.Perm.append_left _ ?_
      have h1 : (a :: r).Perm ((a :: r)[next k % (a :: r).length] :: (a :: r).eraseIdx (next k % (a :: r).length)) := by
        rw [List.eraseIdx_eq_take_drop_succ]
        have h2 : (a :: r).take (next k % (a :: r).length) ++ (a :: r)[next k % (a :: r).length] :: (a :: r).drop (next k % (a :: r).length + 1) = a :: r := by
          rw [← List.drop_eq_getElem_cons hlt, List.take_append_drop]
        have h3 := List.perm_middle (a := (a :: r)[next k % (a :: r).length]) (l₁ := (a :: r).take (next k % (a :: r).length)) (l₂ := (a :: r).drop (next k % (a :: r).length + 1))
        rw [h2] at h3; exact h3
      exact h1.symm
theorem pick_perm {α : Type} (next : Nat → Nat) (xs : Array α) : (pickOrder next xs).toList.Perm xs.toList := by
  have := pick_go next xs.size 0 xs.toList #[] (by simp)
  simpa [pickOrder] using this

theorem below_zero {xs : Array Nat} (h : Rise xs) : SetTable.below xs 0 = 0 := by
  obtain ⟨h1, h2, h3⟩ := below_spec h 0
  rcases Nat.eq_zero_or_pos (SetTable.below xs 0) with q | q
  · exact q
  · exact absurd (h2 0 (by omega) q) (Nat.not_lt_zero _)
theorem below_next {xs : Array Nat} (h : Rise xs) {i : Nat} (hi : i < xs.size) : SetTable.below xs (xs[i] + 1) = i + 1 := by
  obtain ⟨h1, h2, h3⟩ := below_spec h (xs[i] + 1)
  rcases Nat.lt_trichotomy (SetTable.below xs (xs[i] + 1)) (i + 1) with q | q | q
  · have := h3 i hi (by omega); omega
  · exact q
  · have h4 := h2 (i + 1) (by omega) q
    have h5 := h.lt (i := i) (j := i + 1) (by omega) (by omega)
    omega

section
variable {prog : Program} {w : World} {A : Around} {E : Value → Shared → Prop} {s : Shared}

theorem set_hint {r : Addr} {Q : Bool → Shared → Prop} (hT : s.TypeIs (.ref r) "set") (h : Q false s) : wpAny (model prog w) A (Builtin.List.listLengthHint (.ref r)) Q E s := by
  unfold Builtin.List.listLengthHint
  refine wpAny_bind (wpAny_specialOf hT PySem.F.slot_set_len.lookup ?_)
  generalize hid : ("set.__len__" : String) = id0
  wp_delta
  rw [show splitId id0 = some ("set", "__len__") from by subst hid; decide +kernel]
  subst hid
  refine wpAny_bind (wpAny_isInstance (T := "set") (b := true) hT (by rw [isSubtype_type]; kernel_rfl) ?_)
  refine wpAny_ite_split (fun hab => absurd hab (by decide)) (fun _ => ?_)
  refine wpAny_ite_split (fun _ => ?_) (fun hab => absurd (by decide +kernel) hab)
  refine wpAny_bind (wpAny_typeOf hT ?_)
  exact wpAny_pure h

abbrev sit (f : Nat) (i : Nat) (r : Addr) (n ep : Nat) : Obj := { cls := .type "set_iterator", data := .fields #[rawInt f, rawInt i, .ref r, rawInt n, rawInt ep] }

theorem fits_of {bt : Bool} {t : SetTable} {n : Nat} (g : Tb bt t n) (hn : n ≤ 4) : t.fits n = true := by
  unfold SetTable.fits SetTable.fill
  rw [g.sz, g.dm, g.msk]; simp; omega

/-- what going over a set asks of its table -/
structure Tg (bt : Bool) (t : SetTable) (n : Nat) : Prop where
  led : bt = false → t.led = true
  up : Rise t.place
  sz : t.place.size = n
  pl : t.plain = true
  fit : t.fits n = true
theorem iter_set {r : Addr} {es : Array (Int × Value)} {ep : Nat} {t : SetTable} {Q : Value → Shared → Prop} (ho : s.heap.get? r = some (so es ep t)) (g : Tg (byText w) t es.size)
    (h : Q (.ref s.heap.objs.size) { s with heap := s.heap.push (sit 0 0 r es.size ep) }) : wpAny (model prog w) A (pyIter (.ref r)) Q E s := by
  have hT : s.TypeIs (.ref r) "set" := ⟨_, ho, rfl⟩
  have hf := g.fit
  refine wpAny_pyIter_slot hT PySem.F.slot_set_iter (wpAny_call_entry PySem.F.slot_set_iter hT entry_set_iter ?_ (PySem.F.args_set_iter_1 _))
  unfold Builtin.«frozenset.__iter__» Builtin.Frozenset.slot0 slotArgs
  simp only [List.isEmpty_nil, Bool.not_true, Bool.false_eq_true, ↓reduceIte, bind_assoc, List.length_nil, bne_self_eq_false]
  unfold Builtin.Frozenset.addrOf Builtin.Frozenset.sizeOf
  refine wpAny_bind (wpAny_pure ?_)
  try dsimp only
  refine wpAny_bind (wpAny_pure ?_)
  refine wpAny_bind (wpAny_bind (wpAny_setEntries_of ho rfl hf (wpAny_pure ?_)))
  unfold setDrawn setsByText
  refine wpAny_bind (wpAny_bind (wpAny_setState_of ho rfl hf ?_))
  dsimp only
  refine wpAny_bind (wpAny_bind (wpAny_askSetting (wpAny_pure ?_)))
  refine wpAny_pure ?_
  show wpAny _ _ (if (!byText w && (!t.plain && decide (es.size > 1))) = true then _ else _) _ _ _
  rw [g.pl]
  rw [if_neg (by simp)]
  refine wpAny_bind (wpAny_pure ?_)
  refine wpAny_bind (wpAny_setEpoch_of ho rfl hf ?_)
  refine wpAny_bind (wpAny_newObj_type (wpAny_pure ⟨_, rfl, "set_iterator", _, ⟨_, Heap.get?_push_size _ rfl, rfl⟩, slot_sit_next.lookup, h⟩))

/-- the order in which the elements are told -/
noncomputable def told (w : World) (r : Addr) (es : Array (Int × Value)) (ep : Nat) : Array (Int × Value) := if byText w then pickOrder (w.params.setOrder r ep) es else es

theorem setNext_item {r : Addr} {es : Array (Int × Value)} {ep f i : Nat} {t : SetTable} {e : Int × Value} {Q : Option (Value × Nat) → Shared → Prop} (ho : s.heap.get? r = some (so es ep t)) (g : Tg (byText w) t es.size)
    (hf' : byText w = false → SetTable.below t.place f = i) (he : (told w r es ep)[i]? = some e)
    (h : ∀ f', (byText w = false → SetTable.below t.place f' = i + 1) → Q (some (e.2, f')) s) : wpAny (model prog w) A (setNext r f i ep) Q E s := by
  have hf := g.fit
  unfold setNext setsByText
  refine wpAny_bind (wpAny_setState_of ho rfl hf ?_)
  dsimp only
  refine wpAny_bind (wpAny_bind (wpAny_askSetting (wpAny_pure ?_)))
  show wpAny _ _ (if byText w = true then _ else _) _ _ _
  cases hb : byText w with
  | true =>
    rw [if_pos rfl]
    rw [if_neg (by simp)]
    unfold setWalk setsByText
    refine wpAny_bind (wpAny_bind (wpAny_setState_of ho rfl hf ?_))
    dsimp only
    refine wpAny_bind (wpAny_bind (wpAny_askSetting (wpAny_pure ?_)))
    show wpAny _ _ (if byText w = true then _ else _) _ _ _
    rw [hb, if_pos rfl]
    refine wpAny_bind (wpAny_askSetting (wpAny_pure ?_))
    refine wpAny_pure ?_
    unfold told at he
    rw [hb, if_pos rfl] at he
    have he' : (pickOrder (w.params.setOrder r ep) es)[i]? = some e := he
    show Q (((pickOrder (w.params.setOrder r ep) es)[i]?).map fun e => (e.2, f)) s
    rw [he']
    exact h f (fun q => by rw [hb] at q; cases q)
  | false =>
    rw [if_neg (by simp)]
    refine wpAny_bind (wpAny_pure ?_)
    show wpAny _ _ (if (!t.plain && decide (es.size > 1)) = true then _ else _) _ _ _
    rw [g.pl, if_neg (by simp)]
    refine wpAny_bind ?_
    show wpAny _ _ (if (!t.led && !es.isEmpty) = true then _ else _) _ _ _
    rw [g.led hb, if_neg (by simp)]
    refine wpAny_pure ?_
    refine wpAny_pure ?_
    unfold told at he
    rw [hb, if_neg (by simp)] at he
    have hi : i < es.size := (Array.getElem?_eq_some_iff.mp he).1
    have hip : i < t.place.size := by rw [g.sz]; exact hi
    rw [hf' hb, he, Array.getElem?_eq_getElem hip]
    exact h _ (fun _ => below_next g.up hip)
theorem setNext_end {r : Addr} {es : Array (Int × Value)} {ep f i : Nat} {t : SetTable} {Q : Option (Value × Nat) → Shared → Prop} (ho : s.heap.get? r = some (so es ep t)) (g : Tg (byText w) t es.size)
    (hf' : byText w = false → SetTable.below t.place f = i) (he : (told w r es ep)[i]? = none)
    (h : Q none s) : wpAny (model prog w) A (setNext r f i ep) Q E s := by
  have hf := g.fit
  unfold setNext setsByText
  refine wpAny_bind (wpAny_setState_of ho rfl hf ?_)
  dsimp only
  refine wpAny_bind (wpAny_bind (wpAny_askSetting (wpAny_pure ?_)))
  show wpAny _ _ (if byText w = true then _ else _) _ _ _
  cases hb : byText w with
  | true =>
    rw [if_pos rfl]
    rw [if_neg (by simp)]
    unfold setWalk setsByText
    refine wpAny_bind (wpAny_bind (wpAny_setState_of ho rfl hf ?_))
    dsimp only
    refine wpAny_bind (wpAny_bind (wpAny_askSetting (wpAny_pure ?_)))
    show wpAny _ _ (if byText w = true then _ else _) _ _ _
    rw [hb, if_pos rfl]
    refine wpAny_bind (wpAny_askSetting (wpAny_pure ?_))
    refine wpAny_pure ?_
    unfold told at he
    rw [hb, if_pos rfl] at he
    have he' : (pickOrder (w.params.setOrder r ep) es)[i]? = none := he
    show Q (((pickOrder (w.params.setOrder r ep) es)[i]?).map fun e => (e.2, f)) s
    rw [he']
    exact h
  | false =>
    rw [if_neg (by simp)]
    refine wpAny_bind (wpAny_pure ?_)
    show wpAny _ _ (if (!t.plain && decide (es.size > 1)) = true then _ else _) _ _ _
    rw [g.pl, if_neg (by simp)]
    refine wpAny_bind ?_
    show wpAny _ _ (if (!t.led && !es.isEmpty) = true then _ else _) _ _ _
    rw [g.led hb, if_neg (by simp)]
    refine wpAny_pure ?_
    refine wpAny_pure ?_
    unfold told at he
    rw [hb, if_neg (by simp)] at he
    rw [hf' hb, he]
    exact h
end
end Mine
namespace Mine
open PySem PySem.W PySem.Calls PyProof.Rows


section
variable {prog : Program} {w : World} {A : Around} {E : Value → Shared → Prop} {s : Shared}

theorem slot_sit_iter : Slot "set_iterator" "__iter__" "set_iterator.__iter__" :=
  .of (owner := "set_iterator") (n := "__iter__") (by rw [typeLookup_type, builtinLookup_eq_fast]; kernel_rfl) (by decide +kernel) (by decide +kernel) (by decide +kernel)
    (by first | exact .inl (by decide +kernel) | exact .inr (by decide +kernel)) (by rw [isSubtype_type]; kernel_rfl)
theorem args_sit_iter (a : Value) : argsOk "set_iterator.__iter__" ⟨[a], []⟩ := by
  unfold argsOk; rw [signature?_of (id := "set_iterator.__iter__") (n := ['_', '_', 'r', 'e', 't', 'i', '_', '_']) (o := ['r', 'o', 't', 'a', 'r', 'e', 't', 'i', '_', 't', 'e', 's']) (by kernel_rfl) owner_sit]; kernel_rfl
theorem entry_sit_iter : entryFor table "set_iterator.__iter__" = some Builtin.«dict_keyiterator.__iter__» :=
  entryFor_alias (id' := "dict_keyiterator.__iter__") (by kernel_rfl) rfl (by decide +kernel) (by kernel_rfl)
theorem sit_self {I : Addr} {Q : Value → Shared → Prop} (hT : s.TypeIs (.ref I) "set_iterator") (h : Q (.ref I) s) : wpAny (model prog w) A (pyIter (.ref I)) Q E s := by
  refine wpAny_pyIter_slot hT slot_sit_iter (wpAny_call_entry slot_sit_iter hT entry_sit_iter ?_ (args_sit_iter _))
  show wpAny _ _ (ret (.ref I)) _ _ s
  exact wpAny_pure ⟨_, rfl, "set_iterator", _, hT, slot_sit_next.lookup, h⟩
def SitAt (w : World) (r : Addr) (es : Array (Int × Value)) (ep : Nat) (t : SetTable) (I : Addr) (i : Nat) (h : Heap) : Prop :=
  ∃ f, (byText w = false → SetTable.below t.place f = i) ∧ h.get? I = some (sit f i r es.size ep) ∧ h.get? r = some (so es ep t)

theorem sit_item {I r : Addr} {es : Array (Int × Value)} {ep i : Nat} {t : SetTable} {e : Int × Value} {Q : Option Value → Shared → Prop} (g : Tg (byText w) t es.size) (hne : r ≠ I)
    (st : SitAt w r es ep t I i s.heap) (he : (told w r es ep)[i]? = some e)
    (h : ∀ h', SitAt w r es ep t I (i + 1) h' → Heap.SameBut I s.heap h' → Q (some e.2) { s with heap := h' }) : wpAny (model prog w) A (pyNext (.ref I)) Q E s := by
  obtain ⟨f, hf, hI, hr⟩ := st
  have hT : s.TypeIs (.ref I) "set_iterator" := ⟨_, hI, rfl⟩
  unfold pyNext
  refine wpAny_bind (wpAny_attempt (wpAny_callSpecial?_slot (name := Str.ofString "__next__") hT slot_sit_next (wpAny_call_entry slot_sit_next hT entry_sit_next ?_ (args_sit_next _))))
  unfold Builtin.«set_iterator.__next__» slotArgs
  simp only [List.isEmpty_nil, Bool.not_true, Bool.false_eq_true, ↓reduceIte, List.length_nil, bne_self_eq_false, pure_bind]
  refine wpAny_bind (wpAny_fieldsOf hI rfl ?_)
  simp only [rawInt]
  refine wpAny_bind (wpAny_setEntries_of hr rfl g.fit ?_)
  rw [if_neg (by simp)]
  simp only [Int.toNat_natCast]
  refine wpAny_bind (setNext_item hr g hf he fun f' hf' => ?_)
  dsimp only
  refine wpAny_bind (wpAny_setField hI rfl (by simp) ?_)
  have hI1 := Heap.get?_update_self (Obj.mapFields (·.setIfInBounds 0 (rawInt f'))) hI rfl
  refine wpAny_bind (wpAny_setField hI1 rfl (by simp) ?_)
  have hI2 := Heap.get?_update_self (Obj.mapFields (·.setIfInBounds 1 (rawInt ((i : Int) + 1)))) hI1 rfl
  have hsb := (Heap.SameBut.update s.heap I (Obj.mapFields (·.setIfInBounds 0 (rawInt f')))).trans (Heap.SameBut.update _ I (Obj.mapFields (·.setIfInBounds 1 (rawInt ((i : Int) + 1)))))
  refine wpAny_pure ⟨_, rfl, wpAny_pure (h _ ⟨f', hf', ?_, (hsb.2 _ hne).trans hr⟩ hsb)⟩
  exact hI2

theorem sit_end {I r : Addr} {es : Array (Int × Value)} {ep i : Nat} {t : SetTable} {Q : Option Value → Shared → Prop} (hh : A.handled = none) (g : Tg (byText w) t es.size)
    (st : SitAt w r es ep t I i s.heap) (he : (told w r es ep)[i]? = none)
    (h : ∀ h', Heap.ExtBut I s.heap h' → Q none { s with heap := h' }) : wpAny (model prog w) A (pyNext (.ref I)) Q E s := by
  obtain ⟨f, hf, hI, hr⟩ := st
  have hT : s.TypeIs (.ref I) "set_iterator" := ⟨_, hI, rfl⟩
  unfold pyNext
  refine wpAny_bind (wpAny_attempt (wpAny_callSpecial?_slot (name := Str.ofString "__next__") hT slot_sit_next (wpAny_call_entry slot_sit_next hT entry_sit_next ?_ (args_sit_next _))))
  unfold Builtin.«set_iterator.__next__» slotArgs
  simp only [List.isEmpty_nil, Bool.not_true, Bool.false_eq_true, ↓reduceIte, List.length_nil, bne_self_eq_false, pure_bind]
  refine wpAny_bind (wpAny_fieldsOf hI rfl ?_)
  simp only [rawInt]
  refine wpAny_bind (wpAny_setEntries_of hr rfl g.fit ?_)
  rw [if_neg (by simp)]
  simp only [Int.toNat_natCast]
  refine wpAny_bind (setNext_end hr g hf he ?_)
  dsimp only
  refine wpAny_bind (wpAny_setField hI rfl (by simp) ?_)
  show wpAny _ _ (newExc (.type "StopIteration") [] >>= _) _ _ _
  refine wpAny_bind ?_
  simp only [newExc, newTuple]
  refine wpAny_bind (wpAny_newObj_type ?_ (by size_fits))
  refine wpAny_bind (m := firstArgMember _ _) (wpAny_of_eq (a := Value.none) (by first | rfl | (simp only [firstArgMember]; rfl)) ?_)
  refine wpAny_newObj_type ?_ (by size_fits)
  simp only [raiseNew]
  refine wpAny_bind (wpAny_handled ?_)
  first | rw [show A.in1.handled = none from hh] | rw [hh]
  refine wpAny_bind (wpAny_pure (wpAny_throw ?_))
  refine wpAny_bind (wpAny_isInstance (T := "StopIteration") (b := true) ⟨_, Heap.get?_push_size _ rfl, rfl⟩ isSubtype_stop ?_)
  exact wpAny_pure (h _ (((Heap.SameBut.update ..).extBut.push _).push _))

theorem told_size (r : Addr) (es : Array (Int × Value)) (ep : Nat) : (told w r es ep).toList.Perm es.toList := by
  unfold told
  split
  · exact pick_perm _ _
  · exact List.Perm.refl _

theorem walks_set (hh : A.handled = none) (I r : Addr) (hne : r ≠ I) {es : Array (Int × Value)} {ep : Nat} {t : SetTable} (g : Tg (byText w) t es.size) :
    Walks prog w A I [I, r] [I] es.size (fun i v => ∃ e, (told w r es ep)[i]? = some e ∧ v = e.2) (SitAt w r es ep t I) where
  sub := fun b hb => by simp at hb; simp [hb]
  frame := fun _ _ _ ⟨f, h1, h2, h3⟩ hk => ⟨f, h1, hk I (by simp) _ h2, hk r (by simp) _ h3⟩
  item := fun i s Q E hi st hQ => by
    have hz : (told w r es ep).size = es.size := by
      have := (told_size (w := w) r es ep).length_eq; simpa using this
    obtain ⟨e, he⟩ : ∃ e, (told w r es ep)[i]? = some e := ⟨(told w r es ep)[i]'(by omega), Array.getElem?_eq_getElem _⟩
    exact sit_item g hne st he fun h' st' hs' => hQ e.2 h' s.toks ⟨e, he, rfl⟩ st' fun b o hb e => hs'.extBut b o (fun h => hb (by simp [h])) e
  done := fun s Q E st hQ => by
    have hz : (told w r es ep).size = es.size := by
      have := (told_size (w := w) r es ep).length_eq; simpa using this
    exact sit_end hh g st (by simp [hz]) fun h' he' => hQ h' s.toks fun b o hb e => he' b o (fun h => hb (by simp [h])) e
  self := fun i s Q E ⟨f, _, hI, _⟩ hQ => by
    exact sit_self ⟨_, hI, rfl⟩ hQ

theorem src_set {r : Addr} {es : Array (Int × Value)} {ep : Nat} {t : SetTable} (g : Tg (byText w) t es.size) :
    KdlSrc prog w "set" r r es.size (fun i v => ∃ e, (told w r es ep)[i]? = some e ∧ v = e.2) (fun h => h.get? r = some (so es ep t)) where
  type := fun _ hm => ⟨_, hm, rfl⟩
  there := fun _ hm => ⟨Heap.lt_size hm, Heap.lt_size hm⟩
  keep := fun _ _ hm hk => hk r (.inl rfl) _ hm
  notList := by decide
  notTuple := by decide
  hint := fun _ _ _ _ hm hq => set_hint ⟨_, hm, rfl⟩ hq
  iter := fun A s hh hm => ⟨_, _, (fun _ _ hq => iter_set hm g hq), walks_set hh _ r (Nat.ne_of_lt (Heap.lt_size hm)) g, ⟨0, fun _ => below_zero g.up, Heap.get?_push_size _ rfl, Heap.get?_push_of_some _ hm⟩⟩
end

section
variable {w : World} {A : Around} {E : Value → Shared → Prop} {B : Pin} {L : Addr} {G : Kn} {m : Str → Option Value} {mu : Mu} {s : Shared} {prog : Program}

theorem r_set {l : Addr} {o : Obj} {xs : List Int} {Q : Value → Shared → Prop} (C : Cx B L G m mu s) (hh : A.handled = none) (hl : s.heap.get? l = some o) (ho : OI o xs) (h4 : xs.length ≤ 4) (hsm : ∀ x ∈ xs, 0 ≤ x ∧ x < 32)
    (h : ∀ a o s' ks, SetO w o ks → (∀ x, x ∈ ks ↔ x ∈ xs) → Cx B L G m ((a, o) :: mu) s' → Q (.ref a) s') : wpAny (model prog w) A (call (.type "set") [.ref l]) Q E s := by
  obtain ⟨vs, n, e, p⟩ := ho
  subst e
  refine set_of_list hh hl p h4 hsm fun h' tk o ks hk ho hO hm => h _ o _ ks hO hm (C.made ?_ hk ho)
  cases q : s.heap.get? s.heap.objs.size with
  | none => rfl
  | some o' => exact absurd (Heap.lt_size q) (Nat.lt_irrefl _)

/-- a list just made is put in order -/
theorem sort_new {D : Addr} {vs : List Value} {xs : List Int} {mu0 : Mu} {Q : Value → Shared → Prop} (C : Cx B L G m ((D, lo vs 0) :: mu0) s) (p : Paired isI vs xs) (h64 : xs.length < 64)
    (h : ∀ o s' ys, OI o ys → ys.Perm xs → ys.Pairwise (· ≤ ·) → Cx B L G m ((D, o) :: mu0) s' → Q .none s') : wpAny (model prog w) A (call (.builtin "list.sort") [.ref D]) Q E s := by
  have ho := C.getM (i := 0) rfl
  have hlen := p.length
  refine wpAny_call_entry PyProof.Rows.slot_list_sort ⟨_, ho, rfl⟩ PyProof.Rows.entry_list_sort (list_sort_tree (n := 0) (vs := vs) ho (pr_ints p) (by omega) fun out ns' hI hp hP => ⟨.none, rfl, ?_⟩) (PyProof.Rows.args_list_sort _)
  have h1 := Heap.get?_update_self (Obj.mapSeq fun _ => (#[] : Array Value)) ho rfl
  obtain ⟨n1, e1⟩ := map_lo (f := fun _ => (#[] : Array Value)) (vs := vs) (us := []) (n := 0) rfl
  rw [e1] at h1
  have h2 := Heap.get?_push_of_some (seqObj "tuple" vs.toArray 0) h1
  have h3 := Heap.get?_push_of_some (seqObj "list" #[] 0) h2
  have h4 := Heap.get?_update_self (Obj.mapSeq fun _ => out) h3 rfl
  obtain ⟨n2, e2⟩ := map_lo (f := fun _ => out) (vs := []) (us := out.toList) (n := n1) (by simp)
  rw [e2] at h4
  refine h _ _ ns' ⟨out.toList, n2, rfl, pr_ofInts hI⟩ hp hP (C.turnedE (n := s.toks) (fun b ob hb e => ?_) h4)
  exact (Heap.get?_update_other _ _ (Ne.symm hb)).trans (Heap.get?_push_of_some _ (Heap.get?_push_of_some _ ((Heap.get?_update_other _ _ (Ne.symm hb)).trans e)))

/-- sorted(..) of what can be gone over -/
theorem sorted_src {T : String} {r d : Addr} {n : Nat} {P : Nat → Value → Prop} {OK : Heap → Prop} {Q : Value → Shared → Prop} (C : Cx B L G m mu s) (K : KdlSrc prog w T r d n P OK) (hh : A.handled = none) (hok : OK s.heap) (hn : n < 64)
    (hP : ∀ vs : List Value, vs.length = n → (∀ j v, vs[j]? = some v → P j v) → ∃ xs, Paired isI vs xs ∧
      ∀ a o s' ys, OI o ys → ys.Perm xs → ys.Pairwise (· ≤ ·) → Cx B L G m ((a, o) :: mu) s' → Q (.ref a) s') : wpAny (model prog w) A (call (.builtin "sorted") [.ref r]) Q E s := by
  refine kdu_sorted K hh C.fr C.news hok (by rw [sizeLine_eq]; omega) fun D h' tk vs F N hD hlen hPs => ?_
  obtain ⟨xs, p, h⟩ := hP vs hlen hPs
  have C1 := C.of1 (n := tk) F N (fun _ q => q) hD
  exact sort_new C1 p (by rw [← p.length]; omega) fun o s' ys ho hp hs C2 => h D o s' ys ho hp hs C2

theorem r_sortedSet {r : Addr} {o : Obj} {ks : List Int} {Q : Value → Shared → Prop} (C : Cx B L G m mu s) (hh : A.handled = none) (hr : s.heap.get? r = some o) (hO : SetO w o ks) (h4 : ks.length ≤ 4)
    (h : ∀ a o s' ys, OI o ys → ys.Perm ks → ys.Pairwise (· ≤ ·) → Cx B L G m ((a, o) :: mu) s' → Q (.ref a) s') : wpAny (model prog w) A (call (.builtin "sorted") [.ref r]) Q E s := by
  obtain ⟨es, ep, t, rfl, p, nd, g, sm⟩ := hO
  have hlen : es.size = ks.length := by rw [← p.length]; simp
  refine sorted_src C (src_set ⟨g.led, g.up, g.sz, g.pl, fits_of g (by omega)⟩) hh hr (by omega) fun vs hvl hP => ?_
  have hpm := told_size (w := w) r es ep
  obtain ⟨ys, hys, p2⟩ := pr_perm hpm p
  refine ⟨ys, ?_, fun a o s' zs ho hz hs C2 => h a o s' zs ho (hz.trans hys) hs C2⟩
  have e : vs = (told w r es ep).toList.map (·.2) := by
    apply List.ext_getElem?
    intro i
    rw [List.getElem?_map]
    rcases Nat.lt_or_ge i vs.length with q | q
    · obtain ⟨e, he, hv⟩ := hP i vs[i] (List.getElem?_eq_getElem q)
      rw [List.getElem?_eq_getElem q, hv]
      have : (told w r es ep).toList[i]? = some e := by simpa using he
      rw [this]; rfl
    · have h1 := hpm.length_eq
      have h2 : (told w r es ep).toList.length ≤ i := by rw [h1]; simp; omega
      rw [List.getElem?_eq_none q, List.getElem?_eq_none h2]; rfl
  rw [e]
  clear e hP hpm hys
  generalize (told w r es ep).toList = l at p2
  induction p2 with
  | nil => exact .nil
  | cons a _ ih => obtain ⟨_, t, ht⟩ := a; exact .cons ⟨t, ht⟩ (ih)
end
end Mine
namespace Mine
open PySem PySem.W PyProof.Rows
section
local macro_rules | `(tactic| o_head $_) => `(tactic| exact False.elim (by assumption))
/-- A statement of no weight (its premise is false): the step k_head writes out, on the way, the part of the heap that the law reaches. The head itself is walked in law_top. -/
theorem lay (_ : False) : PySem.Challenge.rw_pb0170_01.Holds := by
  w_on
  refine holds_law (False.elim (by assumption)) fun said => ?_
  k_head
end
end Mine
namespace Mine
open PySem PySem.W PySem.Calls PyProof.Rows

noncomputable abbrev K0 (w : World) : Frag := lay.heap_1 w.params
noncomputable abbrev pg : Program := PySem.Challenge.rw_pb0170_01.row.prog
/-- what stands at the top -/
structure Wd (w : World) (H : Heap) : Prop where
  X : (K0 w).In H
  T : ∃ p loose mg mb, TopRead p loose mg mb H

/-- room -/
structure AOk (A : Around) (k : Nat) : Prop where
  hh : A.handled = none
  dp : A.depth + k < recursionLimit
  un : A.units + 3 * k + 64 < cLine
theorem AOk.deeper {A : Around} {k : Nat} {env : Env} (x : AOk A (k + 1)) : AOk (A.deeper env) k :=
  ⟨x.hh, by have := x.dp; rw [depth_deeper]; omega, by have := x.un; rw [units_deeper]; omega⟩
theorem AOk.le {A : Around} {k j : Nat} (x : AOk A k) (h : j ≤ k := by omega) : AOk A j := ⟨x.hh, by have := x.dp; omega, by have := x.un; omega⟩
theorem AOk.units {A : Around} {k : Nat} (x : AOk A k) : A.units + 64 < cLine := by have := x.un; omega

theorem upd_eq {m : Str → Option Value} {x : Str} {v : Value} : upd m x v x = some v := by simp [upd]
theorem upd_ne {m : Str → Option Value} {x y : Str} {v : Value} {r : Option Value} (h : y ≠ x) (e : m y = r) : upd m x v y = r := by simp [upd, h, e]

section
variable {w : World} {A : Around} {E : Value → Shared → Prop} {B : Pin} {L : Addr} {G : Kn} {m : Str → Option Value} {mu : Mu} {s : Shared} {env : Env}

theorem Cx.base (C : Cx B L G m mu s) : ∀ b o, B.heap.get? b = some o → s.heap.get? b = some o := fun b o e => C.know _ _ (C.bG _ _ e)
theorem inK (C : Cx B L G m mu s) (W : Wd w B.heap) : (K0 w).In s.heap := W.X.keeps C.base
theorem Wd.le {B' : Pin} (W : Wd w B.heap) (x : PinLe B B') : Wd w B'.heap := by
  have : B'.heap = B.heap := congrArg Shared.heap x.1
  rw [this]; exact W

theorem r_gK {x : Str} {pos : Pos} {v : Value} {Q : Value → Shared → Prop} (C : Cx B L G m mu s) (W : Wd w B.heap) (e : nsIn (K0 w) mainGlobals x = some (some v)) (h : Q v s)
    (hg : env.globals = mainGlobals) (hk : env.scope.kind = .function) (hx : env.kindOf x = some .globalImplicit) (hd : (x == ("__debug__" : Str)) = false := by decide) :
    wpAny (model pg w) A (eval (.Name x pos) env) Q E s := by
  obtain ⟨p, loose, mg, mb, T⟩ := W.T
  exact Name_function_global hk hx (loadGlobal_global (env := env) (by rw [hg]; exact T.g.keeps C.base) (mg_of W.X T.g e) h) hd
theorem r_gB {x : Str} {pos : Pos} {v : Value} {Q : Value → Shared → Prop} (C : Cx B L G m mu s) (W : Wd w B.heap) (e : nsIn (K0 w) mainGlobals x = some none) (hv : bootBuiltins x = some v) (h : Q v s)
    (hg : env.globals = mainGlobals) (hb : env.builtins = builtinsNs) (hk : env.scope.kind = .function) (hx : env.kindOf x = some .globalImplicit) (hn : x ≠ "__name__" := by decide) (hd : (x == ("__debug__" : Str)) = false := by decide) :
    wpAny (model pg w) A (eval (.Name x pos) env) Q E s := by
  obtain ⟨p, loose, mg, mb, T⟩ := W.T
  exact Name_function_global hk hx (loadGlobal_builtin (env := env) (by rw [hg]; exact T.g.keeps C.base) (mg_none_of W.X T.g e) (by rw [hb]; exact T.b.keeps C.base) ((T.builtins x hn).trans hv) h) hd

/-- what a frame grew is let go -/
theorem Cx.weakG {G' : Kn} (C : Cx B L G' m mu s) (h : Le G G') (hb : ∀ a o, B.heap.get? a = some o → G a = some o) : Cx B L G m mu s := by
  have no : ∀ {a}, G' a = none → G a = none := fun {a} e => by
    cases q : G a with
    | none => rfl
    | some o => rw [h _ _ q] at e; cases e
  exact ⟨C.ns, no C.offL, fun a o e => C.know _ _ (h _ _ e), fun p hp => ⟨(C.mvs p hp).1, no (C.mvs p hp).2.1, (C.mvs p hp).2.2⟩, C.nd, hb, C.gens, C.drawn, C.os, C.ab, C.pin, C.zL, fun a o e => no (C.zG a o e)⟩

/-- a frame is left: what stands goes back to the caller -/
def Leave (B : Pin) (L : Addr) (m : Str → Option Value) (B' : Pin) (L' : Addr) (Q : Value → Shared → Prop) (fl : Flow) (s'' : Shared) : Prop :=
  ∃ G' m' mu', Cx B' L' G' m' mu' s'' ∧ (Cx B L G' m mu' s'' → Q (match fl with | .ret v => v | _ => .none) s'')
/-- a def of the text is called -/
theorem code_fn {name qual : Str} {params : Arguments} {body : List Stmt} {scope : Scope} {dV kV doc pm cdv ct oc : Value} {an od : Option Addr} {osl : Array (Option Value)} {f : Addr} {args : List Value} {binds : List (Str × Value)} {m0 : Addr → Str → Option Value} {R : Result → Shared → Prop}
    (C : Cx B L G m mu s) (W : Wd w B.heap) (ho : (K0 w).lookup f = some ⟨oc, od, .func (fnOf name qual params body scope dV kV doc pm an cdv ct), osl⟩) (hcd : codeIn (K0 w) cdv qual = true) (hroom : A.depth < recursionLimit)
    (hbind : (K0 w).In s.heap → BindsTo s (fnOf name qual params body scope dV kV doc pm an cdv ct) ⟨args, []⟩ binds)
    (hkind : (binds.all fun y => scope.names.lookup y.1 == some .local || scope.names.lookup y.1 == some .cell) = true)
    (hnd : ((cellsFrom 0 scope.names []).map (·.1)).Nodup)
    (hm : ∀ L', bindL (envOfC qual scope L' f cdv).kindOf binds (fun _ => none) = m0 L')
    (h : ∀ B' L' cells s' E', PinLe B B' → CellsAre (bindC (envOfC qual scope L' f cdv).kindOf binds fun _ => none) (cellsFrom (L' + 1) scope.names []) cells → Cx B' L' G (m0 L') (cells ++ mu) s' →
      wpAny (model pg w) (A.deeper (envOfC qual scope L' f cdv)) (execs body (envOfC qual scope L' f cdv))
        (Leave B L m B' L' fun v s'' => R (.ok (.ret v)) s'') E' s')
    (hco : scope.isCoroutine = false) (hgen : scope.isGenerator = false) (hk : scope.kind = .function) :
    codeAny (model pg w) A (.call (.ref f) ⟨args, []⟩) R s := by
  obtain ⟨p, loose, mg, mb, T⟩ := W.T
  refine codeAny_call_function hroom ((inK C W) _ _ ho) rfl hco hgen rfl (codeRec_of (inK C W) hcd) (hbind (inK C W) _ _ _ _ ?_)
  refine wpAny_newFunctionEnv_cells hk (kindsX hkind _) fun env' he s' x => ?_
  subst he
  refine ⟨(T.nolimit.keeps C.base).keeps x.toInCall.keep, codeAny_func ?_⟩
  obtain ⟨h₁, tk, rfl, _⟩ := x.done
  have hk₁ := x.toInCall.keep
  obtain ⟨cells, NC, Y⟩ := Cl.news (h₀ := s.heap) (Nat.le_refl _) fun n c hm => ⟨x.cell n c (lookup_of_mem_nodup (cellsFrom_names scope.names 0 (s.heap.objs.size + 1) [] [] rfl ▸ hnd) hm), x.above n c hm⟩
  have hfresh : s.heap.get? s.heap.objs.size = none := by
    cases q : s.heap.get? s.heap.objs.size with
    | none => rfl
    | some o' => exact absurd (Heap.lt_size q) (Nat.lt_irrefl _)
  obtain ⟨oL, hoL, D⟩ := C.enter (n := tk) hk₁ x.toInCall.ns hfresh (Nat.le_of_lt (Nat.lt_of_le_of_lt C.ab C.ltL))
  -- the cells stand among what may be turned
  have D' : Cx (B.add L oL) s.heap.objs.size G (m0 s.heap.objs.size) (cells ++ mu) { s with heap := h₁, toks := tk } := by
    have apart : (cells.map (·.1)).Nodup := by
      have hp := x.apart
      have hY := Y
      clear NC D hm h
      have key : ∀ {cm : Str → Option Value} {cs : List (Str × Addr)} {cells : List (Addr × Obj)}, CellsAre cm cs cells → cells.map (·.1) = cs.map (·.2) := by
        intro cm cs cells y
        induction y with
        | nil => rfl
        | cons _ _ ih => simp [ih]
      rw [key hY]
      exact List.pairwise_map.mpr hp
    refine ⟨?_, D.offL, D.know, fun p hp => ?_, ?_, D.bG, D.gens, D.drawn, D.os, D.ab, D.pin, D.zL, D.zG⟩
    · have := D.ns
      exact (hm s.heap.objs.size) ▸ this
    · rcases List.mem_append.mp hp with hp | hp
      · have hn := NC p hp
        have off : s.heap.get? p.1 = none := hn.2.2
        refine ⟨hn.1, ?_, hn.2.1, ?_⟩
        · cases q : G p.1 with
          | none => rfl
          | some o' => rw [C.know _ _ q] at off; cases off
        · simp only [Pin.add]
          split
          · rename_i e; rw [e, hoL] at off; cases off
          · cases q : B.z p.1 with
            | none => rfl
            | some o' => rw [C.pin _ _ q] at off; cases off
      · exact D.mvs p hp
    · rw [List.map_append, List.nodup_append]
      refine ⟨apart, C.nd, fun a ha b hb e => ?_⟩
      obtain ⟨p, hp, rfl⟩ := List.mem_map.mp ha
      obtain ⟨q, hq, rfl⟩ := List.mem_map.mp hb
      have h1 := (NC p hp).2.2
      rw [e, (C.mvs q hq).1] at h1; cases h1
  refine wpAny_mono (h _ s.heap.objs.size cells _ _ (PinLe.add C.zL) Y D') (fun fl s'' hf => ?_) fun _ _ y => y
  obtain ⟨G', m', mu', F, k⟩ := hf
  exact k (C.leave hoL PinLe.rfl' F)

theorem call_fn {name qual : Str} {params : Arguments} {body : List Stmt} {scope : Scope} {dV kV doc pm cdv ct oc : Value} {an od : Option Addr} {osl : Array (Option Value)} {f : Addr} {args : List Value} {binds : List (Str × Value)} {m0 : Addr → Str → Option Value} {Q : Value → Shared → Prop}
    (C : Cx B L G m mu s) (W : Wd w B.heap) (ho : (K0 w).lookup f = some ⟨oc, od, .func (fnOf name qual params body scope dV kV doc pm an cdv ct), osl⟩) (hcd : codeIn (K0 w) cdv qual = true) (hroom : A.depth < recursionLimit)
    (hbind : bindArgs (fnOf name qual params body scope dV kV doc pm an cdv ct) ⟨args, []⟩ = pure binds)
    (hkind : (binds.all fun y => scope.names.lookup y.1 == some .local || scope.names.lookup y.1 == some .cell) = true)
    (hnd : ((cellsFrom 0 scope.names []).map (·.1)).Nodup)
    (hm : ∀ L', bindL (envOfC qual scope L' f cdv).kindOf binds (fun _ => none) = m0 L')
    (h : ∀ B' L' cells s' E', PinLe B B' → CellsAre (bindC (envOfC qual scope L' f cdv).kindOf binds fun _ => none) (cellsFrom (L' + 1) scope.names []) cells → Cx B' L' G (m0 L') (cells ++ mu) s' →
      wpAny (model pg w) (A.deeper (envOfC qual scope L' f cdv)) (execs body (envOfC qual scope L' f cdv))
        (Leave B L m B' L' Q) E' s')
    (hco : scope.isCoroutine = false) (hgen : scope.isGenerator = false) (hk : scope.kind = .function) :
    wpAny (model pg w) A (call (.ref f) args) Q E s :=
  wpAny_call (code_fn C W ho hcd hroom (fun _ => BindsTo.of_eq hbind) hkind hnd hm h hco hgen hk)
end
end Mine
namespace Mine
open PySem PySem.W PySem.Calls PyProof.Rows
theorem g_Rule (w : World) : nsIn (K0 w) mainGlobals (Str.ofString "Rule") = some (some (.ref 52)) := by kernel_rfl
theorem g_Contexts (w : World) : nsIn (K0 w) mainGlobals (Str.ofString "Contexts") = some (some (.ref 95)) := by kernel_rfl
theorem g_lookups_of (w : World) : nsIn (K0 w) mainGlobals (Str.ofString "lookups_of") = some (some (.ref 106)) := by kernel_rfl
theorem g_next_lookups (w : World) : nsIn (K0 w) mainGlobals (Str.ofString "next_lookups") = some (some (.ref 113)) := by kernel_rfl
theorem g_reached (w : World) : nsIn (K0 w) mainGlobals (Str.ofString "reached") = some (some (.ref 118)) := by kernel_rfl
theorem g_depths (w : World) : nsIn (K0 w) mainGlobals (Str.ofString "depths") = some (some (.ref 123)) := by kernel_rfl
theorem g_on_rings (w : World) : nsIn (K0 w) mainGlobals (Str.ofString "on_rings") = some (some (.ref 128)) := by kernel_rfl
theorem g_Lookup (w : World) : nsIn (K0 w) mainGlobals (Str.ofString "Lookup") = some (some (.ref 152)) := by kernel_rfl
theorem g_law_draw (w : World) : nsIn (K0 w) mainGlobals (Str.ofString "_law_draw") = some (some (.ref 163)) := by kernel_rfl
theorem g_law_source (w : World) : nsIn (K0 w) mainGlobals (Str.ofString "_law_source") = some (some (.ref 168)) := by kernel_rfl
theorem g_law_lookup (w : World) : nsIn (K0 w) mainGlobals (Str.ofString "_law_lookup") = some (some (.ref 173)) := by kernel_rfl
theorem g_law_goals (w : World) : nsIn (K0 w) mainGlobals (Str.ofString "_law_goals") = some (some (.ref 178)) := by kernel_rfl
theorem g_law_met (w : World) : nsIn (K0 w) mainGlobals (Str.ofString "_law_met") = some (some (.ref 185)) := by kernel_rfl
theorem g_law_right (w : World) : nsIn (K0 w) mainGlobals (Str.ofString "_law_right") = some (some (.ref 190)) := by kernel_rfl
theorem n_len (w : World) : nsIn (K0 w) mainGlobals (Str.ofString "len") = some none := by kernel_rfl
theorem b_len : bootBuiltins (Str.ofString "len") = some (.builtin "len") := by boot_fast
theorem n_range (w : World) : nsIn (K0 w) mainGlobals (Str.ofString "range") = some none := by kernel_rfl
theorem b_range : bootBuiltins (Str.ofString "range") = some (.type "range") := by boot_fast
theorem n_sorted (w : World) : nsIn (K0 w) mainGlobals (Str.ofString "sorted") = some none := by kernel_rfl
theorem b_sorted : bootBuiltins (Str.ofString "sorted") = some (.builtin "sorted") := by boot_fast
theorem n_set (w : World) : nsIn (K0 w) mainGlobals (Str.ofString "set") = some none := by kernel_rfl
theorem b_set : bootBuiltins (Str.ofString "set") = some (.type "set") := by boot_fast
theorem n_list (w : World) : nsIn (K0 w) mainGlobals (Str.ofString "list") = some none := by kernel_rfl
theorem b_list : bootBuiltins (Str.ofString "list") = some (.type "list") := by boot_fast
theorem n_max (w : World) : nsIn (K0 w) mainGlobals (Str.ofString "max") = some none := by kernel_rfl
theorem b_max : bootBuiltins (Str.ofString "max") = some (.builtin "max") := by boot_fast
theorem n_min (w : World) : nsIn (K0 w) mainGlobals (Str.ofString "min") = some none := by kernel_rfl
theorem b_min : bootBuiltins (Str.ofString "min") = some (.builtin "min") := by boot_fast
theorem n_int (w : World) : nsIn (K0 w) mainGlobals (Str.ofString "int") = some none := by kernel_rfl
theorem b_int : bootBuiltins (Str.ofString "int") = some (.type "int") := by boot_fast
theorem n_tuple (w : World) : nsIn (K0 w) mainGlobals (Str.ofString "tuple") = some none := by kernel_rfl
theorem b_tuple : bootBuiltins (Str.ofString "tuple") = some (.type "tuple") := by boot_fast
section
variable {w : World} {A : Around} {E : Value → Shared → Prop} {B : Pin} {L : Addr} {G : Kn} {m : Str → Option Value} {mu : Mu} {s : Shared} {env : Env}
theorem r_freeG {x : Str} {pos : Pos} {v : Value} {c : Addr} {o : Obj} {Q : Value → Shared → Prop} (C : Cx B L G m mu s) (hc : env.cells.lookup x = some c) (ho : G c = some o) (hd : o.data = .cell (some v)) (h : Q v s)
    (hk : env.scope.kind = .function) (hx : env.kindOf x = some .free ∨ env.kindOf x = some .cell) (hn : (x == ("__classdict__" : Str)) = false := by decide)
    (hd' : (x == ("__debug__" : Str)) = false := by decide) : wpAny (model pg w) A (eval (.Name x pos) env) Q E s :=
  r_free hk hx hc (C.know _ _ ho) hd h hn hd'
theorem r_freeZ {x : Str} {pos : Pos} {v : Value} {c : Addr} {o : Obj} {Q : Value → Shared → Prop} (C : Cx B L G m mu s) (hc : env.cells.lookup x = some c) (ho : B.z c = some o) (hd : o.data = .cell (some v)) (h : Q v s)
    (hk : env.scope.kind = .function) (hx : env.kindOf x = some .free ∨ env.kindOf x = some .cell) (hn : (x == ("__classdict__" : Str)) = false := by decide)
    (hd' : (x == ("__debug__" : Str)) = false := by decide) : wpAny (model pg w) A (eval (.Name x pos) env) Q E s :=
  r_free hk hx hc (C.pin _ _ ho) hd h hn hd'

/-- a row of rows that stand still -/
theorem r_row {value slice : Expr} {a : Addr} {k : Int} {t : Tok} {rows : List (List Int)} {row : List Int} {Q : Value → Shared → Prop} (C : Cx B L G m mu s) (hr : Rows G a rows) (h0 : 0 ≤ k) (hx : rows[k.toNat]? = some row) (hz : rows.length ≤ 1048576)
    (h : ∀ ad, isRow G ad row → Q (.ref ad) s) (hs : subscripted slice false (.ref a) (.int k t) = operate [.ref a, .int k t] (getItem (.ref a) (.int k t)) := by with_unfolding_all rfl) :
    wpAny (model pg w) A (subscriptTail value slice (.ref a) (.int k t)) Q E s := by
  obtain ⟨o, as, ho, hR, p⟩ := hr
  obtain ⟨ad, had, hrow⟩ := pr_at p hx
  exact r_item (C.know _ _ ho) hR h0 had (by rw [p.length]; exact hz) (fun v hv => by rw [hv]; exact h ad hrow) hs
theorem r_lenRows {a : Addr} {rows : List (List Int)} {Q : Value → Shared → Prop} (C : Cx B L G m mu s) (hr : Rows G a rows) (hz : rows.length ≤ 1048576) (h : ∀ t s', Cx B L G m mu s' → Q (.int rows.length t) s') :
    wpAny (model pg w) A (call (.builtin "len") [.ref a]) Q E s := by
  obtain ⟨o, as, ho, hR, p⟩ := hr
  have := p.length
  exact r_len C (C.know _ _ ho) hR (by omega) (by rw [this]; exact h)
end
end Mine
namespace Mine
open PySem PySem.W PySem.Calls PyProof.Rows
section
variable {w : World} {A : Around} {E : Value → Shared → Prop} {B : Pin} {L : Addr} {G : Kn} {m : Str → Option Value} {mu : Mu} {s : Shared} {env : Env}

/-- rows that may be turned: their addresses, their ints -/
def RowsM (rs : Mu) (as : List Addr) (rows : List (List Int)) : Prop := rs.map (·.1) = as ∧ Paired (fun (p : Addr × Obj) xs => OI p.2 xs) rs rows
theorem Cx.freezeRows : ∀ {rs : Mu} {G : Kn} {mu : Mu}, Cx B L G m (rs ++ mu) s → ∃ G', Le G G' ∧ (∀ p ∈ rs, G' p.1 = some p.2) ∧ Cx B L G' m mu s
  | [], G, mu, C => ⟨G, Le.rfl', by simp, C⟩
  | p :: rs, G, mu, C => by
    obtain ⟨G1, h1, h2, C1⟩ := C.freeze (i := 0) rfl
    obtain ⟨G2, h3, h4, C2⟩ := Cx.freezeRows (rs := rs) (mu := mu) C1
    refine ⟨G2, h1.trans h3, fun q hq => ?_, C2⟩
    rcases List.mem_cons.mp hq with rfl | hq
    · exact h3 _ _ h2
    · exact h4 q hq
theorem RowsM.rows {rs : Mu} {as : List Addr} {rows : List (List Int)} (x : RowsM rs as rows) (h : ∀ p ∈ rs, G p.1 = some p.2) : Paired (isRow G) as rows := by
  obtain ⟨e, p⟩ := x
  subst e
  induction p with
  | nil => exact .nil
  | cons a _ ih => exact .cons ⟨_, h _ (.head _), a⟩ (ih fun q hq => h q (.tail _ hq))
theorem RowsM.get {rs : Mu} {as : List Addr} {rows : List (List Int)} (x : RowsM rs as rows) {k : Nat} {row : List Int} (h : rows[k]? = some row) : ∃ a o, rs[k]? = some (a, o) ∧ as[k]? = some a ∧ OI o row := by
  obtain ⟨p, hp, ho⟩ := pr_at x.2 h
  exact ⟨p.1, p.2, hp, by rw [← x.1, List.getElem?_map, hp]; rfl, ho⟩
theorem RowsM.set {rs : Mu} {as : List Addr} {rows : List (List Int)} (x : RowsM rs as rows) {k : Nat} {a : Addr} {o o' : Obj} {row : List Int} (h : rs[k]? = some (a, o)) (ho : OI o' row) : RowsM (rs.set k (a, o')) as (rows.set k row) :=
  ⟨by rw [map_fst_set h]; exact x.1, pr_set x.2 ho k⟩
theorem RowsM.len {rs : Mu} {as : List Addr} {rows : List (List Int)} (x : RowsM rs as rows) : rs.length = rows.length ∧ as.length = rows.length := by
  have := x.2.length
  exact ⟨this, by rw [← x.1, List.length_map]; exact this⟩
theorem SetO.len {o : Obj} {ks xs : List Int} (h : SetO w o ks) (hm : ∀ x, x ∈ ks ↔ x ∈ xs) : ks.length ≤ xs.length := by
  obtain ⟨_, _, _, _, _, nd, _, _⟩ := h
  exact nodup_sub_len nd fun x hx => (hm x).mp hx
theorem SetO.nd {o : Obj} {ks : List Int} (h : SetO w o ks) : ks.Nodup := by
  obtain ⟨_, _, _, _, _, nd, _, _⟩ := h
  exact nd
end
end Mine
namespace Mine
open PySem PySem.W PySem.Calls PyProof.Rows
section
variable {w : World} {A : Around} {E : Value → Shared → Prop} {B : Pin} {L : Addr} {G : Kn} {m : Str → Option Value} {mu : Mu} {s : Shared} {env : Env}
theorem r_sliceI {value slice : Expr} {l : Addr} {vs : List Value} {ys : List Int} {vl vu : Value} {plo phi : Option Int} {Q : Value → Shared → Prop} (C : Cx B L G m mu s) (hl : s.heap.IsList l vs.toArray) (hlo : IsPart vl plo) (hhi : IsPart vu phi)
    (hi : IntsAre (slicePick vs.toArray plo phi none).toList ys) (hz : vs.length ≤ 1048576) (h : ∀ a o s', OI o ys → Cx B L G m ((a, o) :: mu) s' → Q (.ref a) s')
    (hs : subscripted slice false (.ref l) (.ref s.heap.objs.size) = operate [.ref s.heap.objs.size, .ref l] (getItem (.ref l) (.ref s.heap.objs.size)) := by with_unfolding_all rfl)
    (ht : ∀ r, letTemporaryGo value (.ref l) r = pure () := by intro _; with_unfolding_all rfl) :
    wpAny (model pg w) A (subscriptTail value slice (.ref l) (.ref s.heap.objs.size)) Q E { s with heap := s.heap.push { cls := .type "slice", data := .fields #[vl, vu, .none] } } := by
  refine slice_listK hl hlo hhi ?_ hs ht (by rw [sizeLine_eq]; simp; omega)
  have C1 := pushed C { cls := .type "slice", data := .fields #[vl, vu, .none] } rfl s.toks
  have C2 := pushed C1 { cls := .type "list", data := .seq (slicePick vs.toArray plo phi none) } rfl s.toks
  have e2 : ({ s with heap := s.heap.push { cls := .type "slice", data := .fields #[vl, vu, .none] } } : Shared).heap.objs.size = s.heap.objs.size + 1 := Heap.size_push ..
  have C3 := C2.drop (mu' := (s.heap.objs.size + 1, { cls := .type "list", data := .seq (slicePick vs.toArray plo phi none) }) :: mu) (by
    rw [e2]
    exact List.Sublist.cons_cons _ (List.sublist_cons_self _ _))
  exact h _ _ _ ⟨_, 0, by rw [Array.toArray_toList], pr_ofInts hi⟩ C3
theorem r_slice1 {l : Addr} {o : Obj} {xs : List Int} (hl : s.heap.get? l = some o) (ho : OI o xs) : ∃ vs, s.heap.IsList l vs.toArray ∧ IntsAre vs xs ∧ vs.length = xs.length := by
  obtain ⟨vs, n, e, p⟩ := ho
  exact ⟨vs, isList_of hl e, pr_ints p, p.length⟩
end
end Mine
namespace Mine
open PySem PySem.W PySem.Calls PyProof.Rows

/-- what an object's own table says of each name -/
def Fl (es : List DictEntry) (f : Str → Option Value) : Prop := ∀ x, getL x es = some (f x)
theorem Fl.nil : Fl [] (fun _ => none) := fun _ => rfl
theorem getL_cons (x : Str) (e : DictEntry) (r : List DictEntry) (hr : e.refKey = false) : getL x (e :: r) = if e.key.isStr x then some (some e.val) else getL x r := by
  unfold getL
  rw [List.find?_cons]
  cases h : e.key.isStr x with
  | true => simp
  | false => simp [hr]
theorem getL_ok {x : Str} {es : List DictEntry} (h : ∀ e ∈ es, e.refKey = false) : (getL x es).isSome = true := by
  unfold getL
  cases hf : es.find? (·.key.isStr x) with
  | some e => rfl
  | none =>
    have : es.any (·.refKey) = false := by
      rw [List.any_eq_false]; intro e he; rw [h e he]; simp
    simp [this]
structure Fo (es : List DictEntry) (f : Str → Option Value) (k : Nat) : Prop where
  fl : Fl es f
  rk : ∀ e ∈ es, e.refKey = false
  ln : es.length ≤ k
theorem Fo.nil : Fo [] (fun _ => none) 0 := ⟨Fl.nil, by simp, Nat.le_refl _⟩
theorem isStr_str (x y : Str) (t : Tok) : (Value.str x t).isStr y = (x == y) := rfl
theorem refKey_str (h : Int) (x : Str) (t : Tok) (v : Value) : (⟨h, .str x t, v⟩ : DictEntry).refKey = false := rfl
theorem Fo.put {es : List DictEntry} {f : Str → Option Value} {k : Nat} {hsh : Int} {name : Str} {t : Tok} {v : Value} (x : Fo es f k) : Fo (putL name hsh (.str name t) v es) (upd f name v) (k + 1) := by
  have key : ∀ (es : List DictEntry) (f : Str → Option Value), (∀ e ∈ es, e.refKey = false) → Fl es f → (Fl (putL name hsh (.str name t) v es) (upd f name v) ∧ (∀ e ∈ putL name hsh (.str name t) v es, e.refKey = false) ∧ (putL name hsh (.str name t) v es).length ≤ es.length + 1) := by
    intro es
    induction es with
    | nil =>
      intro f _ hf
      refine ⟨fun y => ?_, fun e he => ?_, by simp [putL]⟩
      · show getL y [⟨hsh, .str name t, v⟩] = _
        rw [getL_cons _ _ _ (refKey_str ..), isStr_str]
        have h0 := hf y
        by_cases e : y = name
        · subst e; simp [upd]
        · have e' : (name == y) = false := by simpa using fun q => e q.symm
          rw [e']; simp [upd, e]; exact h0
      · have he' : e = ⟨hsh, .str name t, v⟩ := by simpa [putL] using he
        rw [he']; rfl
    | cons e r ih =>
      intro f hr hf
      have hre := hr e (.head _)
      unfold putL
      by_cases hs : e.key.isStr name = true
      · rw [if_pos hs]
        refine ⟨fun y => ?_, fun e' he' => ?_, by simp⟩
        · rw [getL_cons y ⟨e.hash, e.key, v⟩ r hre]
          have h0 := hf y
          rw [getL_cons y e r hre] at h0
          have kk : ∀ z, e.key.isStr z = (z == name) := by
            intro z
            cases hk : e.key with
            | str s u =>
              rw [hk] at hs
              have hs' : (s == name) = true := hs
              have : s = name := by simpa using hs'
              subst this
              show (s == z) = (z == s)
              by_cases q : s = z
              · subst q; rfl
              · have q' : ¬ z = s := fun w => q w.symm
                rw [beq_eq_false_iff_ne.mpr q, beq_eq_false_iff_ne.mpr q']
            | _ => rw [hk] at hs; cases hs
          rw [kk] at h0 ⊢
          by_cases q : y = name
          · subst q; simp [upd]
          · have q' : (y == name) = false := by simpa using q
            rw [q'] at h0 ⊢
            simp only [Bool.false_eq_true, if_false] at h0 ⊢
            rw [h0]; simp [upd, q]
        · rcases List.mem_cons.mp he' with rfl | he'
          · exact hre
          · exact hr e' (.tail _ he')
      · rw [if_neg hs]
        have hfr : Fl r (fun y => (getL y r).getD none) := fun y => by
          have := getL_ok (x := y) (fun e' he' => hr e' (.tail _ he'))
          cases hq : getL y r with
          | none => rw [hq] at this; cases this
          | some o => dsimp only; rw [hq]; rfl
        obtain ⟨i1, i2, i3⟩ := ih _ (fun e' he' => hr e' (.tail _ he')) hfr
        refine ⟨fun y => ?_, fun e' he' => ?_, by simp; omega⟩
        · rw [getL_cons y e _ hre]
          have h0 := hf y
          rw [getL_cons y e r hre] at h0
          have h1 := i1 y
          by_cases hy : e.key.isStr y = true
          · rw [if_pos hy] at h0 ⊢
            have hne : y ≠ name := fun q => hs (q ▸ hy)
            simp only [upd, hne, if_false]; exact h0
          · rw [if_neg hy] at h0 ⊢
            rw [h1]
            by_cases q : y = name
            · subst q; simp [upd]
            · simp only [upd, q, if_false]
              rw [h0]; simp
        · rcases List.mem_cons.mp he' with rfl | he'
          · exact hre
          · exact i2 e' he'
  obtain ⟨a, b, c⟩ := key es f x.rk x.fl
  exact ⟨a, b, by have := x.ln; omega⟩

section
variable {w : World} {A : Around} {E : Value → Shared → Prop} {B : Pin} {L : Addr} {G : Kn} {m : Str → Option Value} {mu : Mu} {s : Shared} {env : Env}

theorem upd_all {dx : Addr} {od od' : Obj} : ∀ {l : List (Addr × Obj)}, (dx, od) ∈ l → (l.map (·.1)).Nodup → Upd dx od od' l (l.map fun p => if p.1 = dx then (dx, od') else p)
  | [], h, _ => nomatch h
  | p :: r, h, hn => by
    have hn' := List.nodup_cons.mp hn
    by_cases e : p.1 = dx
    · have hp : p = (dx, od) := by
        rcases List.mem_cons.mp h with q | q
        · exact q.symm
        · exact absurd (mem_fst q e.symm) hn'.1 |> fun z => z
      subst hp
      have hr : ∀ q ∈ r, q.1 ≠ dx := fun q hq e' => hn'.1 (mem_fst hq e')
      have er : r.map (fun p => if p.1 = dx then (dx, od') else p) = r := map_eq_self fun q hq => if_neg (hr q hq)
      show Upd dx od od' ((dx, od) :: r) ((if dx = dx then (dx, od') else (dx, od)) :: r.map _)
      rw [er, if_pos rfl]
      exact .head hr
    · have hmem : (dx, od) ∈ r := by
        rcases List.mem_cons.mp h with q | q
        · exact absurd (by rw [← q]) e
        · exact q
      show Upd dx od od' (p :: r) ((if p.1 = dx then (dx, od') else p) :: r.map _)
      rw [if_neg e]
      exact .tail e (upd_all hmem hn'.2)
theorem alln_nodup : ((alln B s L).map (·.1)).Nodup := by
  unfold alln
  refine List.pairwise_map.mpr ?_
  refine List.Pairwise.filterMap _ (R := (· < ·)) ?_ List.pairwise_lt_range
  intro a b hab c hc d hd
  have h1 : ∀ (x : Nat) (p : Addr × Obj), (if x = L then none else match B.heap.get? x with | some _ => none | none => (s.heap.get? x).map fun o => (x, o)) = some p → p.1 = x := by
    intro x p hp
    split at hp
    · cases hp
    · split at hp
      · cases hp
      · obtain ⟨o, _, e⟩ := Option.map_eq_some_iff.mp hp
        rw [← e]
  rw [h1 a c hc, h1 b d hd]
  exact Nat.ne_of_lt hab
theorem Cx.offB (C : Cx B L G m mu s) {p : Addr × Obj} (h : p ∈ mu) : B.heap.get? p.1 = none := by
  cases q : B.heap.get? p.1 with
  | none => rfl
  | some o => have := C.bG _ _ q; rw [(C.mvs p h).2.1] at this; cases this
theorem Cx.ofU {dx : Addr} {od od' : Obj} (C : Cx B L G m ((dx, od) :: mu) s) {h' : Heap} {n : Nat} (F : Fr B.heap L h' m) (N : News B.heap L h' ((alln B s L).map fun p => if p.1 = dx then (dx, od') else p)) : Cx B L G m ((dx, od') :: mu) { s with heap := h', toks := n } := by
  have hm := C.mvs (dx, od) (.head _)
  have hin : (dx, od) ∈ alln B s L := mem_alln.mpr ⟨hm.1, hm.2.2.1, C.offB (.head _)⟩
  have C1 : ∀ b ob, b ≠ dx → b ≠ L → s.heap.get? b = some ob → h'.get? b = some ob := fun b ob hb hL e => by
    cases q : B.heap.get? b with
    | some o' =>
      have h1 := C.know _ _ (C.bG _ _ q)
      rw [e] at h1; cases h1
      exact F.keep _ _ q
    | none =>
      refine (N (b, ob) (List.mem_map.mpr ⟨(b, ob), mem_alln.mpr ⟨e, hL, q⟩, if_neg hb⟩)).1
  have hdx : h'.get? dx = some od' := (N (dx, od') (List.mem_map.mpr ⟨(dx, od), hin, if_pos rfl⟩)).1
  have hnd := List.nodup_cons.mp C.nd
  exact ⟨F.ns, C.offL, fun b ob e => C1 _ _ (fun q => by rw [q, hm.2.1] at e; cases e) (fun q => by rw [q, C.offL] at e; cases e) (C.know b ob e), fun p hp => by
      rcases List.mem_cons.mp hp with rfl | hp
      · exact ⟨hdx, hm.2⟩
      · have hpm := C.mvs p (.tail _ hp)
        exact ⟨C1 _ _ (fun q => hnd.1 (mem_fst hp q)) hpm.2.2.1 hpm.1, hpm.2⟩, C.nd, C.bG, C.gens, C.drawn, C.os, C.ab,
    fun b ob e => C1 _ _ (fun q => by rw [q, hm.2.2.2] at e; cases e) (fun q => by rw [q, C.zL] at e; cases e) (C.pin b ob e), C.zL, C.zG⟩

/-- a class of the text as the walk needs it -/
structure Kl (w : World) (c : Addr) : Prop where
  hs : findIn (K0 w) (.ref c) "__setattr__" = some (some (.builtin "object.__setattr__"))
  hp : plainOver (K0 w) c = true
  hh : hasDictIn (K0 w) c = true
  mks : makesIn (K0 w) c = true

theorem r_setAttr {x dx c : Addr} {es : List DictEntry} {n k : Nat} {f : Str → Option Value} {name : Str} {v : Value} {Q : Unit → Shared → Prop} (C : Cx B L G m ((dx, dictOf es n) :: mu) s) (W : Wd w B.heap) (hx : s.heap.get? x = some (instObj c dx)) (hf : Fo es f k) (hk : k ≤ 100) (hc : Kl w c) (ht : takerIn (K0 w) c name = some none)
    (h : ∀ es' n' s', Fo es' (upd f name v) (k + 1) → Cx B L G m ((dx, dictOf es' n') :: mu) s' → Q () s') : wpAny (model pg w) A (setAttr (.ref x) name v) Q E s := by
  have hm := C.mvs _ (.head _)
  have hin : (dx, dictOf es n) ∈ alln B s L := mem_alln.mpr ⟨hm.1, hm.2.2.1, C.offB (.head _)⟩
  have hln := hf.ln
  refine set_dict C.fr W.X C.news ⟨hx, rfl, rfl, hm.1⟩ rfl hc.hs hc.hp ht hc.hh (getL_ok hf.rk) rfl (upd_all hin alln_nodup) ?_ fun h' F N => ?_
  · have := (hf.put (hsh := PyData.keyHash w.params name) (name := name) (t := s.toks + 1) (v := v)).ln; omega
  · exact h _ _ _ hf.put (C.ofU F N)

theorem r_getAttr {x dx c : Addr} {es : List DictEntry} {n k : Nat} {f : Str → Option Value} {name : Str} {v : Value} {expr : Bool} {attr : Option Value} {Q : Value → Shared → Prop} (C : Cx B L G m mu s) (W : Wd w B.heap) (hx : s.heap.get? x = some (instObj c dx)) (hd : s.heap.get? dx = some (dictOf es n)) (hf : Fo es f k) (hv : f name = some v)
    (hg : plainGet (K0 w) c name = true) (hh : hasDictIn (K0 w) c = true) (ha : findIn (K0 w) (.ref c) name = some attr) (hn : noGet (K0 w) attr = true) (hhd : handedIn v = true)
    (h : ∀ s', Cx B L G m mu s' → Q v s') : wpAny (model pg w) A (getAttr (.ref x) name expr) Q E s :=
  get_own C.fr W.X ⟨hx, rfl, rfl, hd⟩ hg hh ha hn (by rw [hf.fl name, hv]) hhd (h _ (C.toks _))

theorem Cx.of2 (C : Cx B L G m mu s) {h' : Heap} {x dx : Addr} {ox od : Obj} {n : Nat} (F : Fr B.heap L h' m) (N : News B.heap L h' ((x, ox) :: (dx, od) :: alln B s L)) (h1 : ∀ p ∈ alln B s L, p.1 < dx) (h2 : dx < x) : Cx B L G m ((dx, od) :: (x, ox) :: mu) { s with heap := h', toks := n } := by
  have C1 := C.of (n := n) F N (fun p hp => .tail _ (.tail _ hp))
  have hx := N (x, ox) (.head _)
  have hd := N (dx, od) (.tail _ (.head _))
  have off : ∀ a, a = x ∨ a = dx → s.heap.get? a = none := fun a ha => by
    cases q : s.heap.get? a with
    | none => rfl
    | some o' =>
      have hB : a ≠ L ∧ B.heap.get? a = none := by
        rcases ha with rfl | rfl
        · exact hx.2
        · exact hd.2
      have h3 : a < dx := h1 (a, o') (mem_alln.mpr ⟨q, hB⟩)
      rcases ha with rfl | rfl
      · exact absurd h3 (Nat.not_lt.mpr (Nat.le_of_lt h2))
      · exact absurd h3 (Nat.lt_irrefl _)
  have mk : ∀ a o, h'.get? a = some o → a ≠ L → s.heap.get? a = none → (h'.get? a = some o ∧ G a = none ∧ a ≠ L ∧ B.z a = none) := fun a o e hL ha => by
    refine ⟨e, ?_, hL, ?_⟩
    · cases q : G a with
      | none => rfl
      | some o' => rw [C.know _ _ q] at ha; cases ha
    · cases q : B.z a with
      | none => rfl
      | some o' => rw [C.pin _ _ q] at ha; cases ha
  have nin : ∀ a, s.heap.get? a = none → a ∉ mu.map (·.1) := fun a ha hm => by
    obtain ⟨p, hp, e⟩ := List.mem_map.mp hm
    have e' : p.1 = a := e
    rw [← e', (C.mvs p hp).1] at ha; cases ha
  refine ⟨C1.ns, C1.offL, C1.know, fun p hp => ?_, ?_, C1.bG, C1.gens, C1.drawn, C1.os, C1.ab, C1.pin, C1.zL, C1.zG⟩
  · rcases List.mem_cons.mp hp with rfl | hp
    · exact mk _ _ hd.1 hd.2.1 (off _ (.inr rfl))
    · rcases List.mem_cons.mp hp with rfl | hp
      · exact mk _ _ hx.1 hx.2.1 (off _ (.inl rfl))
      · exact C1.mvs p hp
  · refine List.nodup_cons.mpr ⟨fun hm => ?_, List.nodup_cons.mpr ⟨nin _ (off _ (.inl rfl)), C.nd⟩⟩
    rcases List.mem_cons.mp hm with q | q
    · have q' : dx = x := q
      rw [q'] at h2; exact Nat.lt_irrefl _ h2
    · exact nin _ (off _ (.inr rfl)) q
/-- an object of a class is made -/
theorem r_make {c fI : Addr} {args : List Value} {Q : Value → Shared → Prop} (C : Cx B L G m mu s) (W : Wd w B.heap) (hc : Kl w c) (hi : findIn (K0 w) (.ref c) "__init__" = some (some (.ref fI))) (hf : typeIn (K0 w) (.ref fI) = some (.type "function"))
    (h : ∀ x dx s', Cx B L G m ((dx, dictOf [] 0) :: (x, instObj c dx) :: mu) s' →
      codeAny (model pg w) (A.under (.builtin "type.__call__" ⟨.ref c :: args, []⟩)) (.call (.ref fI) ⟨.ref x :: args, []⟩) (InitBack x fun r s' => match r with | .ok (.ret v) => Q v s' | .ok _ => False | .error e => E e s') s') :
    wpAny (model pg w) A (call (.ref c) args) Q E s := by
  refine wpAny_call (make_K C.fr C.news (W.X.keeps C.base) hc.mks hi hf fun x dx h' F N h1 h2 => ?_)
  exact h x dx _ (C.of2 (n := s.toks) F N h1 h2)
end
end Mine
namespace Mine
open PySem PySem.W PySem.Calls PyProof.Rows

/-- a tuple's object -/
def TO (o : Obj) (vs : List Value) : Prop := ∃ n, o = { cls := .type "tuple", data := .seq vs.toArray n }
/-- a dict's object -/
def DO (w : World) (o : Obj) (kvs : List (Int × Value)) : Prop := o.IsDictOf (intKind pg w) kvs

section
variable {w : World} {A : Around} {E : Value → Shared → Prop} {B : Pin} {L : Addr} {G : Kn} {m : Str → Option Value} {mu : Mu} {s : Shared} {env : Env}

theorem r_newTuple {vs : List Value} {Q : Value → Shared → Prop} (C : Cx B L G m mu s) (hz : vs.length ≤ 1048576) (h : ∀ a o s', TO o vs → Cx B L G m ((a, o) :: mu) s' → Q (.ref a) s') :
    wpAny (model pg w) A (newTuple vs) Q E s := by
  refine wpAny_newObj_type (h _ _ _ ⟨0, rfl⟩ ?_) (by show vs.toArray.size ≤ sizeLine; rw [List.size_toArray, sizeLine_eq]; omega)
  exact pushed C { cls := .type "tuple", data := .seq vs.toArray } rfl s.toks

theorem r_tupleOf {α : Type} {R : Value → α → Prop} {l : Addr} {o : Obj} {xs : List α} {Q : Value → Shared → Prop} (C : Cx B L G m mu s) (hl : s.heap.get? l = some o) (ho : OV R o xs) (hz : xs.length ≤ 1048576)
    (h : ∀ a o' vs s', Paired R vs xs → TO o' vs → Cx B L G m ((a, o') :: mu) s' → Q (.ref a) s') : wpAny (model pg w) A (call (.type "tuple") [.ref l]) Q E s := by
  obtain ⟨vs, n, e, p⟩ := id ho
  refine call_tuple_list (isList_of hl e) (fun h' hk => ?_) (by rw [sizeLine_eq]; have := p.length; simp; omega)
  have C1 : Cx B L G m mu { s with heap := h' } := C.keeps (n := s.toks) hk
  exact h _ _ vs _ p ⟨0, rfl⟩ (pushed C1 { cls := .type "tuple", data := .seq vs.toArray } rfl s.toks)

theorem TO.tup {a : Addr} {o : Obj} {vs : List Value} {h : Heap} (ho : TO o vs) (ha : h.get? a = some o) : IsTup h a vs.toArray := by
  obtain ⟨n, rfl⟩ := ho
  exact ⟨_, ha, rfl, n, rfl⟩

/-- a loop's target of whatever kind -/
theorem for_coreT {tg : Expr} {body : List Stmt} {I : Addr} {oI : Obj} {fp : List Addr} {n : Nat} {P : Nat → Value → Prop} {St : Nat → Heap → Prop} {R : Result → Shared → Prop} (up : (Str → Option Value) → Value → (Str → Option Value) → Prop)
    (W : Walks pg w A I fp [I] n P St) (hob : ∀ i h, St i h → ∃ o, h.get? I = some o) (hfp : ∀ b ∈ fp, b = I ∨ ∃ o, G b = some o)
    (hgo : ∀ i v (s : Shared) (Q : Unit → Shared → Prop) (E : Value → Shared → Prop), St i s.heap → Q () s → wpAny (model pg w) A (letOwnedTupleGo tg (.ref I) v) Q E s)
    (hasg : ∀ i v B' G' m' mu' s' E' (Q : Unit → Shared → Prop), i < n → P i v → Le G G' → Cx B' env.locals G' m' mu' s' → (∀ m'' s'', up m' v m'' → Cx B' env.locals G' m'' mu' s'' → Q () s'') → wpAny (model pg w) A (assign tg env v) Q E' s')
    (C : Cx B env.locals G m ((I, oI) :: mu) s) (st : St 0 s.heap) (J : Nat → Kn → (Str → Option Value) → Mu → Prop) (h0 : J 0 G m mu)
    (step : ∀ i v B' G' m' m'' mu' s' E', i < n → P i v → PinLe B B' → Le G G' → J i G' m' mu' → up m' v m'' → Cx B' env.locals G' m'' mu' s' →
      wpAny (model pg w) A (execs body env) (fun f s'' => match f with
        | .next | .cont => ∃ G'' m'' mu'', Le G' G'' ∧ J (i + 1) G'' m'' mu'' ∧ Cx B' env.locals G'' m'' mu'' s''
        | .brk => False
        | .ret v => R (.ok (.ret v)) s'') E' s')
    (hR : ∀ G' m' mu' s', Le G G' → J n G' m' mu' → Cx B env.locals G' m' mu' s' → R (.ok .next) s') :
    codeAny (model pg w) A (.forLoop tg (.ref I) body [] env) R s := by
  refine codeAny_forLoop_any (fun k s' => ∃ i G' m' mu' o, k = n + 1 - i ∧ i ≤ n ∧ Le G G' ∧ J i G' m' mu' ∧ St i s'.heap ∧ Cx B env.locals G' m' ((I, o) :: mu') s') ?_ (n + 1) ⟨0, G, m, mu, oI, rfl, Nat.zero_le _, Le.rfl', h0, st, C⟩
  rintro k s' ⟨i, G', m', mu', o, rfl, hi, hG, hJ, hst, D⟩
  rcases Nat.lt_or_ge i n with hlt | hge
  · refine W.item i s' _ _ hlt hst fun v h' tk hP hst' hkeep => ?_
    refine hgo _ _ _ _ _ hst' ?_
    obtain ⟨o', ho'⟩ := hob _ _ hst'
    have D1 : Cx B env.locals G' m' ((I, o') :: mu') { s' with heap := h', toks := tk } := D.turnedE (fun b ob hb e => hkeep b ob (by simpa using hb) e) ho'
    have D2 := D1.hide0
    refine hasg i v _ G' m' mu' _ _ _ hlt hP hG D2 fun m1 s₂ hup D3 => ?_
    have hpin : s₂.heap.get? I = some o' := D3.pin _ _ Pin.add_get
    refine wpAny_mono (step i v (B.add I o') G' m' m1 mu' s₂ _ hlt hP (PinLe.add D1.none_of) hG hJ hup D3) (fun f s₃ hf => ?_) fun _ _ x => x
    have fin : (∃ G'' m'' mu'', Le G' G'' ∧ J (i + 1) G'' m'' mu'' ∧ Cx (B.add I o') env.locals G'' m'' mu'' s₃) → ∃ k, k < n + 1 - i ∧ ∃ j G' m' mu' o, k = n + 1 - j ∧ j ≤ n ∧ Le G G' ∧ J j G' m' mu' ∧ St j s₃.heap ∧ Cx B env.locals G' m' ((I, o) :: mu') s₃ := by
      rintro ⟨G'', m'', mu'', hG', hJ', D4⟩
      refine ⟨n + 1 - (i + 1), by omega, i + 1, G'', m'', mu'', o', rfl, hlt, hG.trans hG', hJ', ?_, D4.show' D1.none_of⟩
      refine W.frame _ _ _ hst' fun b hb ob e => ?_
      rcases hfp b hb with rfl | ⟨og, hg⟩
      · have e' : h'.get? b = some ob := e
        rw [ho'] at e'; cases e'; exact D4.pin _ _ Pin.add_get
      · have h1 : s'.heap.get? b = some og := D.know _ _ (hG _ _ hg)
        have hne : b ≠ I := fun q => by
          have := (D.mvs (I, o) (.head _)).2.1
          have h2 := hG _ _ hg
          rw [q] at h2; rw [h2] at this; cases this
        have h3 : h'.get? b = some og := hkeep b og (by simpa using hne) h1
        rw [e] at h3; cases h3
        exact D4.know _ _ (hG' _ _ (hG _ _ hg))
    cases f with
    | next => exact fin hf
    | cont => exact fin hf
    | brk => exact hf.elim
    | ret v => exact hf
  · have e : i = n := by omega
    subst e
    refine W.done s' _ _ hst fun h' tk hkeep => wpAny_execs_nil ?_
    have D0 := D.drop (mu' := mu') (List.sublist_cons_self _ _)
    have hI := D.mvs (I, o) (.head _)
    obtain ⟨oL, es, ep, h1, h2⟩ := D0.ns
    have kp : ∀ b ob, b ≠ I → s'.heap.get? b = some ob → h'.get? b = some ob := fun b ob hb e => hkeep b ob (by simpa using hb) e
    refine hR G' m' mu' _ hG hJ ⟨⟨oL, es, ep, kp _ _ hI.2.2.1.symm h1, h2⟩, D0.offL, fun b ob e => kp _ _ (fun q => by rw [q, hI.2.1] at e; cases e) (D0.know _ _ e), fun p hp => ⟨kp _ _ (fun q => (List.nodup_cons.mp D.nd).1 (mem_fst hp q)) (D0.mvs p hp).1, (D0.mvs p hp).2⟩, D0.nd, D0.bG, D0.gens, D0.drawn, D0.os, D0.ab, fun b ob e => kp _ _ (fun q => by rw [q, hI.2.2.2] at e; cases e) (D0.pin _ _ e), D0.zL, D0.zG⟩

/-- over a tuple that stands still; the target is of whatever kind -/
theorem r_forTupT {tg : Expr} {body : List Stmt} {l : Addr} {o : Obj} {vs : List Value} {R : Result → Shared → Prop} (up : (Str → Option Value) → Value → (Str → Option Value) → Prop)
    (C : Cx B env.locals G m mu s) (hl : G l = some o) (ho : TO o vs)
    (hasg : ∀ (i : Nat) v B' G' m' mu' s' E' (Q : Unit → Shared → Prop), vs[i]? = some v → Le G G' → Cx B' env.locals G' m' mu' s' → (∀ m'' s'', up m' v m'' → Cx B' env.locals G' m'' mu' s'' → Q () s'') → wpAny (model pg w) A (assign tg env v) Q E' s')
    (J : Nat → Kn → (Str → Option Value) → Mu → Prop) (h0 : J 0 G m mu)
    (step : ∀ (i : Nat) v B' G' m' m'' mu' s' E', vs[i]? = some v → PinLe B B' → Le G G' → J i G' m' mu' → up m' v m'' → Cx B' env.locals G' m'' mu' s' →
      wpAny (model pg w) A (execs body env) (fun f s'' => match f with
        | .next | .cont => ∃ G'' m'' mu'', Le G' G'' ∧ J (i + 1) G'' m'' mu'' ∧ Cx B' env.locals G'' m'' mu'' s''
        | .brk => False
        | .ret v => R (.ok (.ret v)) s'') E' s')
    (hR : ∀ G' m' mu' s', Le G G' → J vs.length G' m' mu' → Cx B env.locals G' m' mu' s' → R (.ok .next) s')
    (hh : A.handled = none) :
    wpAny (model pg w) A (pyIter (.ref l)) (fun it s₂ => codeAny (model pg w) A (.forLoop tg it body [] env) R s₂) E s := by
  have hg := C.know _ _ hl
  have ht : s.heap.IsTuple l vs.toArray := ho.tup hg
  refine wpAny_pyIter_tuple ht ?_
  have C' := pushed C { cls := .type "tuple_iterator", data := .fields #[.ref l, .int 0 0] } rfl s.toks
  have T := Walks.tuple (prog := pg) (w := w) hh s.heap.objs.size l (Nat.ne_of_lt (Heap.lt_size hg)) vs.toArray
  have hsz : vs.toArray.size = vs.length := List.size_toArray
  refine for_coreT up T (fun i h st => ?_) (fun b hb => ?_) (fun i v s' Q E' st hq => letGo_tupleiter st.1 hq) (fun i v B' G' m' mu' s' E' Q hi hP => hasg i v B' G' m' mu' s' E' Q (by simpa using hP)) C' ⟨⟨_, C'.getM (i := 0) rfl, rfl, rfl⟩, ho.tup (C'.know _ _ hl)⟩ J h0 (fun i v B' G' m' m'' mu' s' E' hi hP => step i v B' G' m' m'' mu' s' E' (by simpa using hP)) (by rw [hsz]; exact hR)
  · obtain ⟨ob, h1, _⟩ := st.1; exact ⟨ob, h1⟩
  · rcases List.mem_cons.mp hb with rfl | hb
    · exact .inl rfl
    · have : b = l := by simpa using hb
      exact .inr ⟨o, this ▸ hl⟩

theorem r_forTup {x : Str} {px : Pos} {body : List Stmt} {l : Addr} {o : Obj} {vs : List Value} {R : Result → Shared → Prop}
    (C : Cx B env.locals G m mu s) (hl : G l = some o) (ho : TO o vs) (J : Nat → Kn → (Str → Option Value) → Mu → Prop) (h0 : J 0 G m mu)
    (step : ∀ (i : Nat) v B' G' m' mu' s' E', vs[i]? = some v → PinLe B B' → Le G G' → J i G' m' mu' → Cx B' env.locals G' (upd m' x v) mu' s' →
      wpAny (model pg w) A (execs body env) (fun f s'' => match f with
        | .next | .cont => ∃ G'' m'' mu'', Le G' G'' ∧ J (i + 1) G'' m'' mu'' ∧ Cx B' env.locals G'' m'' mu'' s''
        | .brk => False
        | .ret v => R (.ok (.ret v)) s'') E' s')
    (hR : ∀ G' m' mu' s', Le G G' → J vs.length G' m' mu' → Cx B env.locals G' m' mu' s' → R (.ok .next) s')
    (hh : A.handled = none) (hx : env.kindOf x = some .local) (hk : env.scope.kind = .function) :
    wpAny (model pg w) A (pyIter (.ref l)) (fun it s₂ => codeAny (model pg w) A (.forLoop (.Name x px) it body [] env) R s₂) E s :=
  r_forTupT (fun m' v m'' => m'' = upd m' x v) C hl ho (fun i v B' G' m' mu' s' E' Q hv hG D k => wpAny_assign_Name (r_store D hk hx fun s2 D2 => k _ _ rfl D2)) J h0
    (fun i v B' G' m' m'' mu' s' E' hv hB hG hJ hup D => by subst hup; exact step i v B' G' m' mu' s' E' hv hB hG hJ D) hR hh

/-- pairs are taken apart -/
theorem r_forPairs {x y : Str} {k : Nat} {px py pt : Pos} {body : List Stmt} {l : Addr} {o : Obj} {vs : List Value} {R : Result → Shared → Prop}
    (C : Cx B env.locals G m mu s) (hl : G l = some o) (ho : TO o vs) (hp : ∀ (i : Nat) v, vs[i]? = some v → ∃ t ot a b, v = .ref t ∧ G t = some ot ∧ TO ot [a, b])
    (J : Nat → Kn → (Str → Option Value) → Mu → Prop) (h0 : J 0 G m mu)
    (step : ∀ (i : Nat) v a b B' G' m' mu' s' E', vs[i]? = some v → (∃ t ot, v = .ref t ∧ G t = some ot ∧ TO ot [a, b]) → PinLe B B' → Le G G' → J i G' m' mu' → Cx B' env.locals G' (upd (upd m' x a) y b) mu' s' →
      wpAny (model pg w) A (execs body env) (fun f s'' => match f with
        | .next | .cont => ∃ G'' m'' mu'', Le G' G'' ∧ J (i + 1) G'' m'' mu'' ∧ Cx B' env.locals G'' m'' mu'' s''
        | .brk => False
        | .ret v => R (.ok (.ret v)) s'') E' s')
    (hR : ∀ G' m' mu' s', Le G G' → J vs.length G' m' mu' → Cx B env.locals G' m' mu' s' → R (.ok .next) s')
    (hh : A.handled = none) (hx : env.kindOf x = some .local) (hy : env.kindOf y = some .local) (hk : env.scope.kind = .function) :
    wpAny (model pg w) A (pyIter (.ref l)) (fun it s₂ => codeAny (model pg w) A (.forLoop (.Tuple [.Name x px, .Name y py] k pt) it body [] env) R s₂) E s :=
  r_forTupT (fun m' v m'' => ∃ a b, (∃ t ot, v = .ref t ∧ G t = some ot ∧ TO ot [a, b]) ∧ m'' = upd (upd m' x a) y b) C hl ho (fun i v B' G' m' mu' s' E' Q hv hG D kk => by
      obtain ⟨t, ot, a, b, rfl, ht, hto⟩ := hp i v hv
      refine assign_Tuple_tuple hh (hto.tup (D.know _ _ (hG _ _ ht))) (by rfl) (by rfl) fun h' he => ?_
      have D1 : Cx B' env.locals G' m' mu' { s' with heap := h' } := D.keeps (n := s'.toks) fun b ob e => he b ob (Nat.ne_of_lt (Heap.lt_size e)) e
      show wpAny _ _ (assignInOrder [fun v => assign (.Name x px) env v, fun v => assign (.Name y py) env v] [a, b]) _ _ _
      refine assignInOrder_cons (wpAny_assign_Name (r_store D1 hk hx fun s2 D2 => ?_))
      refine assignInOrder_cons (wpAny_assign_Name (r_store D2 hk hy fun s3 D3 => ?_))
      exact assignInOrder_nil (kk _ _ ⟨a, b, ⟨t, ot, rfl, ht, hto⟩, rfl⟩ D3)) J h0
    (fun i v B' G' m' m'' mu' s' E' hv hB hG hJ hup D => by obtain ⟨a, b, hq, rfl⟩ := hup; exact step i v a b B' G' m' mu' s' E' hv hq hB hG hJ D) hR hh

theorem Cx.newNotMods (C : Cx B L G m mu s) (W : Wd w B.heap) : (s.heap.objs.size == sysModules) = false := by
  obtain ⟨p, loose, mg, mb, T⟩ := W.T
  have h1 := modules_low T.nolimit
  have h2 := C.ab
  have h3 := C.ltL
  exact beq_eq_false_iff_ne.mpr (Nat.ne_of_gt (Nat.lt_of_lt_of_le h1 (Nat.le_trans h2 (Nat.le_of_lt h3))))

theorem DO.at {d : Addr} {o : Obj} {kvs : List (Int × Value)} {h : Heap} (x : DO w o kvs) (hd : h.get? d = some o) : h.DictOf (intKind pg w) d kvs := Heap.dictOf_iff.mpr ⟨o, hd, x⟩

theorem r_getDict {d : Addr} {o : Obj} {kvs : List (Int × Value)} {k : Int} {t : Tok} {v : Value} {Q : Value → Shared → Prop} (C : Cx B L G m mu s) (hd : s.heap.get? d = some o) (ho : DO w o kvs) (hv : valueAt kvs k = some v)
    (h : ∀ s', Cx B L G m mu s' → Q v s') : wpAny (model pg w) A (getItem (.ref d) (.int k t)) Q E s :=
  wpAny_getItem_of (intKind_is pg w k t) (ho.at hd).mapOf hv (h _ (C.toks _))

theorem r_setDict {d : Addr} {o : Obj} {kvs : List (Int × Value)} {k : Int} {t : Tok} {v : Value} {Q : Unit → Shared → Prop} (C : Cx B L G m ((d, o) :: mu) s) (ho : DO w o kvs) (hz : kvs.length ≤ 1000)
    (h : ∀ o' s', DO w o' (stored kvs k v) → Cx B L G m ((d, o') :: mu) s' → Q () s') : wpAny (model pg w) A (setItem (.ref d) (.int k t) v) Q E s := by
  refine wpAny_setItem_pairs (intKind_is pg w k t) (ho.at (C.getM (i := 0) rfl)) (fun h' hm hs => ?_) (by rw [sizeLine_eq]; omega)
  obtain ⟨o', ho', hd'⟩ := Heap.dictOf_iff.mp hm
  exact h o' _ hd' (C.turnedE (n := s.toks + 1) (fun b ob hb e => (hs.2 b hb).trans e) ho')

theorem r_dict0 {pos : Pos} {Q : Value → Shared → Prop} (C : Cx B L G m mu s) (W : Wd w B.heap) (h : ∀ d o s', (d == sysModules) = false → DO w o [] → Cx B L G m ((d, o) :: mu) s' → Q (.ref d) s') : wpAny (model pg w) A (eval (.Dict [] [] pos) env) Q E s := by
  refine wpAny_Dict_empty (h _ _ _ (C.newNotMods W) ?_ (pushed C { cls := .type "dict", data := .dict #[] } rfl s.toks))
  obtain ⟨o, ho, hd⟩ := Heap.dictOf_iff.mp (Heap.DictOf.new (knd := intKind pg w) s.heap)
  rw [Heap.get?_push_size _ rfl] at ho
  exact (Option.some.inj ho) ▸ hd

theorem r_dict1 {k v : Expr} {pos : Pos} {Q : Value → Shared → Prop} (C : Cx B L G m mu s) (W : Wd w B.heap)
    (h : ∀ d o s1, (d == sysModules) = false → Cx B L G m ((d, o) :: mu) s1 → wpAny (model pg w) A (eval k env) (fun kv s2 => wpAny (model pg w) A (eval v env) (fun vv s3 => ∃ i t G' m' mu', kv = .int i t ∧ Cx B L G' m' ((d, o) :: mu') s3 ∧
      ∀ o' s4, DO w o' [(i, vv)] → Cx B L G' m' ((d, o') :: mu') s4 → Q (.ref d) s4) E s2) E s1) : wpAny (model pg w) A (eval (.Dict [some k] [v] pos) env) Q E s := by
  refine wpAny_Dict_walk (knd := intKind pg w) rfl rfl (by simp) (by simp) ?_
  have C1 := pushed C { cls := .type "dict", data := .dict #[] } rfl s.toks
  have hd0 : Obj.IsDictOf (intKind pg w) { cls := .type "dict", data := .dict #[] } [] := by
    obtain ⟨o, ho, hd⟩ := Heap.dictOf_iff.mp (Heap.DictOf.new (knd := intKind pg w) s.heap)
    rw [Heap.get?_push_size _ rfl] at ho
    exact (Option.some.inj ho) ▸ hd
  refine pairTrees_cons_walk (wpAny_mono (h _ _ _ (C.newNotMods W) C1) (fun kv s2 h2 => wpAny_mono h2 (fun vv s3 h3 => ?_) fun _ _ x => x) fun _ _ x => x)
  refine pairTrees_nil_walk ?_
  obtain ⟨i, t, G', m', mu', rfl, C3, h4⟩ := h3
  refine ⟨[(i, vv)], ⟨intKind_is pg w i t, rfl, trivial⟩, Heap.dictOf_iff.mpr ⟨_, C3.getM (i := 0) rfl, hd0⟩, fun h' hm hs => ?_⟩
  obtain ⟨o', ho', hd'⟩ := Heap.dictOf_iff.mp hm
  exact h4 o' _ hd' (C3.turnedE (n := s3.toks + 1) (fun b ob hb e => (hs.2 b hb).trans e) ho')

theorem r_sortedDict {d : Addr} {o : Obj} {kvs : List (Int × Value)} {Q : Value → Shared → Prop} (C : Cx B L G m mu s) (hh : A.handled = none) (hd : s.heap.get? d = some o) (ho : DO w o kvs) (lo : (d == sysModules) = false) (hz : kvs.length < 64)
    (h : ∀ a o' s' ys, OI o' ys → ys.Perm (kvs.map (·.1)) → ys.Pairwise (· ≤ ·) → Cx B L G m ((a, o') :: mu) s' → Q (.ref a) s') : wpAny (model pg w) A (call (.builtin "sorted") [.ref d]) Q E s := by
  obtain ⟨es, ep, h1, h2, h3, h4, h5⟩ := id ho
  refine sorted_src C (kdl_dict (knd := intKind pg w) (kvs := kvs) (ep := ep) lo) hh ⟨o, es, hd, h1, h2, h3, h4, h5⟩ hz fun vs hl hP => ?_
  refine ⟨kvs.map (·.1), ?_, fun a o' s' ys k1 k2 k3 k4 => h a o' s' ys k1 k2 k3 k4⟩
  have key : ∀ (vs : List Value) (kvs : List (Int × Value)), vs.length = kvs.length → (∀ (j : Nat) (v : Value), vs[j]? = some v → ∃ k x, kvs[j]? = some (k, x) ∧ (intKind pg w).is k v = true) → Paired isI vs (kvs.map (·.1)) := by
    intro vs
    induction vs with
    | nil => intro kvs hl _; cases kvs with
      | nil => exact .nil
      | cons _ _ => cases hl
    | cons v r ih => intro kvs hl hP; cases kvs with
      | nil => cases hl
      | cons kv rk =>
        refine .cons ?_ (ih rk (by simpa using hl) fun j v' e => hP (j + 1) v' (by simpa using e))
        obtain ⟨k, x, e, hk⟩ := hP 0 v rfl
        have e' : kv = (k, x) := by simpa using e
        subst e'
        cases v <;> first
          | exact ⟨_, congrArg (fun j => Value.int j _) (eq_of_beq (a := (_ : Int)) hk)⟩
          | cases hk
  exact key vs kvs hl hP
end
end Mine
namespace Mine
open PySem PySem.W PySem.Calls PyProof.Rows
local macro_rules | `(tactic| tlg_ne) => `(tactic| first | assumption | with_reducible exact upd_eq | ((with_reducible refine upd_ne ?lkh ?_); (case lkh => decide +kernel); tlg_ne))
local macro_rules | `(tactic| ktu_offL) => `(tactic| first | with_reducible assumption | exact Wd.le (by with_reducible assumption) (by with_reducible assumption))
local macro_rules | `(tactic| tb_start) => `(tactic| first
  | with_reducible refine evalPart_none_step ?_
  | with_reducible refine evalPart_some_step ?_
  | ((with_reducible show wpAny _ _ (eval _ _) _ _ _); first
      | ((with_reducible show wpAny _ _ (eval (Expr.Name _ _) _) _ _ _); first
    | (refine' r_loc ?C rfl ?x ?v ?_; (case C => first | with_reducible assumption | assumption); (case x => rfl); (case v => tlg_ne))
    | (refine' r_freeG ?C ?c ?g ?d ?_ rfl ?x; (case C => first | with_reducible assumption | assumption); (case x => first | exact .inl rfl | exact .inr rfl); (case c => exact rfl); (case g => with_reducible assumption); (case d => with_reducible assumption))
    | (refine' r_freeZ ?C ?c ?g ?d ?_ rfl ?x; (case C => first | with_reducible assumption | assumption); (case x => first | exact .inl rfl | exact .inr rfl); (case c => exact rfl); (case g => with_reducible assumption); (case d => with_reducible assumption))
    | (refine' r_gK ?C ?W ?e ?_ rfl rfl ?x; (case C => first | with_reducible assumption | assumption); (case x => rfl); (case W => ktu_offL); (case e => with_reducible first | exact g_Rule _ | exact g_Contexts _ | exact g_lookups_of _ | exact g_next_lookups _ | exact g_reached _ | exact g_depths _ | exact g_on_rings _ | exact g_Lookup _ | exact g_law_draw _ | exact g_law_source _ | exact g_law_lookup _ | exact g_law_goals _ | exact g_law_met _ | exact g_law_right _))
    | (refine' r_gB ?C ?W ?e ?v ?_ rfl rfl rfl ?x; (case C => first | with_reducible assumption | assumption); (case x => rfl); (case W => ktu_offL); (case e => with_reducible first | exact n_len _ | exact n_range _ | exact n_sorted _ | exact n_set _ | exact n_list _ | exact n_max _ | exact n_min _ | exact n_int _ | exact n_tuple _); (case v => with_reducible first | exact b_len | exact b_range | exact b_sorted | exact b_set | exact b_list | exact b_max | exact b_min | exact b_int | exact b_tuple))
    | fail "name")
      | ((with_reducible show wpAny _ _ (eval (Expr.Constant _ _ _) _) _ _ _); first | ((with_reducible refine' r_int ?C ?_); (case C => first | with_reducible assumption | assumption); intro t' s' C') | ((with_reducible refine' r_str ?C ?_); (case C => first | with_reducible assumption | assumption); intro t' s' C') | with_reducible refine Constant_bool ?_ | with_reducible refine Constant_none ?_)
      | with_reducible refine wpAny_BinOp ?_
      | with_reducible refine UnaryOp_ ?_
      | with_reducible refine IfExp_ ?_
      | ((with_reducible show wpAny _ _ (eval (Expr.Compare _ [_] [_] _) _) _ _ _); refine wpAny_Compare1 ?_)
      | with_reducible refine Subscript_ ?_
      | with_reducible refine wpAny_Slice ?_
      | with_reducible refine List_ ?_
      | ((with_reducible show wpAny _ _ (eval (Expr.Call (Expr.Attribute _ _ _) _ _ _) _) _ _ _); refine MethodCall_ ?_)
      | ((with_reducible show wpAny _ _ (eval (Expr.Call _ _ _ _) _) _ _ _); refine Call_ ?_)
      | with_reducible refine Attribute_Name_ ?_)
  | ((with_reducible show wpAny _ _ (execs _ _) _ _ _); first
      | with_reducible refine wpAny_execs_nil ?_
      | with_reducible refine wpAny_execs_cons ?_)
  | ((with_reducible show wpAny _ _ (exec _ _) _ _ _); first
      | with_reducible refine wpAny_Return_some ?_
      | with_reducible refine wpAny_If ?_
      | ((with_reducible show wpAny _ _ (exec (Stmt.Expr _ _) _) _ _ _); refine wpAny_Expr_any ?_)
      | ((with_reducible show wpAny _ _ (exec (Stmt.For _ _ _ _ _) _) _ _ _); refine wpAny_For ?_)
      | ((with_reducible show wpAny _ _ (exec (Stmt.Assign [Expr.Name _ _] _ _) _) _ _ _); refine wpAny_Assign_Name ?_)
      | ((with_reducible show wpAny _ _ (exec (Stmt.Assign [Expr.Subscript _ _ _] _ _) _) _ _ _); refine wpAny_Assign_Subscript ?_)
      | ((with_reducible show wpAny _ _ (exec (Stmt.AugAssign (Expr.Subscript _ _ _) _ _ _) _) _ _ _); refine wpAny_AugAssign_SubscriptAny ?_))
  | ((with_reducible show wpAny _ _ (isTrue _ _ _) _ _ _); first
      | with_reducible refine isTrue_chain ?_
      | ((with_reducible show wpAny _ _ (isTrue (Expr.Compare _ [_] [_] _) _ _) _ _ _); refine wpAny_isTrue_Compare1 ?_)
      | with_reducible refine isTrue_not ?_
      | with_reducible refine isTrue_and_nil ?_
      | with_reducible refine isTrue_or_nil ?_
      | with_reducible refine isTrue_and ?_
      | with_reducible refine isTrue_or ?_
      | refine isTrue_plain ?_)
  | with_reducible refine wpAny_truthy_bool ?_
  | ((with_reducible show wpAny _ _ (callWith _ _ _ _ _) _ _ _); first
      | ((with_reducible show wpAny _ _ (callWith _ (Value.builtin _) [] _ _) _ _ _); refine PyProof.Rows.callWith_builtin1 ?_)
      | ((with_reducible show wpAny _ _ (callWith _ (Value.builtin _) _ (backTo _ (starEach [] _)) _) _ _ _); refine PyProof.Rows.callWith_method0 ?_)
      | ((with_reducible show wpAny _ _ (callWith _ (Value.builtin _) _ (backTo _ (starEach (_ :: _) _)) _) _ _ _); refine PyProof.Rows.callWith_method1 ?_)
      | ((with_reducible show wpAny _ _ (callWith _ (Value.type _) _ _ _) _ _ _); refine PyProof.Rows.callWith_type1 ?_)
      | ((with_reducible show wpAny _ _ (callWith _ (Value.ref _) _ _ _) _ _ _); (refine' callWith_K ?k1 ?k2 ?_; (case k1 => exact inK (by assumption) (by ktu_offL)); (case k2 => kernel_rfl))))
  | ((with_reducible show wpAny _ _ (getMethod _ _ _) _ _ _); first
      | (refine' r_mAppend ?hl ?ho ?_; (case hl => first | exact Cx.getL (by assumption) (by k_mem) | exact Cx.know (by assumption) _ _ (by assumption)); (case ho => assumption); try dsimp only)
      | (refine' r_mPop ?hl ?ho ?_; (case hl => first | exact Cx.getL (by assumption) (by k_mem) | exact Cx.know (by assumption) _ _ (by assumption)); (case ho => assumption); try dsimp only)
      | (refine' r_mExtend ?hl ?ho ?_; (case hl => first | exact Cx.getL (by assumption) (by k_mem) | exact Cx.know (by assumption) _ _ (by assumption)); (case ho => assumption); try dsimp only))
  | ((with_reducible show wpAny _ _ (spliced _) _ _ _); first
      | with_reducible refine args_nil ?_
      | ((with_reducible show wpAny _ _ (spliced (backTo _ (starEach (_ :: _) _))) _ _ _); refine args_cons ?_))
  | ((with_reducible show wpAny _ _ (storeName _ _ _) _ _ _); ((with_reducible refine' r_store ?C ?k ?x ?_); (case C => first | with_reducible assumption | assumption); (case k => rfl); (case x => rfl); intro s' C'))
  | ((with_reducible show wpAny _ _ (binaryOp _ _ _) _ _ _); first
      | ((with_reducible refine' r_add ?C ?_); (case C => first | with_reducible assumption | assumption); intro t' s' C')
      | ((with_reducible refine' r_neg ?C ?_); (case C => first | with_reducible assumption | assumption); intro t' s' C'))
  | ((with_reducible show wpAny _ _ (inplaceOp _ _ _) _ _ _); first
      | ((with_reducible refine' r_iadd ?C ?_); (case C => first | with_reducible assumption | assumption); intro t' s' C')
      | ((with_reducible refine' r_isub ?C ?_); (case C => first | with_reducible assumption | assumption); intro t' s' C'))
  | ((with_reducible show wpAny _ _ (unaryOp _ _) _ _ _); first
      | ((with_reducible refine' r_neg ?C ?_); (case C => first | with_reducible assumption | assumption); intro t' s' C'))
  | ((with_reducible show wpAny _ _ (compareOp _ _ _) _ _ _); first
      | with_reducible refine eq_int ?_
      | with_reducible refine lt_int ?_
      | with_reducible refine gt_int ?_
      | with_reducible refine le_int ?_
      | with_reducible refine ge_int ?_
      | with_reducible refine ne_int ?_)
  | ((with_reducible show wpAny _ _ (testChain _ _ _ _) _ _ _); first
      | with_reducible refine test_link ?_
      | refine test_last ?_)
  | ((with_reducible show Frag.In _ _ ∧ _); refine ⟨inK (by assumption) (by ktu_offL), ?_⟩))
local macro_rules | `(tactic| tb_rel) => `(tactic| repeat (tb_start; try dsimp only [List.nil_append, List.cons_append]))
section
set_option maxHeartbeats 4000000
variable {w : World} {A : Around} {E : Value → Shared → Prop} {B : Pin} {L : Addr} {G : Kn} {m : Str → Option Value} {mu : Mu} {s : Shared} {env : Env}
abbrev m00 : Str → Option Value := fun _ => none
theorem sp_goals {a : Addr} {k : Int} {t : Tok} {steps : List (List Int)} {row : List Int} {Q : Value → Shared → Prop} (C : Cx B L G m mu s) (W : Wd w B.heap) (hA : AOk A 1) (hr : Rows G a steps) (h0 : 0 ≤ k) (hrow : steps[k.toNat]? = some row)
    (hz : steps.length ≤ 1000) (hzr : row.length ≤ 1000) (h : ∀ r o s', OI o (row.filter fun g => decide (g < steps.length)) → Cx B L G m ((r, o) :: mu) s' → Q (.ref r) s') : wpAny (model pg w) A (call (.ref 178) [.ref a, .int k t]) Q E s := by
  refine call_fn (binds := [(Str.ofString "steps", .ref a), (Str.ofString "number", .int k t)]) (m0 := fun _ => upd m00 (Str.ofString "number") (.int k t)) C W (by with_unfolding_all rfl) (by kernel_rfl) (by have := hA.dp; omega) (by with_unfolding_all rfl) (by with_unfolding_all rfl) (by decide +kernel) (fun L' => rfl) ?_ (by rfl) (by rfl) (by rfl)
  intro B' L' cells s' E' hB hY C'
  obtain ⟨oc, rfl, hoc⟩ := CellsAre.one hY
  replace hoc : oc.data = .cell (some (.ref a)) := hoc
  obtain ⟨G1, hG1, hc, C1⟩ := C'.freeze (i := 0) rfl
  clear hY C'
  tb_rel
  refine r_comp (cl := [(Str.ofString "steps", L' + 1)]) (by rfl) rfl (by decide +kernel) ?_
  tb_rel
  refine r_row C1 (hr.mono hG1) h0 hrow (by omega) fun ad hrow' => ?_
  obtain ⟨orow, hg, hrow''⟩ := hrow'
  refine compL (Rv := isI) C1 hg hrow'' (by omega) (fun i _ mu' ys => mu' = mu ∧ ys = (row.take i).filter fun g => decide (g < (steps.length : Int))) ⟨rfl, by simp⟩ ?_ ?_ hA.hh rfl (by decide +kernel) rfl
  · intro Cc i v x hi hv B2 G2 mc mu2 ys s2 E2 hB2 hG2 hJ hm C2
    obtain ⟨t2, rfl⟩ := hv
    obtain ⟨rfl, rfl⟩ := hJ
    have W2 := W.le (hB.trans hB2)
    have hc2 := hG2 _ _ hc
    refine tests_one ?_
    tb_rel
    refine r_lenRows C2 (hr.mono (hG1.trans hG2)) (by omega) fun t3 s3 C3 => ?_
    tb_rel
    split
    · rename_i hlt
      tb_rel
      exact ⟨x, G2, mc, mu2, ⟨t2, rfl⟩, Le.rfl', ⟨rfl, by rw [List.take_add_one, hi]; simp at hlt; simp [List.filter_append, hlt]⟩, C3⟩
    · rename_i hlt
      exact ⟨G2, mc, mu2, Le.rfl', ⟨rfl, by rw [List.take_add_one, hi]; simp at hlt; simp [List.filter_append, hlt]⟩, C3⟩
  · intro G2 mu2 ys D oD Cc oC mC s2 hG2 hJ hys C2 hN
    obtain ⟨rfl, rfl⟩ := hJ
    refine post_none C2 hN fun s3 C3 => ?_
    refine ⟨G2, _, _, C3, fun C4 => ?_⟩
    exact h D oD _ (by simpa using hys) (C4.weakG (hG1.trans hG2) C.bG)
end
section
set_option maxHeartbeats 4000000
variable {w : World} {A : Around} {E : Value → Shared → Prop} {B : Pin} {L : Addr} {G : Kn} {m : Str → Option Value} {mu : Mu} {s : Shared} {env : Env}
theorem r_mul {a b : Int} {t u : Tok} {Q : Value → Shared → Prop} (C : Cx B L G m mu s) (hb : IntMulOk a b) (h : ∀ t s', Cx B L G m mu s' → Q (.int (a * b) t) s') : wpAny (model pg w) A (binaryOp .Mult (.int a t) (.int b u)) Q E s := PyProof.Rows.mul_int (h _ _ (C.toks _)) hb
theorem r_fdiv {a b : Int} {t u : Tok} {Q : Value → Shared → Prop} (C : Cx B L G m mu s) (hb : b ≠ 0) (hs : b.natAbs < 1073741824) (h : ∀ t s', Cx B L G m mu s' → Q (.int (a.fdiv b) t) s') : wpAny (model pg w) A (binaryOp .FloorDiv (.int a t) (.int b u)) Q E s :=
  PyProof.Rows.floordiv_int hb (h _ _ (C.toks _)) (.inl (PyProof.noPylong_small hs))
/-- a source: its cells, its place -/
def SrcO (o : Obj) (c : Addr) (at' : Int) : Prop := ∃ t, OV Eq o [.ref c, .int at' t]

theorem sp_draw {a c : Addr} {i : Nat} {o : Obj} {at' lim : Int} {t : Tok} {cells : List Int} {Q : Value → Shared → Prop} (C : Cx B L G m mu s) (W : Wd w B.heap) (hA : AOk A 1) (hi : mu[i]? = some (a, o)) (ho : SrcO o c at') (hc : isRow G c cells) (hne : cells ≠ []) (hz : cells.length ≤ 1000)
    (h0 : 0 ≤ at') (hat : at' ≤ 1000) (hl : 0 < lim)
    (h : ∀ k t o' s', 0 ≤ k → k < lim → SrcO o' c (at' + 1) → Cx B L G m (mu.set i (a, o')) s' → Q (.int k t) s') : wpAny (model pg w) A (call (.ref 163) [.ref a, .int lim t]) Q E s := by
  refine call_fn (binds := [(Str.ofString "source", .ref a), (Str.ofString "limit", .int lim t)]) (m0 := fun _ => upd (upd m00 (Str.ofString "source") (.ref a)) (Str.ofString "limit") (.int lim t)) C W (by with_unfolding_all rfl) (by kernel_rfl) (by have := hA.dp; omega) (by with_unfolding_all rfl) (by with_unfolding_all rfl) (by decide +kernel) (fun L' => rfl) ?_ (by rfl) (by rfl) (by rfl)
  intro B' L' cs s' E' hB hY C'
  cases hY
  replace C' : Cx B' L' G (upd (upd m00 (Str.ofString "source") (.ref a)) (Str.ofString "limit") (.int lim t)) mu s' := C'
  have W' := W.le hB
  obtain ⟨ta, ho⟩ := ho
  obtain ⟨oc, hgc, hoc⟩ := hc
  have hlen : 0 < cells.length := by cases cells with
    | nil => exact absurd rfl hne
    | cons _ _ => simp
  tb_rel
  refine r_item (Cx.getM (by assumption) hi) ho (by decide) rfl (by simp) fun v hv => ?_
  subst hv
  tb_rel
  refine r_item (Cx.getM (by assumption) hi) ho (by decide) rfl (by simp) fun v hv => ?_
  subst hv
  tb_rel
  refine r_setItem (by assumption) hi ho (x := .int (at' + 1) _) rfl (by decide) (by simp) (by simp) fun o' s3 ho' C3 => ?_
  tb_rel
  refine r_len (by assumption) (Cx.know (by assumption) _ _ hgc) hoc (by omega) fun t4 s4 C4 => ?_
  tb_rel
  refine r_mod C4 (by omega) fun t5 s5 C5 => ?_
  have hfm : at'.fmod cells.length = at' % cells.length := Int.fmod_eq_emod_of_nonneg _ (by omega)
  have hlo := Int.emod_nonneg at' (show (cells.length : Int) ≠ 0 by omega)
  have hhi := Int.emod_lt_of_pos at' (show (0 : Int) < cells.length by omega)
  obtain ⟨x, hx⟩ : ∃ x, cells[(at'.fmod cells.length).toNat]? = some x := ⟨cells[(at'.fmod cells.length).toNat]'(by rw [hfm]; omega), List.getElem?_eq_getElem _⟩
  tb_rel
  refine r_item (Cx.know (by assumption) _ _ hgc) hoc (by omega) hx (by omega) fun v hv => ?_
  obtain ⟨tx, rfl⟩ := hv
  tb_rel
  refine r_len (by assumption) (Cx.know (by assumption) _ _ hgc) hoc (by omega) fun t6 s6 C6 => ?_
  tb_rel
  refine r_fdiv C6 (by omega) (by omega) fun t7 s7 C7 => ?_
  tb_rel
  refine r_mul C7 (IntMulOk.of_left (by decide +kernel)) fun t8 s8 C8 => ?_
  tb_rel
  refine r_mod (by assumption) (by omega) fun t9 s9 C9 => ?_
  refine ⟨G, _, _, C9, fun C10 => ?_⟩
  have hfm2 : ∀ z : Int, z.fmod lim = z % lim := fun z => Int.fmod_eq_emod_of_nonneg _ (by omega)
  rw [hfm2]
  exact h _ _ o' _ (Int.emod_nonneg _ (by omega)) (Int.emod_lt_of_pos _ hl) ⟨_, ho'⟩ C10
end
theorem snoc_cases {α : Type} (l : List α) : l = [] ∨ ∃ l' x, l = l' ++ [x] := by
  rcases List.eq_nil_or_concat l with h | ⟨l', x, h⟩
  · exact .inl h
  · exact .inr ⟨l', x, by simpa using h⟩
theorem i0 {α : Type} {p : α} {l : List α} : (p :: l)[0]? = some p := rfl
theorem i1 {α : Type} {p q : α} {l : List α} : (q :: p :: l)[1]? = some p := rfl
theorem i2 {α : Type} {p q r : α} {l : List α} : (r :: q :: p :: l)[2]? = some p := rfl
theorem i3 {α : Type} {p q r u : α} {l : List α} : (u :: r :: q :: p :: l)[3]? = some p := rfl
theorem i4 {α : Type} {p q r u v : α} {l : List α} : (v :: u :: r :: q :: p :: l)[4]? = some p := rfl
section
set_option maxHeartbeats 4000000
variable {w : World} {A : Around} {E : Value → Shared → Prop} {B : Pin} {L : Addr} {G : Kn} {m : Str → Option Value} {mu : Mu} {s : Shared} {env : Env}
theorem sp_met {a : Addr} {k : Int} {t : Tok} {steps : Rws} {Q : Value → Shared → Prop} (C : Cx B L G m mu s) (W : Wd w B.heap) (hA : AOk A 2) (hr : Rows G a steps) (S : Small steps) (hk : InR steps k)
    (h : ∀ r o s' l, OI o l → (∀ v, v ∈ l ↔ Reach steps k v) → l.length ≤ 7 → Cx B L G m ((r, o) :: mu) s' → Q (.ref r) s') : wpAny (model pg w) A (call (.ref 185) [.ref a, .int k t]) Q E s := by
  refine call_fn (binds := [(Str.ofString "steps", .ref a), (Str.ofString "begin", .int k t)]) (m0 := fun _ => upd (upd m00 (Str.ofString "steps") (.ref a)) (Str.ofString "begin") (.int k t)) C W (by with_unfolding_all rfl) (by kernel_rfl) (by have := hA.dp; omega) (by with_unfolding_all rfl) (by with_unfolding_all rfl) (by decide +kernel) (fun L' => rfl) ?_ (by rfl) (by rfl) (by rfl)
  intro B' L' cs s' E' hB hY C'
  cases hY
  replace C' : Cx B' L' G (upd (upd m00 (Str.ofString "steps") (.ref a)) (Str.ofString "begin") (.int k t)) mu s' := C'
  have W' := W.le hB
  have hlen := S.len
  tb_rel
  refine r_newList (R := isI) (xs := [k]) (by assumption) (.cons ⟨_, rfl⟩ .nil) (by simp) fun M oM s1 hM C1 => ?_
  tb_rel
  refine r_newList (R := isI) (xs := [k]) (by assumption) (.cons ⟨_, rfl⟩ .nil) (by simp) fun W oW s2 hW C2 => ?_
  tb_rel
  refine r_while (fun n s => ∃ G' m' oM oW met wait, Cx B' L' G' m' ((W, oW) :: (M, oM) :: mu) s ∧ Le G G' ∧ n = wait.length + 2 * (steps.length - met.length) ∧ wait.length ≤ 100 + 2 * met.length ∧ OI oM met ∧ OI oW wait ∧ MInv steps k met wait none [] ∧ m' (Str.ofString "steps") = some (.ref a) ∧ m' (Str.ofString "met") = some (.ref M) ∧ m' (Str.ofString "waiting") = some (.ref W)) _ ⟨G, _, oM, oW, [k], [k], by assumption, Le.rfl', rfl, by simp, hM, hW, MInv.start hk, by tlg_ne, by tlg_ne, by tlg_ne⟩ ?_
  rintro n s3 E3 ⟨G3, m3, oM3, oW3, met, wait, C3, hG3, rfl, hwl, hM3, hW3, I, n1, n2, n3⟩
  have hml := I.len
  tb_rel
  refine r_truthy C3 (C3.getL (by k_mem)) hW3 (by omega) fun s4 C4 => ?_
  rcases snoc_cases wait with rfl | ⟨wait', x, rfl⟩
  · rw [if_neg (by simp)]
    try dsimp only
    tb_rel
    refine ⟨G3, m3, _, C4, fun C5 => ?_⟩
    exact h M oM3 _ met hM3 (I.fin S) (by omega) ((C5.weakG hG3 C.bG).drop (List.sublist_cons_self _ _))
  · rw [if_pos (by simp)]
    have I' := I.pop
    have hx := I.inr x (I.sub x (by simp))
    have W3 := W'
    tb_rel
    refine r_pop (by assumption) i0 hW3 (by simp at hwl; omega) fun v oW5 s5 hv hW5 C5 => ?_
    obtain ⟨tv, rfl⟩ := hv
    simp only [List.set_cons_zero] at C5
    tb_rel
    refine sp_goals (by assumption) W' hA.deeper (hr.mono hG3) hx.1 (getElem?_rowOf hx) (by omega) (by have := S.rowLen x; omega) fun r o6 s6 ho6 C6 => ?_
    have hml2 := I.len
    refine r_forNew C6 ho6 (fun i _ m' mu' => ∃ oM oW met2 wait2, mu' = (W, oW) :: (M, oM) :: mu ∧ OI oM met2 ∧ OI oW wait2 ∧ MInv steps k met2 wait2 (some x) ((goalsOf steps x).take i) ∧ wait2.length + met.length = wait'.length + met2.length ∧ met.length ≤ met2.length ∧
        m' (Str.ofString "steps") = some (.ref a) ∧ m' (Str.ofString "met") = some (.ref M) ∧ m' (Str.ofString "waiting") = some (.ref W)) ?_ ?_ ?_ hA.hh rfl rfl
    · intro G7 _
      exact ⟨oM3, oW5, met, wait', rfl, hM3, hW5, by simpa using I', rfl, Nat.le_refl _, by tlg_ne, by tlg_ne, by tlg_ne⟩
    · rintro i v g B7 G7 m7 mu7 s7 E7 hi hv hB7 hG7 ⟨oM7, oW7, met7, wait7, rfl, hM7, hW7, I7, e7, l7, n1, n2, n3⟩ C7
      obtain ⟨t7, rfl⟩ := hv
      have hml7 := I7.len
      have htk : (goalsOf steps x).take (i + 1) = (goalsOf steps x).take i ++ [g] := by
        have e : (goalsOf steps x)[i]? = some g := hi
        rw [List.take_add_one, e]; rfl
      tb_rel
      refine r_notIn (C7.getL (by k_mem)) hM7 ?_
      tb_rel
      by_cases hg : g ∈ met7
      · rw [if_neg (by simp [hg])]
        tb_rel
        exact ⟨G7, _, _, Le.rfl', ⟨oM7, oW7, met7, wait7, rfl, hM7, hW7, by rw [htk]; exact I7.old hg, e7, l7, by tlg_ne, by tlg_ne, by tlg_ne⟩, C7⟩
      · rw [if_pos (by simp [hg])]
        tb_rel
        refine r_append (by assumption) i1 hM7 ⟨t7, rfl⟩ (by omega) fun oM8 s8 hM8 C8 => ?_
        simp only [List.set_cons_succ, List.set_cons_zero] at C8
        tb_rel
        refine r_append (by assumption) i0 hW7 ⟨t7, rfl⟩ (by simp at hwl; omega) fun oW9 s9 hW9 C9 => ?_
        simp only [List.set_cons_succ, List.set_cons_zero] at C9
        tb_rel
        exact ⟨G7, _, _, Le.rfl', ⟨oM8, oW9, met7 ++ [g], wait7 ++ [g], rfl, hM8, hW9, by rw [htk]; exact I7.new S hg (List.mem_of_getElem? hi), by simp; omega, by simp; omega, by tlg_ne, by tlg_ne, by tlg_ne⟩, C9⟩
    · rintro G7 m7 mu7 s7 hG7 ⟨oM7, oW7, met7, wait7, rfl, hM7, hW7, I7, e7, l7, n1, n2, n3⟩ C7
      have e : (goalsOf steps x).take (List.filter (fun g => decide (g < ↑steps.length)) (rowOf steps x)).length = goalsOf steps x := List.take_length
      rw [e] at I7
      have hml7 := I7.len
      try dsimp only
      tb_rel
      exact ⟨_, by simp; omega, G7, m7, oM7, oW7, met7, wait7, C7, hG3.trans hG7, rfl, by simp at hwl; omega, hM7, hW7, I7.turn, n1, n2, n3⟩
end
def Knows (G : Kn) (mu : Mu) (a : Addr) (o : Obj) : Prop := G a = some o ∨ (a, o) ∈ mu
section
set_option maxHeartbeats 4000000
variable {w : World} {A : Around} {E : Value → Shared → Prop} {B : Pin} {L : Addr} {G : Kn} {m : Str → Option Value} {mu : Mu} {s : Shared} {env : Env}
theorem Cx.getK (C : Cx B L G m mu s) {a : Addr} {o : Obj} (h : Knows G mu a o) : s.heap.get? a = some o := by
  rcases h with h | h
  · exact C.know _ _ h
  · exact C.getL h

theorem sp_reached {a sd : Addr} {osd : Obj} {steps : Rws} {seeds : List Int} {Q : Value → Shared → Prop} (C : Cx B L G m mu s) (W : Wd w B.heap) (hA : AOk A 1) (hr : Rows G a steps) (S : Small steps) (hsd : Knows G mu sd osd) (hos : OI osd seeds) (hsl : seeds.length ≤ 100)
    (h : ∀ r o s' f, OI o (picks steps.length f) → (∀ k : Nat, k < steps.length → (f k = true ↔ From steps seeds k)) → Cx B L G m ((r, o) :: mu) s' → Q (.ref r) s') : wpAny (model pg w) A (call (.ref 118) [.ref a, .ref sd]) Q E s := by
  refine call_fn (binds := [(Str.ofString "steps", .ref a), (Str.ofString "seeds", .ref sd)]) (m0 := fun _ => upd (upd m00 (Str.ofString "steps") (.ref a)) (Str.ofString "seeds") (.ref sd)) C W (by with_unfolding_all rfl) (by kernel_rfl) (by have := hA.dp; omega) (by with_unfolding_all rfl) (by with_unfolding_all rfl) (by decide +kernel) (fun L' => rfl) ?_ (by rfl) (by rfl) (by rfl)
  intro B' L' cells s' E' hB hY C'
  obtain ⟨oc, rfl, hoc⟩ := CellsAre.one hY
  replace hoc : oc.data = .cell none := hoc
  replace C' : Cx B' L' G (upd (upd m00 (Str.ofString "steps") (.ref a)) (Str.ofString "seeds") (.ref sd)) ((L' + 1, oc) :: mu) s' := C'
  clear hY
  have W' := W.le hB
  have hlen := S.len
  tb_rel
  refine r_newList (R := isB) (xs := [false]) (by assumption) (.cons rfl .nil) (by simp) fun F oF s1 hF C1 => ?_
  tb_rel
  refine r_lenRows (by assumption) hr (by omega) fun t2 s2 C2 => ?_
  tb_rel
  refine r_mulList (v := .none) C2 (C2.getL (by k_mem)) hF (by omega) (by omega) fun Sd oS s3 hS C3 => ?_
  tb_rel
  refine r_storeC (i := 2) C3 rfl rfl rfl rfl hoc fun s4 G4 oc4 hG4 hc4 hd4 C4 => ?_
  simp only [List.eraseIdx_cons_succ, List.eraseIdx_cons_zero] at C4
  tb_rel
  have hsd' : Knows G4 ((Sd, oS) :: (F, oF) :: mu) sd osd := hsd.elim (fun e => .inl (hG4 _ _ e)) fun e => .inr (by simp [e])
  refine r_copy (by assumption) (Cx.getK (by assumption) hsd') hos (by omega) fun Wt oW s5 hW C5 => ?_
  tb_rel
  have hseen : OB oS (List.replicate steps.length false) := by simpa using hS
  refine r_while (fun n s => ∃ G' m' oS oW seen wait, Cx B' L' G' m' ((Wt, oW) :: (Sd, oS) :: (F, oF) :: mu) s ∧ Le G4 G' ∧ n = rms seen wait ∧ rms seen wait ≤ 200 ∧ OB oS seen ∧ OI oW wait ∧ RInv steps seeds seen wait ∧ m' (Str.ofString "steps") = some (.ref a) ∧ m' (Str.ofString "waiting") = some (.ref Wt)) _
    ⟨G4, _, oS, oW, List.replicate steps.length false, seeds, by assumption, Le.rfl', rfl, ?_, hseen, hW, RInv.start steps seeds, by tlg_ne, by tlg_ne⟩ ?_
  · unfold rms; rw [List.count_replicate]; simp; omega
  rintro n s6 E6 ⟨G6, m6, oS6, oW6, seen, wait, C6, hG6, rfl, hrm, hS6, hW6, I, n1, n2⟩
  have hwl : wait.length ≤ 200 := by unfold rms at hrm; omega
  have hc6 := hG6 _ _ hc4
  have hr6 := hr.mono (hG4.trans hG6)
  have hsl6 := I.len
  tb_rel
  refine r_truthy C6 (C6.getL (by k_mem)) hW6 (by omega) fun s7 C7 => ?_
  rcases snoc_cases wait with rfl | ⟨wait', x, rfl⟩
  · rw [if_neg (by simp)]
    try dsimp only
    tb_rel
    refine r_comp (cl := [(Str.ofString "is_seen", L' + 1)]) (by rfl) rfl (by decide +kernel) ?_
    tb_rel
    refine r_lenRows (by assumption) hr6 (by omega) fun t8 s8 C8 => ?_
    tb_rel
    refine r_range1 C8 fun rg org s9 hrg C9 => ?_
    refine compR (Rv := isI) C9 hrg (by omega) (by omega) (fun i _ mu' ys => mu' = (Wt, oW6) :: (Sd, oS6) :: (F, oF) :: mu ∧ ys = picks i fun k => seen.getD k false) ⟨rfl, rfl⟩ ?_ ?_ hA.hh rfl (by decide +kernel) rfl
    · rintro Cc i ti hi B10 G10 mc mu10 ys s10 E10 hB10 hG10 ⟨rfl, rfl⟩ hm C10
      have W10 := W'.le hB10
      have hc10 := hG10 _ _ hc6
      refine tests_one ?_
      obtain ⟨b, hb⟩ : ∃ b, seen[(i : Int).toNat]? = some b := ⟨seen[(i : Int).toNat]'(by omega), List.getElem?_eq_getElem _⟩
      have hgd : seen.getD i false = b := by
        have : seen[i]? = some b := by simpa using hb
        rw [List.getD_eq_getElem?_getD, this]; rfl
      tb_rel
      refine r_item (C10.getL (by k_mem)) hS6 (by omega) hb (by omega) fun v hv => ?_
      rw [show v = .bool b from hv]
      tb_rel
      cases b with
      | true =>
        rw [if_pos rfl]
        tb_rel
        exact ⟨(i : Int), G10, mc, _, ⟨ti, rfl⟩, Le.rfl', ⟨rfl, by rw [picks_succ, hgd]; rfl⟩, C10⟩
      | false =>
        rw [if_neg (by simp)]
        exact ⟨G10, mc, _, Le.rfl', ⟨rfl, by rw [picks_succ, hgd]; simp⟩, C10⟩
    · rintro G10 mu10 ys D oD Cc oC mC s10 hG10 ⟨rfl, rfl⟩ hys C10 hN
      refine post_none C10 hN fun s11 C11 => ?_
      refine ⟨G10, m6, _, C11, fun C12 => ?_⟩
      refine h D oD _ (fun k => seen.getD k false) (by simpa using hys) (fun k hk => ?_) ((C12.weakG (((hG4.trans hG6)).trans hG10) C.bG).drop (by repeat (first | exact List.Sublist.refl _ | apply List.Sublist.cons_cons | apply List.Sublist.cons)))
      rw [← I.fin k, List.getD_eq_getElem?_getD]
      obtain ⟨b, hb⟩ : ∃ b, seen[k]? = some b := ⟨seen[k]'(by omega), List.getElem?_eq_getElem _⟩
      rw [hb]; simp
  · rw [if_pos (by simp)]
    have skip : ∀ s (m' : Str → Option Value) oW', Cx B' L' G6 m' ((Wt, oW') :: (Sd, oS6) :: (F, oF) :: mu) s → OI oW' wait' → (InR steps x → seen[x.toNat]? = some true) → m' (Str.ofString "steps") = some (.ref a) → m' (Str.ofString "waiting") = some (.ref Wt) →
        ∃ k, k < rms seen (wait' ++ [x]) ∧ ∃ G' m' oS oW seen wait, Cx B' L' G' m' ((Wt, oW) :: (Sd, oS) :: (F, oF) :: mu) s ∧ Le G4 G' ∧ k = rms seen wait ∧ rms seen wait ≤ 200 ∧ OB oS seen ∧ OI oW wait ∧ RInv steps seeds seen wait ∧ m' (Str.ofString "steps") = some (.ref a) ∧ m' (Str.ofString "waiting") = some (.ref Wt) :=
      fun s m' oW' C hW hin n1 n2 => ⟨rms seen wait', rms_skip, G6, m', oS6, oW', seen, wait', C, hG6, rfl, by have := rms_skip (seen := seen) (wait := wait') (x := x); omega, hS6, hW, I.skip hin, n1, n2⟩
    tb_rel
    refine r_pop (by assumption) i0 hW6 (by simp at hwl; omega) fun v oW8 s8 hv hW8 C8 => ?_
    obtain ⟨tv, rfl⟩ := hv
    simp only [List.set_cons_zero] at C8
    tb_rel
    by_cases hx0 : (0 : Int) ≤ x
    · rw [if_pos (by simpa using hx0)]
      tb_rel
      refine r_lenRows (by assumption) hr6 (by omega) fun t9 s9 C9 => ?_
      tb_rel
      by_cases hx1 : x < (steps.length : Int)
      · rw [if_pos (by simpa using hx1)]
        have hin : InR steps x := ⟨hx0, hx1⟩
        obtain ⟨b, hb⟩ : ∃ b, seen[x.toNat]? = some b := ⟨seen[x.toNat]'(by omega), List.getElem?_eq_getElem _⟩
        tb_rel
        refine r_item (Cx.getL (by assumption) (by k_mem)) hS6 hx0 hb (by omega) fun v hv => ?_
        rw [show v = .bool b from hv]
        tb_rel
        cases b with
        | true =>
          rw [if_neg (by simp)]
          rw [if_neg (by simp)]
          tb_rel
          exact skip _ _ _ C9 hW8 (fun _ => hb) (by tlg_ne) (by tlg_ne)
        | false =>
          rw [if_pos (by simp)]
          tb_rel
          rw [if_pos (by simp)]
          tb_rel
          refine r_setItem (x := true) (by assumption) i1 hS6 rfl hx0 (by omega) (by omega) fun oS10 s10 hS10 C10 => ?_
          simp only [List.set_cons_succ, List.set_cons_zero] at C10
          tb_rel
          refine r_row (by assumption) hr6 hx0 (getElem?_rowOf hin) (by omega) fun ad hrow => ?_
          obtain ⟨orow, hg, hrow'⟩ := hrow
          tb_rel
          refine r_extend (by assumption) i0 hW8 (Cx.know (by assumption) _ _ hg) hrow' (by have := S.rowLen x; simp at hwl; omega) fun oW11 s11 hW11 C11 => ?_
          simp only [List.set_cons_zero] at C11
          tb_rel
          have hms := rms_take S (wait := wait') hb
          exact ⟨_, hms, G6, _, oS10, oW11, _, _, C11, hG6, rfl, by omega, hS10, hW11, I.take hin, by tlg_ne, by tlg_ne⟩
      · rw [if_neg (by simpa using hx1)]
        rw [if_neg (by simp)]
        tb_rel
        exact skip _ _ _ C9 hW8 (fun q => absurd q.2 hx1) (by tlg_ne) (by tlg_ne)
    · rw [if_neg (by simpa using hx0)]
      rw [if_neg (by simp)]
      rw [if_neg (by simp)]
      tb_rel
      exact skip _ _ _ (by assumption) hW8 (fun q => absurd q.1 hx0) (by tlg_ne) (by tlg_ne)
end
/-! what holds at a loop's turns, each said once -/
def J1 (steps : Rws) (mu : Mu) (asS : List Addr) (Lf SR a : Addr) (oS : Obj) (i : Nat) (m' : Str → Option Value) (mu' : Mu) : Prop :=
  ∃ oL left rows rs', mu' = (Lf, oL) :: (SR, oS) :: (rs' ++ mu) ∧ OI oL left ∧ RowsM rs' asS rows ∧ PI steps i [] left rows ∧ m' (Str.ofString "steps") = some (.ref a) ∧ m' (Str.ofString "sources") = some (.ref SR)
theorem J1.elim {steps : Rws} {mu : Mu} {asS : List Addr} {Lf SR a : Addr} {oS : Obj} {i : Nat} {m' : Str → Option Value} {mu' : Mu} {P : Prop} (h : J1 steps mu asS Lf SR a oS i m' mu')
    (k : ∀ oL left rows rs', OI oL left → RowsM rs' asS rows → PI steps i [] left rows → m' (Str.ofString "steps") = some (.ref a) → m' (Str.ofString "sources") = some (.ref SR) → mu' = (Lf, oL) :: (SR, oS) :: (rs' ++ mu) → P) : P := by
  obtain ⟨_, _, _, _, e, h1, h2, h3, h4, h5⟩ := h
  exact k _ _ _ _ h1 h2 h3 h4 h5 e
def J2 (steps : Rws) (mu : Mu) (asS : List Addr) (as11 Lf SR a : Addr) (oS : Obj) (i : Nat) (ti : Tok) (done : List Int) (m' : Str → Option Value) (mu' : Mu) : Prop :=
  ∃ oL left rows rs' ks, mu' = (as11, ks) :: (Lf, oL) :: (SR, oS) :: (rs' ++ mu) ∧ OI oL left ∧ RowsM rs' asS rows ∧ PI steps i done left rows ∧ m' (Str.ofString "steps") = some (.ref a) ∧ m' (Str.ofString "sources") = some (.ref SR) ∧ m' (Str.ofString "number") = some (.int i ti)
theorem J2.elim {steps : Rws} {mu : Mu} {asS : List Addr} {as11 Lf SR a : Addr} {oS : Obj} {i : Nat} {ti : Tok} {done : List Int} {m' : Str → Option Value} {mu' : Mu} {P : Prop} (h : J2 steps mu asS as11 Lf SR a oS i ti done m' mu')
    (k : ∀ oL left rows rs' ks, OI oL left → RowsM rs' asS rows → PI steps i done left rows → m' (Str.ofString "steps") = some (.ref a) → m' (Str.ofString "sources") = some (.ref SR) → m' (Str.ofString "number") = some (.int i ti) → mu' = (as11, ks) :: (Lf, oL) :: (SR, oS) :: (rs' ++ mu) → P) : P := by
  obtain ⟨_, _, _, _, _, e, h1, h2, h3, h4, h5, h6⟩ := h
  exact k _ _ _ _ _ h1 h2 h3 h4 h5 h6 e
structure Nm (a SR Mo Fd Rd : Addr) (m' : Str → Option Value) : Prop where
  n1 : m' (Str.ofString "steps") = some (.ref a)
  n2 : m' (Str.ofString "sources") = some (.ref SR)
  n3 : m' (Str.ofString "most") = some (.ref Mo)
  n4 : m' (Str.ofString "found") = some (.ref Fd)
  n5 : m' (Str.ofString "ready") = some (.ref Rd)
def J3 (steps : Rws) (mu : Mu) (a SR Rd Fd Mo Lf : Addr) (B' : Pin) (L' : Addr) (G22 : Kn) (n : Nat) (s : Shared) : Prop :=
  ∃ G' m' oR oF oM oL found most left ready u, Cx B' L' G' m' ((Rd, oR) :: (Fd, oF) :: (Mo, oM) :: (Lf, oL) :: mu) s ∧ Le G22 G' ∧ n = nneg steps found ∧ OI oR ready ∧ OI oF found ∧ OI oM most ∧ OI oL left ∧ KI steps found most left ready u [] ∧ Nm a SR Mo Fd Rd m'
theorem J3.elim {steps : Rws} {mu : Mu} {a SR Rd Fd Mo Lf : Addr} {B' : Pin} {L' : Addr} {G22 : Kn} {n : Nat} {s : Shared} {P : Prop} (h : J3 steps mu a SR Rd Fd Mo Lf B' L' G22 n s)
    (k : ∀ G' m' oR oF oM oL found most left ready u, Cx B' L' G' m' ((Rd, oR) :: (Fd, oF) :: (Mo, oM) :: (Lf, oL) :: mu) s → Le G22 G' → OI oR ready → OI oF found → OI oM most → OI oL left → KI steps found most left ready u [] →
      m' (Str.ofString "steps") = some (.ref a) → m' (Str.ofString "sources") = some (.ref SR) → m' (Str.ofString "most") = some (.ref Mo) → m' (Str.ofString "found") = some (.ref Fd) → m' (Str.ofString "ready") = some (.ref Rd) → n = nneg steps found → P) : P := by
  obtain ⟨_, _, _, _, _, _, _, _, _, _, _, h1, h2, e, h3, h4, h5, h6, h7, h8⟩ := h
  exact k _ _ _ _ _ _ _ _ _ _ _ h1 h2 h3 h4 h5 h6 h7 h8.n1 h8.n2 h8.n3 h8.n4 h8.n5 e
def J4 (steps : Rws) (mu : Mu) (a SR Rd Fd Mo Lf : Addr) (oF27 : Obj) (found : List Int) (x : Int) (tx : Tok) (todo : List Int) (m' : Str → Option Value) (mu' : Mu) : Prop :=
  ∃ oR oM oL most' left' rd, mu' = (Rd, oR) :: (Fd, oF27) :: (Mo, oM) :: (Lf, oL) :: mu ∧ OI oR rd ∧ OI oM most' ∧ OI oL left' ∧ KI steps found most' left' rd x.toNat todo ∧ Nm a SR Mo Fd Rd m' ∧ m' (Str.ofString "number") = some (.int x tx)
theorem J4.elim {steps : Rws} {mu : Mu} {a SR Rd Fd Mo Lf : Addr} {oF27 : Obj} {found : List Int} {x : Int} {tx : Tok} {todo : List Int} {m' : Str → Option Value} {mu' : Mu} {P : Prop} (h : J4 steps mu a SR Rd Fd Mo Lf oF27 found x tx todo m' mu')
    (k : ∀ oR oM oL most' left' rd, OI oR rd → OI oM most' → OI oL left' → KI steps found most' left' rd x.toNat todo →
      m' (Str.ofString "steps") = some (.ref a) → m' (Str.ofString "sources") = some (.ref SR) → m' (Str.ofString "most") = some (.ref Mo) → m' (Str.ofString "found") = some (.ref Fd) → m' (Str.ofString "ready") = some (.ref Rd) → m' (Str.ofString "number") = some (.int x tx) → mu' = (Rd, oR) :: (Fd, oF27) :: (Mo, oM) :: (Lf, oL) :: mu → P) : P := by
  obtain ⟨_, _, _, _, _, _, e, h1, h2, h3, h4, h5, h6⟩ := h
  exact k _ _ _ _ _ _ h1 h2 h3 h4 h5.n1 h5.n2 h5.n3 h5.n4 h5.n5 h6 e
section
set_option maxHeartbeats 8000000
variable {w : World} {A : Around} {E : Value → Shared → Prop} {B : Pin} {L : Addr} {G : Kn} {m : Str → Option Value} {mu : Mu} {s : Shared} {env : Env}
theorem permA {α : Type} {p q : α} {rs mu : List α} : (p :: (rs.reverse ++ q :: mu)).Perm (q :: p :: (rs ++ mu)) :=
  ((List.perm_middle.trans (List.Perm.cons q ((List.reverse_perm rs).append_right mu))).cons p).trans (List.Perm.swap _ _ _)
theorem permB {α : Type} {p q : α} {rs mu : List α} : (rs ++ (q :: p :: mu)).Perm (p :: q :: (rs ++ mu)) :=
  (List.perm_middle.trans (List.Perm.cons q List.perm_middle)).trans (List.Perm.swap _ _ _)
theorem rows_nil : ∀ {rs : Mu}, (∀ p ∈ rs, OI p.2 []) → Paired (fun (p : Addr × Obj) xs => OI p.2 xs) rs (List.replicate rs.length [])
  | [], _ => .nil
  | p :: r, h => .cons (h p (.head _)) (rows_nil fun q hq => h q (.tail _ hq))
theorem sp_depths {a : Addr} {steps : Rws} {Q : Value → Shared → Prop} (C : Cx B L G m mu s) (W : Wd w B.heap) (hA : AOk A 1) (hr : Rows G a steps) (S : Small steps)
    (h : ∀ r o s' found, OI o found → DepthIs steps found → Cx B L G m ((r, o) :: mu) s' → Q (.ref r) s') : wpAny (model pg w) A (call (.ref 123) [.ref a]) Q E s := by
  refine call_fn (binds := [(Str.ofString "steps", .ref a)]) (m0 := fun _ => upd m00 (Str.ofString "steps") (.ref a)) C W (by with_unfolding_all rfl) (by kernel_rfl) (by have := hA.dp; omega) (by with_unfolding_all rfl) (by with_unfolding_all rfl) (by decide +kernel) (fun L' => rfl) ?_ (by rfl) (by rfl) (by rfl)
  intro B' L' cells s' E' hB hY C'
  obtain ⟨oc, rfl, hoc⟩ := CellsAre.one hY
  replace hoc : oc.data = .cell none := hoc
  replace C' : Cx B' L' G (upd m00 (Str.ofString "steps") (.ref a)) ((L' + 1, oc) :: mu) s' := C'
  clear hY
  have W' := W.le hB
  have hlen := S.len
  tb_rel
  -- sources
  refine r_compA (cl := []) (by rfl) (by rfl) rfl (by decide +kernel) ?_
  tb_rel
  obtain ⟨ost, ast, hgst, hRst, hpst⟩ := id hr
  refine compL (Rv := isR) C' hgst hRst (by rw [hpst.length]; omega) (fun i _ mu' ys => ∃ rs : Mu, mu' = rs.reverse ++ (L' + 1, oc) :: mu ∧ rs.map (·.1) = ys ∧ (∀ p ∈ rs, OI p.2 []) ∧ rs.length = i) ⟨[], rfl, rfl, by simp, rfl⟩ ?_ ?_ hA.hh rfl (by decide +kernel) rfl
  · rintro Cc i v x hi hv B2 G2 mc mu2 ys s2 E2 hB2 hG2 ⟨rs, rfl, rfl, hrs, hlr⟩ hm C2
    refine tests_nil ?_
    rw [if_pos rfl]
    tb_rel
    refine r_newList (R := isI) (xs := []) (by assumption) .nil (by simp) fun a3 o3 s3 ho3 C3 => ?_
    exact ⟨a3, G2, mc, _, rfl, Le.rfl', ⟨rs ++ [(a3, o3)], by simp, by simp, fun p hp => by
      rcases List.mem_append.mp hp with q | q
      · exact hrs p q
      · rw [List.mem_singleton] at q; subst q; exact ho3, by simp [hlr]⟩, C3⟩
  rintro G2 mu2 ys SR oS Cc oC mC s2 hG2 ⟨rs, rfl, rfl, hrs, hlr⟩ hys C2 hN
  refine post_use C2 hN rfl rfl fun s3 C3 => ?_
  have hrl : rs.length = steps.length := by rw [hlr, hpst.length]
  replace C3 := C3.perm (mu' := (L' + 1, oc) :: (SR, oS) :: (rs ++ mu)) permA.symm
  -- left
  tb_rel
  refine r_newList (R := isI) (xs := [0]) (by assumption) (.cons ⟨_, rfl⟩ .nil) (by simp) fun Z oZ s4 hZ C4 => ?_
  tb_rel
  refine r_lenRows (by assumption) (hr.mono hG2) (by omega) fun t5 s5 C5 => ?_
  tb_rel
  refine r_mulList (v := .none) C5 (C5.getL (by k_mem)) hZ (by omega) (by omega) fun Lf oL s6 hL C6 => ?_
  tb_rel
  refine r_storeC (i := 2) C6 rfl rfl rfl rfl hoc fun s7 G7 oc7 hG7 hc7 hd7 C7 => ?_
  simp only [List.eraseIdx_cons_succ, List.eraseIdx_cons_zero] at C7
  replace C7 := C7.drop (mu' := (Lf, oL) :: (SR, oS) :: (rs ++ mu)) (.cons_cons _ (.cons _ (List.Sublist.refl _)))
  have hr7 := hr.mono (hG2.trans hG7)
  have hGG := hG2.trans hG7
  have hL0 : OI oL (List.replicate steps.length 0) := by simpa using hL
  have hrm0 : RowsM rs (rs.map (·.1)) (List.replicate steps.length []) := ⟨rfl, by rw [← hrl]; exact rows_nil hrs⟩
  -- who leads where
  tb_rel
  refine r_lenRows (by assumption) hr7 (by omega) fun t8 s8 C8 => ?_
  tb_rel
  refine r_range1 C8 fun rg org s9 hrg C9 => ?_
  refine r_forRange C9 hrg (fun i _ m' mu' => J1 steps mu (rs.map (·.1)) Lf SR a oS i m' mu') ⟨oL, _, _, rs, rfl, hL0, hrm0, PI.start, by tlg_ne, by tlg_ne⟩ (by omega) (by omega) ?_ ?_ hA.hh rfl rfl
  · intro i ti B10 G10 m10 mu10 s10 E10 hi hB10 hG10 hJ
    refine hJ.elim fun oL10 left10 rows10 rs10 hL10 hrm10 I10 n1 n2 eJ => ?_
    subst eJ
    intro C10
    have W10 := W'.le hB10
    have hc10 := hG10 _ _ hc7
    have hin : InR steps i := ⟨by omega, hi⟩
    have hil : i < steps.length := by omega
    tb_rel
    refine r_row (by assumption) (hr7.mono hG10) (by omega) (getElem?_rowOf hin) (by omega) fun ad hrow => ?_
    obtain ⟨orow, hg, hrow'⟩ := hrow
    tb_rel
    refine r_set (by assumption) hA.hh (Cx.know (by assumption) _ _ hg) hrow' (S.rowLen _) (fun x hx => ⟨S.rowPos hx, S.rowLt hx⟩) fun as11 os11 s11 ks11 hO11 hm11 C11 => ?_
    tb_rel
    refine r_sortedSet C11 hA.hh (C11.getL (by k_mem)) hO11 (Nat.le_trans (hO11.len hm11) (S.rowLen _)) fun al12 ol12 s12 ys hys12 hp12 _ C12 => ?_
    have hynd : ys.Nodup := hp12.nodup_iff.mpr hO11.nd
    have hym : ∀ x, x ∈ ys ↔ x ∈ rowOf steps i := fun x => hp12.mem_iff.trans (hm11 x)
    refine r_forNew C12 hys12 (fun j _ m' mu' => J2 steps mu (rs.map (·.1)) as11 Lf SR a oS i ti (ys.take j) m' mu') ?_ ?_ ?_ hA.hh rfl rfl
    · intro G13 _
      exact ⟨oL10, left10, rows10, rs10, os11, rfl, hL10, hrm10, I10, by tlg_ne, by tlg_ne, by tlg_ne⟩
    · intro j v g B13 G13 m13 mu13 s13 E13 hj hv hB13 hG13 hJ
      refine hJ.elim fun oL13 left13 rows13 rs13 ks13 hL13 hrm13 I13 n1 n2 n3 eJ => ?_
      subst eJ
      intro C13
      obtain ⟨t13, rfl⟩ := hv
      have W13 := W10.le hB13
      have hc13 := hG13 _ _ hc10
      have hr13 := hr7.mono (hG10.trans hG13)
      have htk : ys.take (j + 1) = ys.take j ++ [g] := by rw [List.take_add_one, hj]; rfl
      have hnot : g ∉ ys.take j := fun hmem => by
        have h1 : (ys.take j ++ [g]).Nodup := by rw [← htk]; exact hynd.sublist (List.take_sublist _ _)
        exact (List.nodup_append.mp h1).2.2 g hmem g (by simp) rfl
      have hll13 := I13.ll
      have hrl13 := I13.rl
      have hlen13 := hrm13.len
      tb_rel
      by_cases hg0 : (0 : Int) ≤ g
      · rw [if_pos (by simpa using hg0)]
        tb_rel
        refine r_lenRows (by assumption) hr13 (by omega) fun t14 s14 C14 => ?_
        tb_rel
        by_cases hg1 : g < (steps.length : Int)
        · rw [if_pos (by simpa using hg1)]
          have hgin : InR steps g := ⟨hg0, hg1⟩
          obtain ⟨row, hrow13⟩ : ∃ row, rows13[g.toNat]? = some row := ⟨rows13[g.toNat]'(by omega), List.getElem?_eq_getElem _⟩
          obtain ⟨ag, og, hrs13, has13, hog⟩ := hrm13.get hrow13
          have hlr : row.length ≤ 100 := by
            have h1 := I13.rw g.toNat (by omega)
            rw [hrow13] at h1
            rw [Option.some.inj h1, List.length_append]
            have h3 : ∀ f, (picks i f).length ≤ 7 := fun f => Nat.le_trans picks_len (by omega)
            exact Nat.le_trans (Nat.add_le_add (h3 _) (show _ ≤ 1 by split <;> simp)) (by omega)
          have hidx : ((as11, ks13) :: (Lf, oL13) :: (SR, oS) :: (rs13 ++ mu))[g.toNat + 3]? = some (ag, og) := by
            simp only [List.getElem?_cons_succ]
            rw [List.getElem?_append_left (by omega)]; exact hrs13
          tb_rel
          refine r_item (Cx.getL (by assumption) (by k_mem)) hys hg0 has13 (by rw [hlen13.2]; omega) fun v hv => ?_
          rw [show v = .ref ag from hv]
          refine r_mAppend (Cx.getM (by assumption) hidx) hog ?_
          try dsimp only
          tb_rel
          refine r_append (x := (i : Int)) (by assumption) hidx hog ⟨_, rfl⟩ (by omega) fun og15 s15 hog15 C15 => ?_
          simp only [List.set_cons_succ] at C15
          rw [List.set_append_left _ _ (by omega)] at C15
          tb_rel
          refine r_getItem (Cx.getL (by assumption) (by k_mem)) hL13 (by omega) (at_get (v := i) (by omega)) (by omega) fun v hv => ?_
          obtain ⟨tl, rfl⟩ := hv
          tb_rel
          refine r_setItem (x := at' left13 i + 1) (by assumption) i1 hL13 ⟨_, rfl⟩ (by omega) (by omega) (by omega) fun oL16 s16 hL16 C16 => ?_
          simp only [List.set_cons_succ, List.set_cons_zero] at C16
          tb_rel
          exact ⟨G13, _, _, Le.rfl', ⟨oL16, _, _, _, ks13, rfl, hL16, hrm13.set hrs13 hog15, by rw [htk]; exact I13.into hgin hnot hil hrow13, by tlg_ne, by tlg_ne, by tlg_ne⟩, C16⟩
        · rw [if_neg (by simpa using hg1)]
          tb_rel
          exact ⟨G13, _, _, Le.rfl', ⟨oL13, left13, rows13, rs13, ks13, rfl, hL13, hrm13, by rw [htk]; exact I13.out (fun q => hg1 q.2), by tlg_ne, by tlg_ne, by tlg_ne⟩, C14⟩
      · rw [if_neg (by simpa using hg0)]
        rw [if_neg (by simp)]
        tb_rel
        refine ⟨G13, _, _, Le.rfl', ?_, by assumption⟩
        exact ⟨oL13, left13, rows13, rs13, ks13, rfl, hL13, hrm13, by rw [htk]; exact I13.out (fun q => hg0 q.1), by tlg_ne, by tlg_ne, by tlg_ne⟩
    · intro G13 m13 mu13 s13 hG13 hJ
      refine hJ.elim fun oL13 left13 rows13 rs13 ks13 hL13 hrm13 I13 n1 n2 n3 eJ => ?_
      subst eJ
      intro C13
      rw [List.take_length] at I13
      try dsimp only
      tb_rel
      exact ⟨G13, m13, _, hG13, ⟨oL13, left13, rows13, rs13, rfl, hL13, hrm13, I13.next hynd hym, n1, n2⟩, C13.drop (List.sublist_cons_self _ _)⟩
  · intro G10 m10 mu10 s10 hG10 hJ
    refine hJ.elim fun oL10 left10 rows10 rs10 hL10 hrm10 I10 n1 n2 eJ => ?_
    subst eJ
    intro C10
    rw [show ((steps.length : Int)).toNat = steps.length by omega] at I10
    have KI0 := I10.kahn
    have hsrc := fun x (hx : InR steps x) => I10.srcs hx
    have hrl10 := I10.rl
    have hll10 := I10.ll
    obtain ⟨G11, hG11, hrsG, C11⟩ := (C10.perm (mu' := rs10 ++ ((SR, oS) :: (Lf, oL10) :: mu)) permB).freezeRows
    obtain ⟨G12, hG12, hSR, C12⟩ := C11.freeze (i := 0) rfl
    have hSrc : Rows G12 SR rows10 := ⟨oS, _, hSR, hys, (hrm10.rows hrsG) |> fun p => pr_mono (fun _ _ y => isRow.mono hG12 y) p⟩
    have hGt := hG10.trans (hG11.trans hG12)
    replace C12 : Cx B' L' G12 m10 ((Lf, oL10) :: mu) s10 := C12
    have hr12 := hr7.mono hGt
    have hc12 := hGt _ _ hc7
    clear C11 C10 hrsG
    try dsimp only
    tb_rel
    refine r_newList (R := isI) (xs := [0]) (by assumption) (.cons ⟨_, rfl⟩ .nil) (by simp) fun Z2 oZ2 s13 hZ2 C13 => ?_
    tb_rel
    refine r_lenRows (by assumption) hr12 (by omega) fun t14 s14 C14 => ?_
    tb_rel
    refine r_mulList (v := .none) C14 (C14.getL (by k_mem)) hZ2 (by omega) (by omega) fun Mo oM s15 hM C15 => ?_
    tb_rel
    refine r_newList (R := isI) (xs := [-1]) (by assumption) (.cons ⟨_, rfl⟩ .nil) (by simp) fun Z3 oZ3 s16 hZ3 C16 => ?_
    tb_rel
    refine r_lenRows (by assumption) hr12 (by omega) fun t17 s17 C17 => ?_
    tb_rel
    refine r_mulList (v := .none) C17 (C17.getL (by k_mem)) hZ3 (by omega) (by omega) fun Fd oF s18 hF C18 => ?_
    tb_rel
    have hM0 : OI oM (List.replicate steps.length 0) := by simpa using hM
    have hF0 : OI oF (List.replicate steps.length (-1)) := by simpa using hF
    rename Cx _ _ _ _ _ _ => C19
    replace C19 := C19.drop (mu' := (Fd, oF) :: (Mo, oM) :: (Lf, oL10) :: mu) (.cons_cons _ (.cons _ (.cons_cons _ (.cons _ (List.Sublist.refl _)))))
    clear C18 C17 C16 C15 C14 C13 C12
    refine r_compA (cl := [(Str.ofString "left", L' + 1)]) (by rfl) (by rfl) rfl (by decide +kernel) ?_
    tb_rel
    refine r_lenRows (by assumption) hr12 (by omega) fun t20 s20 C20 => ?_
    tb_rel
    refine r_range1 C20 fun rg2 org2 s21 hrg2 C21 => ?_
    refine compR (Rv := isI) C21 hrg2 (by omega) (by omega) (fun i _ mu' ys => mu' = (Fd, oF) :: (Mo, oM) :: (Lf, oL10) :: mu ∧ ys = picks i fun k => decide (at' left10 k = 0)) ⟨rfl, rfl⟩ ?_ ?_ hA.hh rfl (by decide +kernel) rfl
    · rintro Cc2 i ti hi B22 G22 mc mu22 ys s22 E22 hB22 hG22 ⟨rfl, rfl⟩ hm C22
      have W22 := W'.le hB22
      have hc22 := hG22 _ _ hc12
      refine tests_one ?_
      tb_rel
      refine r_item (C22.getL (by k_mem)) hL10 (by omega) (at_get (v := (i : Int).toNat) (by omega)) (by omega) fun v hv => ?_
      obtain ⟨tv, rfl⟩ := hv
      tb_rel
      by_cases h0 : at' left10 i = 0
      · rw [if_pos (by simpa using h0)]
        tb_rel
        exact ⟨(i : Int), G22, mc, _, ⟨ti, rfl⟩, Le.rfl', ⟨rfl, by rw [picks_succ, if_pos (by simpa using h0)]⟩, by assumption⟩
      · rw [if_neg (by simpa using h0)]
        exact ⟨G22, mc, _, Le.rfl', ⟨rfl, by rw [picks_succ, if_neg (by simpa using h0), List.append_nil]⟩, by assumption⟩
    rintro G22 mu22 ysR Rd oR Cc2 oC2 mC2 s22 hG22 ⟨rfl, rfl⟩ hysR C22 hN2
    refine post_use C22 hN2 rfl rfl fun s23 C23 => ?_
    rw [show ((steps.length : Int)).toNat = steps.length by omega] at hysR
    have hSrc2 := hSrc.mono hG22
    -- the turns
    tb_rel
    refine r_while (J3 steps mu a SR Rd Fd Mo Lf B' L' G22) _
      ⟨G22, _, oR, oF, oM, oL10, _, _, left10, _, 0, C23, Le.rfl', rfl, hysR, hF0, hM0, hL10, KI0, ⟨by tlg_ne, by tlg_ne, by tlg_ne, by tlg_ne, by tlg_ne⟩⟩ ?_
    intro n s24 E24 hJ
    refine hJ.elim fun G24 m24 oR24 oF24 oM24 oL24 found most left ready u C24 hG24 hR24 hF24 hM24 hL24 I n1 n2 n3 n4 n5 eJ => ?_
    subst eJ
    have hc24 := hG24 _ _ (hG22 _ _ hc12)
    have hSrc24 := hSrc2.mono hG24
    have hrdl : ready.length ≤ steps.length := nodup_bound I.rnd fun x hx => (I.rin x hx).1
    have hfl := I.fl
    have hml := I.ml
    have hll := I.ll
    tb_rel
    refine r_truthy C24 (C24.getL (by k_mem)) hR24 (by omega) fun s25 C25 => ?_
    rcases snoc_cases ready with rfl | ⟨ready', x, rfl⟩
    · rw [if_neg (by simp)]
      try dsimp only
      tb_rel
      refine ⟨G24, m24, _, C25, fun C26 => ?_⟩
      exact h Fd oF24 _ found hF24 I.fin ((C26.weakG (hGG.trans (hGt.trans (hG22.trans hG24))) C.bG).drop (.cons _ (.cons_cons _ (.cons _ (.cons _ (List.Sublist.refl _))))))
    · rw [if_pos (by simp)]
      obtain ⟨hxin, hfx⟩ := I.rin x (by simp)
      have hxn : x.toNat < steps.length := by omega
      tb_rel
      refine r_pop (by assumption) i0 hR24 (by simp at hrdl; omega) fun v oR26 s26 hv hR26 C26 => ?_
      obtain ⟨tx, rfl⟩ := hv
      simp only [List.set_cons_zero] at C26
      tb_rel
      refine r_item (Cx.getL (by assumption) (by k_mem)) hM24 hxin.1 (at_get (by omega)) (by omega) fun v hv => ?_
      obtain ⟨tm, rfl⟩ := hv
      tb_rel
      refine r_setItem (x := at' most x.toNat) (by assumption) i1 hF24 ⟨_, rfl⟩ hxin.1 (by omega) (by omega) fun oF27 s27 hF27 C27 => ?_
      simp only [List.set_cons_succ, List.set_cons_zero] at C27
      have hpop := I.pop (fun y => mem_srcs (x := x) (y := y)) picks_nodup
      tb_rel
      refine r_row (by assumption) hSrc24 hxin.1 (hsrc x hxin) (by omega) fun ad hrow => ?_
      obtain ⟨orow, hg, hrow'⟩ := hrow
      refine r_forList C27 hg hrow' (fun j _ m' mu' => J4 steps mu a SR Rd Fd Mo Lf oF27 (found.set x.toNat (at' most x.toNat)) x tx ((picks steps.length fun v => decide (x ∈ rowOf steps v)).drop j) m' mu') ?_ ?_ ?_ hA.hh rfl rfl
      · exact ⟨oR26, oM24, oL24, most, left, ready', rfl, hR26, hM24, hL24, hpop.1, ⟨by tlg_ne, by tlg_ne, by tlg_ne, by tlg_ne, by tlg_ne⟩, by tlg_ne⟩
      · intro j v y B28 G28 m28 mu28 s28 E28 hj hv hB28 hG28 hJ
        refine hJ.elim fun oR28 oM28 oL28 most' left' rd hR28 hM28 hL28 I28 n1 n2 n3 n4 n5 n6 eJ => ?_
        subst eJ
        intro C28
        obtain ⟨ty, rfl⟩ := hv
        have W28 := W'.le hB28
        have hc28 := hG28 _ _ hc24
        have hdr : (picks steps.length fun v => decide (x ∈ rowOf steps v)).drop j = y :: (picks steps.length fun v => decide (x ∈ rowOf steps v)).drop (j + 1) := by
          obtain ⟨hlt, e⟩ := List.getElem?_eq_some_iff.mp hj
          rw [List.drop_eq_getElem_cons hlt, e]
        rw [hdr] at I28
        obtain ⟨hyin, hfy, _⟩ := I28.pin y (.head _)
        have I29 := I28.step
        have hml28 := I28.ml
        have hll28 := I28.ll
        have hrd28 : rd.length ≤ steps.length := nodup_bound I28.rnd fun x hx => (I28.rin x hx).1
        tb_rel
        refine r_item (Cx.getL (by assumption) (by k_mem)) hM28 hyin.1 (at_get (by omega)) (by omega) fun v hv => ?_
        obtain ⟨t29, rfl⟩ := hv
        tb_rel
        refine r_item (Cx.getL (by assumption) (by k_mem)) hM28 hxin.1 (at_get (by omega)) (by omega) fun v hv => ?_
        obtain ⟨t30, rfl⟩ := hv
        tb_rel
        refine r_max2 (by assumption) hA.hh fun t31 s31 C31 => ?_
        tb_rel
        refine r_setItem (x := max (at' most' y.toNat) (at' most' x.toNat + 1)) (by assumption) i2 hM28 ⟨_, rfl⟩ hyin.1 (by omega) (by omega) fun oM32 s32 hM32 C32 => ?_
        simp only [List.set_cons_succ, List.set_cons_zero] at C32
        tb_rel
        refine r_getItem (Cx.getL (by assumption) (by k_mem)) hL28 hyin.1 (at_get (by omega)) (by omega) fun v hv => ?_
        obtain ⟨t33, rfl⟩ := hv
        tb_rel
        refine r_setItem (x := at' left' y.toNat - 1) (by assumption) i3 hL28 ⟨_, rfl⟩ hyin.1 (by omega) (by omega) fun oL34 s34 hL34 C34 => ?_
        simp only [List.set_cons_succ, List.set_cons_zero] at C34
        tb_rel
        have hat : at' (left'.set y.toNat (at' left' y.toNat - 1)) y.toNat = at' left' y.toNat - 1 := by rw [at_set (by omega), if_pos rfl]
        refine r_item (Cx.getL (by assumption) (by k_mem)) hL34 hyin.1 (at_get (by rw [List.length_set]; omega)) (by rw [List.length_set]; omega) fun v hv => ?_
        obtain ⟨t35, rfl⟩ := hv
        rw [hat]
        tb_rel
        by_cases h0 : at' left' y.toNat - 1 = 0
        · rw [if_pos (by simpa using h0)]
          rw [if_pos h0] at I29
          tb_rel
          refine r_append (x := y) (by assumption) i0 hR28 ⟨_, rfl⟩ (by omega) fun oR36 s36 hR36 C36 => ?_
          simp only [List.set_cons_zero] at C36
          tb_rel
          exact ⟨G28, _, _, Le.rfl', ⟨oR36, oM32, oL34, _, _, _, rfl, hR36, hM32, hL34, I29, ⟨by tlg_ne, by tlg_ne, by tlg_ne, by tlg_ne, by tlg_ne⟩, by tlg_ne⟩, C36⟩
        · rw [if_neg (by simpa using h0)]
          rw [if_neg h0] at I29
          tb_rel
          refine ⟨G28, _, _, Le.rfl', ?_, by assumption⟩
          exact ⟨oR28, oM32, oL34, _, _, _, rfl, hR28, hM32, hL34, I29, ⟨by tlg_ne, by tlg_ne, by tlg_ne, by tlg_ne, by tlg_ne⟩, by tlg_ne⟩
      · intro G28 m28 mu28 s28 hG28 hJ
        refine hJ.elim fun oR28 oM28 oL28 most' left' rd hR28 hM28 hL28 I28 n1 n2 n3 n4 n5 n6 eJ => ?_
        subst eJ
        intro C28
        rw [List.drop_length] at I28
        try dsimp only
        tb_rel
        exact ⟨_, hpop.2, G28, m28, oR28, oF27, oM28, oL28, _, most', left', rd, x.toNat, C28, hG24.trans hG28, rfl, hR28, hF27, hM28, hL28, I28, ⟨n1, n2, n3, n4, n5⟩⟩
end
section
set_option maxHeartbeats 8000000
variable {w : World} {A : Around} {E : Value → Shared → Prop} {B : Pin} {L : Addr} {G : Kn} {m : Str → Option Value} {mu : Mu} {s : Shared} {env : Env}
theorem sp_rings {a : Addr} {steps : Rws} {Q : Value → Shared → Prop} (C : Cx B L G m mu s) (W : Wd w B.heap) (hA : AOk A 2) (hr : Rows G a steps) (S : Small steps)
    (h : ∀ r o s' found f, OI o (picks steps.length f) → DepthIs steps found → (∀ k : Nat, k < steps.length → (f k = true ↔ at' found k < 0 ∧ From steps (rowOf steps k) k)) → Cx B L G m ((r, o) :: mu) s' → Q (.ref r) s') : wpAny (model pg w) A (call (.ref 128) [.ref a]) Q E s := by
  refine call_fn (binds := [(Str.ofString "steps", .ref a)]) (m0 := fun _ => m00) C W (by with_unfolding_all rfl) (by kernel_rfl) (by have := hA.dp; omega) (by with_unfolding_all rfl) (by with_unfolding_all rfl) (by decide +kernel) (fun L' => rfl) ?_ (by rfl) (by rfl) (by rfl)
  intro B' L' cells s' E' hB hY C'
  obtain ⟨oc, od, rfl, hoc, hod⟩ := CellsAre.two hY
  replace hoc : oc.data = .cell none := hoc
  replace hod : od.data = .cell (some (.ref a)) := hod
  replace C' : Cx B' L' G m00 ((L' + 1 + 1, oc) :: (L' + 1, od) :: mu) s' := C'
  clear hY
  have W' := W.le hB
  have hlen := S.len
  obtain ⟨G1, hG1, hc1, C1⟩ := C'.freeze (i := 1) rfl
  simp only [List.eraseIdx_cons_succ, List.eraseIdx_cons_zero] at C1
  clear C'
  tb_rel
  refine sp_depths (by assumption) W' hA.deeper (hr.mono hG1) S fun Dp oD s2 found hD hDI C2 => ?_
  tb_rel
  refine r_storeC (i := 1) C2 rfl rfl rfl rfl hoc fun s3 G3 oc3 hG3 hc3 hd3 C3 => ?_
  simp only [List.eraseIdx_cons_succ, List.eraseIdx_cons_zero] at C3
  have hc1' := hG3 _ _ hc1
  have hr3 := hr.mono (hG1.trans hG3)
  have hfl := hDI.len
  clear C2 C1
  tb_rel
  refine r_comp (cl := [(Str.ofString "steps", L' + 1), (Str.ofString "deep", L' + 1 + 1)]) (by rfl) rfl (by decide +kernel) ?_
  tb_rel
  refine r_lenRows (by assumption) hr3 (by omega) fun t4 s4 C4 => ?_
  tb_rel
  refine r_range1 C4 fun rg org s5 hrg C5 => ?_
  refine compR (Rv := isI) C5 hrg (by omega) (by omega) (fun i _ mu' ys => mu' = (Dp, oD) :: mu ∧ ∃ f, ys = picks i f ∧ ∀ k : Nat, k < i → (f k = true ↔ at' found k < 0 ∧ From steps (rowOf steps k) k)) ⟨rfl, fun _ => false, rfl, fun k hk => absurd hk (Nat.not_lt_zero _)⟩ ?_ ?_ hA.hh rfl (by decide +kernel) rfl
  · rintro Cc i ti hi B6 G6 mc mu6 ys s6 E6 hB6 hG6 ⟨rfl, f, rfl, hf⟩ hm C6
    have W6 := W'.le hB6
    have hc6 := hG6 _ _ hc3
    have hc6' := hG6 _ _ hc1'
    have hr6 := hr3.mono hG6
    have hin : InR steps i := ⟨by omega, hi⟩
    have fin : ∀ (b : Bool), (b = true ↔ at' found i < 0 ∧ From steps (rowOf steps i) i) → ∀ k : Nat, k < i + 1 → ((fun k => if k = i then b else f k) k = true ↔ at' found k < 0 ∧ From steps (rowOf steps k) k) := fun b hb k hk => by
      dsimp only
      by_cases e : k = i
      · subst e; rw [if_pos rfl]; exact hb
      · rw [if_neg e]; exact hf k (by omega)
    have pk : ∀ (b : Bool), picks (i + 1) (fun k => if k = i then b else f k) = picks i f ++ (if b = true then [(i : Int)] else []) := fun b => by
      rw [picks_succ, if_pos rfl]
      congr 1
      exact picks_congr fun k hk => if_neg (by omega)
    refine tests_one ?_
    tb_rel
    refine r_item (C6.getL (by k_mem)) hD (by omega) (at_get (v := (i : Int).toNat) (by omega)) (by omega) fun v hv => ?_
    obtain ⟨tv, rfl⟩ := hv
    tb_rel
    by_cases h0 : at' found i < 0
    · rw [if_pos (by simpa using h0)]
      tb_rel
      refine r_row (by assumption) hr6 (by omega) (getElem?_rowOf hin) (by omega) fun ad hrow => ?_
      obtain ⟨orow, hg, hrow'⟩ := hrow
      tb_rel
      refine sp_reached (by assumption) W6 hA.deeper hr6 S (.inl hg) hrow' (by have := S.rowLen i; omega) fun rr ro s7 f7 hro hf7 C7 => ?_
      tb_rel
      refine r_in (C7.getL (by k_mem)) hro ?_
      tb_rel
      have hmem : ((i : Int) ∈ picks steps.length f7) ↔ From steps (rowOf steps i) i := by
        rw [mem_picks]
        have e : ((i : Int)).toNat = i := by omega
        rw [e, hf7 i (by omega)]
        exact ⟨fun q => q.2.2, fun q => ⟨by omega, by omega, q⟩⟩
      by_cases h1 : From steps (rowOf steps i) i
      · rw [if_pos (by simpa using hmem.mpr h1)]
        tb_rel
        rw [if_pos rfl]
        tb_rel
        exact ⟨(i : Int), G6, mc, _, ⟨ti, rfl⟩, Le.rfl', ⟨rfl, _, by rw [pk true]; rfl, fin true ⟨fun _ => ⟨h0, h1⟩, fun _ => rfl⟩⟩, C7.drop (List.sublist_cons_self _ _)⟩
      · rw [if_neg (by simpa using fun q => h1 (hmem.mp q))]
        rw [if_neg (by simp)]
        exact ⟨G6, mc, _, Le.rfl', ⟨rfl, _, by rw [pk false]; simp, fin false ⟨fun q => by simp at q, fun q => absurd q.2 h1⟩⟩, C7.drop (List.sublist_cons_self _ _)⟩
    · rw [if_neg (by simpa using h0)]
      rw [if_neg (by simp)]
      exact ⟨G6, mc, _, Le.rfl', ⟨rfl, _, by rw [pk false]; simp, fin false ⟨fun q => by simp at q, fun q => absurd q.1 h0⟩⟩, by assumption⟩
  · rintro G6 mu6 ys D oDD Cc oC mC s6 hG6 ⟨rfl, f, rfl, hf⟩ hys C6 hN
    refine post_none C6 hN fun s7 C7 => ?_
    refine ⟨G6, _, _, C7, fun C8 => ?_⟩
    exact h D oDD _ found f (by simpa using hys) hDI (fun k hk => hf k (by omega)) ((C8.weakG ((hG1.trans hG3).trans hG6) C.bG).drop (.cons_cons _ (.cons _ (List.Sublist.refl _))))
end
section
set_option maxHeartbeats 8000000
variable {w : World} {A : Around} {E : Value → Shared → Prop} {B : Pin} {L : Addr} {G : Kn} {m : Str → Option Value} {mu : Mu} {s : Shared} {env : Env}
theorem sp_right {a fd : Addr} {ofd : Obj} {steps : Rws} {found : List Int} {Q : Value → Shared → Prop} (C : Cx B L G m mu s) (W : Wd w B.heap) (hA : AOk A 2) (hr : Rows G a steps) (S : Small steps) (hfd : G fd = some ofd) (hof : OI ofd found) (D : DepthIs steps found)
    (h : ∀ s', Cx B L G m mu s' → Q (.bool true) s') : wpAny (model pg w) A (call (.ref 190) [.ref a, .ref fd]) Q E s := by
  refine call_fn (binds := [(Str.ofString "steps", .ref a), (Str.ofString "found", .ref fd)]) (m0 := fun _ => upd m00 (Str.ofString "steps") (.ref a)) C W (by with_unfolding_all rfl) (by kernel_rfl) (by have := hA.dp; omega) (by with_unfolding_all rfl) (by with_unfolding_all rfl) (by decide +kernel) (fun L' => rfl) ?_ (by rfl) (by rfl) (by rfl)
  intro B' L' cells s' E' hB hY C'
  obtain ⟨oc, rfl, hoc⟩ := CellsAre.one hY
  replace hoc : oc.data = .cell (some (.ref fd)) := hoc
  replace C' : Cx B' L' G (upd m00 (Str.ofString "steps") (.ref a)) ((L' + 1, oc) :: mu) s' := C'
  clear hY
  have W' := W.le hB
  have hlen := S.len
  have hfl := D.len
  obtain ⟨G1, hG1, hc1, C1⟩ := C'.freeze (i := 0) rfl
  simp only [List.eraseIdx_cons_succ, List.eraseIdx_cons_zero] at C1
  clear C'
  have hr1 := hr.mono hG1
  have hfd1 := hG1 _ _ hfd
  tb_rel
  refine r_lenRows (by assumption) hr1 (by omega) fun t2 s2 C2 => ?_
  tb_rel
  refine r_range1 C2 fun rg org s3 hrg C3 => ?_
  refine r_forRange C3 hrg (fun i _ m' mu' => mu' = mu ∧ m' (Str.ofString "steps") = some (.ref a)) ⟨rfl, by tlg_ne⟩ (by omega) (by omega) ?_ ?_ hA.hh rfl rfl
  · rintro i ti B4 G4 m4 mu4 s4 E4 hi hB4 hG4 ⟨e4, n1⟩ C4
    rw [e4] at C4
    have W4 := W'.le hB4
    have hc4 := hG4 _ _ hc1
    have hr4 := hr1.mono hG4
    have hfd4 := hG4 _ _ hfd1
    have hin : InR steps i := ⟨by omega, hi⟩
    have hil : i < steps.length := by omega
    tb_rel
    refine r_compA (cl := [(Str.ofString "found", L' + 1)]) (by rfl) (by rfl) rfl (by decide +kernel) ?_
    tb_rel
    refine sp_goals (by assumption) W4 hA.deeper.le hr4 hin.1 (getElem?_rowOf hin) (by omega) (by have := S.rowLen i; omega) fun gl ogl s5 hogl C5 => ?_
    have hgl : (List.filter (fun g => decide (g < (steps.length : Int))) (rowOf steps i)).length ≤ 4 := Nat.le_trans (List.length_filter_le _ _) (S.rowLen i)
    refine compN (Rv := isI) C5 hogl (by omega) (fun j _ mu' ys => mu' = mu ∧ ys = ((goalsOf steps i).take j).map fun g => at' found g.toNat) (fun _ _ => ⟨rfl, rfl⟩) ?_ ?_ hA.hh rfl (by decide +kernel) rfl
    · rintro Cc j v g hj hv B6 G6 mc mu6 ys s6 E6 hB6 hG6 ⟨rfl, rfl⟩ hm C6
      obtain ⟨tg, rfl⟩ := hv
      have W6 := W4.le hB6
      have hc6 := hG6 _ _ hc4
      have hg := goalsOf_lt S (List.mem_of_getElem? hj)
      refine tests_nil ?_
      rw [if_pos rfl]
      tb_rel
      refine r_item (Cx.know (by assumption) _ _ (hG6 _ _ hfd4)) hof hg.1 (at_get (by omega)) (by omega) fun v hv => ?_
      refine ⟨at' found g.toNat, G6, mc, _, hv, Le.rfl', ⟨rfl, ?_⟩, by assumption⟩
      have e : (goalsOf steps i)[j]? = some g := hj
      rw [List.take_add_one, e]; simp
    rintro G6 mu6 ys Bl oB Cc oC mC s6 hG6 ⟨e6, rfl⟩ hys C6 hN
    rw [e6] at C6
    refine post_use C6 hN rfl rfl fun s7 C7 => ?_
    have hbl : OI oB (belowOf steps found i) := by
      have e : (goalsOf steps i).take (List.filter (fun g => decide (g < (steps.length : Int))) (rowOf steps i)).length = goalsOf steps i := List.take_length
      rw [e] at hys; exact hys
    have hbll := below_len S (found := found) (k := i)
    have hc6 := hG6 _ _ hc4
    have hfd6 := hG6 _ _ hfd4
    have hr6 := hr4.mono hG6
    tb_rel
    refine r_item (Cx.know (by assumption) _ _ hfd6) hof hin.1 (at_get (v := (i : Int).toNat) (by omega)) (by omega) fun v hv => ?_
    obtain ⟨tv, rfl⟩ := hv
    refine wpAny_mono (Q := fun v s' => ∃ t, v = .int (at' found i) t ∧ ∃ G' mu', Le G6 G' ∧ Cx B4 L' G' (upd (upd m4 (Str.ofString "number") (.int i ti)) (Str.ofString "below") (.ref Bl)) (mu' ++ mu) s') ?_ ?_ (fun _ _ x => x)
    · tb_rel
      refine r_in (Cx.getL (by assumption) (by k_mem)) hbl ?_
      tb_rel
      by_cases hm1 : (-1 : Int) ∈ belowOf steps found i
      · rw [if_pos (by simpa using hm1)]
        tb_rel
        rename Cx _ _ _ _ _ _ => C9
        exact ⟨_, by rw [right_neg S D hil hm1], G6, [(Bl, oB)], Le.rfl', C9⟩
      · rw [if_neg (by simpa using hm1)]
        tb_rel
        refine r_newList (R := isI) (xs := [0]) (by assumption) (.cons ⟨_, rfl⟩ .nil) (by simp) fun Z oZ s9 hZ C9 => ?_
        refine r_comp (cl := []) (by rfl) rfl (by decide +kernel) ?_
        tb_rel
        refine compN (Rv := isI) C9.swap hbl (by omega) (fun j _ mu' ys => mu' = (Z, oZ) :: mu ∧ ys = ((belowOf steps found i).take j).map (· + 1)) (fun _ _ => ⟨rfl, rfl⟩) ?_ ?_ hA.hh rfl (by decide +kernel) rfl
        · rintro Cc j v d hj hv B10 G10 mc mu10 ys s10 E10 hB10 hG10 ⟨rfl, rfl⟩ hm C10
          obtain ⟨td, rfl⟩ := hv
          refine tests_nil ?_
          rw [if_pos rfl]
          tb_rel
          rename Cx _ _ _ _ _ _ => C11
          exact ⟨d + 1, G10, mc, _, ⟨_, rfl⟩, Le.rfl', ⟨rfl, by rw [List.take_add_one, hj]; simp⟩, C11⟩
        rintro G10 mu10 ys Dd oDd Cc oC mC s10 hG10 ⟨rfl, rfl⟩ hys C10 hN
        refine post_none C10 hN fun s11 C11 => ?_
        rw [List.take_length] at hys
        tb_rel
        refine r_addList C11 (C11.getL (by k_mem)) hZ (C11.getL (by k_mem)) hys (by simp; omega) fun Su oSu s12 hSu C12 => ?_
        tb_rel
        refine r_max C12 (C12.getL (by k_mem)) hSu (by simp) hA.hh fun M tM s13 C13 hM hle => ?_
        exact ⟨tM, by rw [right_max S D hil hm1 hM hle], G10, [(Su, oSu), (Dd, oDd), (Z, oZ)], hG10, C13⟩
    · rintro v s8 ⟨t8, rfl, G8, mu8, hG8, C8⟩
      have hc8 := hG8 _ _ hc6
      tb_rel
      rw [if_neg (by simp)]
      tb_rel
      refine r_item (Cx.know (by assumption) _ _ (hG8 _ _ hfd6)) hof hin.1 (at_get (v := (i : Int).toNat) (by omega)) (by omega) fun v hv => ?_
      obtain ⟨tv9, rfl⟩ := hv
      have hbd := right_bounds D hil
      tb_rel
      rw [if_pos (by simpa using hbd.1)]
      tb_rel
      refine r_lenRows (by assumption) (hr6.mono hG8) (by omega) fun t14 s14 C14 => ?_
      tb_rel
      rw [if_neg (by simpa using hbd.2)]
      tb_rel
      exact ⟨G8, _, mu, hG6.trans hG8, ⟨rfl, by tlg_ne⟩, C14.drop (List.sublist_append_right _ _)⟩
  · rintro G4 m4 mu4 s4 hG4 ⟨e4, n1⟩ C4
    rw [e4] at C4
    try dsimp only
    tb_rel
    exact ⟨G4, m4, mu, C4, fun C5 => h _ (C5.weakG (hG1.trans hG4) C.bG)⟩
end
section
set_option maxHeartbeats 8000000
variable {w : World} {A : Around} {E : Value → Shared → Prop} {B : Pin} {L : Addr} {G : Kn} {m : Str → Option Value} {mu : Mu} {s : Shared} {env : Env}
theorem sp_source {a : Addr} {oa : Obj} {vs : List Value} {n : Nat} {ns : List Int} {Q : Value → Shared → Prop} (C : Cx B L G m mu s) (W : Wd w B.heap) (hA : AOk A 2) (ha : G a = some oa) (hcl : oa.cls = .type "list") (hda : oa.data = .seq vs.toArray n) (hi : IntsAre vs ns) (hz : ns.length ≤ 63)
    (h : ∀ r o c cells G' s', Le G G' → cells ≠ [] → cells.length ≤ 60 → isRow G' c cells → SrcO o c 0 → Cx B L G' m ((r, o) :: mu) s' → Q (.ref r) s') : wpAny (model pg w) A (call (.ref 168) [.ref a]) Q E s := by
  refine call_fn (binds := [(Str.ofString "script", .ref a)]) (m0 := fun _ => upd m00 (Str.ofString "script") (.ref a)) C W (by with_unfolding_all rfl) (by kernel_rfl) (by have := hA.dp; omega) (by with_unfolding_all rfl) (by with_unfolding_all rfl) (by decide +kernel) (fun L' => rfl) ?_ (by rfl) (by rfl) (by rfl)
  intro B' L' cells s' E' hB hY C'
  cases hY
  replace C' : Cx B' L' G (upd m00 (Str.ofString "script") (.ref a)) mu s' := C'
  have W' := W.le hB
  have hvl : vs.length = ns.length := hi.length
  tb_rel
  refine r_compA (cl := []) (by rfl) (by rfl) rfl (by decide +kernel) ?_
  tb_rel
  refine r_sliceI (by assumption) ⟨oa, Cx.know (by assumption) _ _ ha, hcl, n, hda⟩ .none (.int 60 _) (kmk_upto hi (by decide)) (by omega) fun sl osl s2 hsl C2 => ?_
  have hsll : (ns.take (60 : Int).toNat).length ≤ 60 := by rw [List.length_take]; exact Nat.min_le_left _ _
  refine compN (Rv := isI) C2 hsl (by omega) (fun i _ mu' ys => mu' = [] ++ mu ∧ ys = (ns.take (60 : Int).toNat).take i) (fun _ _ => ⟨rfl, rfl⟩) ?_ ?_ hA.hh rfl (by decide +kernel) rfl
  · rintro Cc i v x hi hv B3 G3 mc mu3 ys s3 E3 hB3 hG3 ⟨rfl, rfl⟩ hm C3
    obtain ⟨t3, rfl⟩ := hv
    have W3 := W'.le hB3
    refine tests_nil ?_
    rw [if_pos rfl]
    tb_rel
    refine call_int_int ?_
    exact ⟨x, G3, mc, _, ⟨t3, rfl⟩, Le.rfl', ⟨rfl, by rw [List.take_add_one, hi]; rfl⟩, C3⟩
  rintro G3 mu3 ys Cl oCl Cc oC mC s3 hG3 ⟨rfl, rfl⟩ hys C3 hN
  refine post_use C3 hN rfl rfl fun s4 C4 => ?_
  rw [List.take_length] at hys
  tb_rel
  refine r_truthy C4 (C4.getL (by k_mem)) hys (by omega) fun s5 C5 => ?_
  cases hc : ns.take (60 : Int).toNat with
  | nil =>
    rw [if_neg (by simp)]
    tb_rel
    refine r_newList (R := isI) (xs := [0]) (by assumption) (.cons ⟨_, rfl⟩ .nil) (by simp) fun c oc s6 hoc C6 => ?_
    obtain ⟨G7, hG7, hgc, C7⟩ := C6.freeze (i := 0) rfl
    tb_rel
    refine r_newList (R := Eq) (xs := [.ref c, .int 0 _]) (by assumption) (.cons rfl (.cons rfl .nil)) (by simp) fun r o s8 ho C8 => ?_
    refine ⟨G7, _, _, C8, fun C9 => ?_⟩
    exact h r o c [0] G7 _ (hG3.trans hG7) (by simp) (by simp) ⟨oc, hgc, hoc⟩ ⟨_, ho⟩ (C9.drop (.cons_cons _ (.cons _ (List.Sublist.refl _))))
  | cons x xs =>
    rw [if_pos (by simp)]
    tb_rel
    rename Cx _ _ _ _ _ _ => C6
    obtain ⟨G7, hG7, hgc, C7⟩ := C6.freeze (i := 0) rfl
    refine r_newList (R := Eq) (xs := [.ref Cl, .int 0 _]) C7 (.cons rfl (.cons rfl .nil)) (by simp) fun r o s8 ho C8 => ?_
    refine ⟨G7, _, _, C8, fun C9 => ?_⟩
    exact h r o Cl _ G7 _ (hG3.trans hG7) (by rw [hc]; simp) hsll ⟨oCl, hgc, hys⟩ ⟨_, ho⟩ C9
end
theorem AOk.under {A : Around} {k : Nat} {c : Addr} {vals : List Value} (x : AOk A (k + 1)) : AOk (A.under (.builtin "type.__call__" ⟨.ref c :: vals, []⟩)) k :=
  ⟨x.hh, by have := x.dp; rw [depth_under_make]; omega, by have := x.un; rw [units_under_make]; omega⟩
theorem kl_rule (w : World) : Kl w 52 := ⟨by kernel_rfl, by kernel_rfl, by kernel_rfl, by kernel_rfl⟩
theorem kl_ctx (w : World) : Kl w 95 := ⟨by kernel_rfl, by kernel_rfl, by kernel_rfl, by kernel_rfl⟩
theorem kl_look (w : World) : Kl w 152 := ⟨by kernel_rfl, by kernel_rfl, by kernel_rfl, by kernel_rfl⟩
section
set_option maxHeartbeats 8000000
variable {w : World} {A : Around} {E : Value → Shared → Prop} {B : Pin} {L : Addr} {G : Kn} {m : Str → Option Value} {mu : Mu} {s : Shared} {env : Env}
theorem sp_rule {vb vi va vc : Value} {Q : Value → Shared → Prop} (C : Cx B L G m mu s) (W : Wd w B.heap) (hA : AOk A 2)
    (h : ∀ x dx es n f s', Fo es f 4 → f (Str.ofString "actions") = some vc → Cx B L G m ((dx, dictOf es n) :: (x, instObj 52 dx) :: mu) s' → Q (.ref x) s') : wpAny (model pg w) A (call (.ref 52) [vb, vi, va, vc]) Q E s := by
  refine r_make (fI := 35) C W (kl_rule w) (by kernel_rfl) (by kernel_rfl) fun x dx s1 C1 => ?_
  refine code_fn (binds := [(Str.ofString "self", .ref x), (Str.ofString "back", vb), (Str.ofString "inside", vi), (Str.ofString "ahead", va), (Str.ofString "actions", vc)]) (m0 := fun _ => upd (upd (upd (upd (upd m00 (Str.ofString "self") (.ref x)) (Str.ofString "back") vb) (Str.ofString "inside") vi) (Str.ofString "ahead") va) (Str.ofString "actions") vc) C1 W (by with_unfolding_all rfl) (by kernel_rfl) (by have := hA.dp; rw [depth_under_make]; omega) (fun _ => BindsTo.of_eq (by with_unfolding_all rfl)) (by with_unfolding_all rfl) (by decide +kernel) (fun L' => rfl) ?_ (by rfl) (by rfl) (by rfl)
  intro B' L' cells s' E' hB hY C'
  cases hY
  replace C' : Cx B' L' G (upd (upd (upd (upd (upd m00 (Str.ofString "self") (.ref x)) (Str.ofString "back") vb) (Str.ofString "inside") vi) (Str.ofString "ahead") va) (Str.ofString "actions") vc) ((dx, dictOf [] 0) :: (x, instObj 52 dx) :: mu) s' := C'
  have W' := W.le hB
  tb_rel
  ((with_reducible refine plainObj_wpAny_Assign_Attribute ?_ ?_); rotate_left; with_unfolding_all rfl)
  tb_rel
  refine r_setAttr C' W' (C'.getL (by k_mem)) Fo.nil (by decide) (kl_rule w) (by kernel_rfl) fun es1 n1 s2 f1 C1 => ?_
  tb_rel
  ((with_reducible refine plainObj_wpAny_Assign_Attribute ?_ ?_); rotate_left; with_unfolding_all rfl)
  tb_rel
  refine r_setAttr C1 W' (C1.getL (by k_mem)) f1 (by decide) (kl_rule w) (by kernel_rfl) fun es2 n2 s3 f2 C2 => ?_
  tb_rel
  ((with_reducible refine plainObj_wpAny_Assign_Attribute ?_ ?_); rotate_left; with_unfolding_all rfl)
  tb_rel
  refine r_setAttr C2 W' (C2.getL (by k_mem)) f2 (by decide) (kl_rule w) (by kernel_rfl) fun es3 n3 s4 f3 C3 => ?_
  tb_rel
  ((with_reducible refine plainObj_wpAny_Assign_Attribute ?_ ?_); rotate_left; with_unfolding_all rfl)
  tb_rel
  refine r_setAttr C3 W' (C3.getL (by k_mem)) f3 (by decide) (kl_rule w) (by kernel_rfl) fun es4 n4 s5 f4 C4 => ?_
  tb_rel
  refine ⟨_, _, _, C4, fun C9 => ⟨rfl, ?_⟩⟩
  exact h x dx _ _ _ _ f4 (by tlg_ne) C9
theorem sp_ctx {vf vc vs : Value} {Q : Value → Shared → Prop} (C : Cx B L G m mu s) (W : Wd w B.heap) (hA : AOk A 2)
    (h : ∀ x dx es n f s', Fo es f 5 → f (Str.ofString "sets") = some vs → f (Str.ofString "rules") = none → Cx B L G m ((dx, dictOf es n) :: (x, instObj 95 dx) :: mu) s' → Q (.ref x) s') : wpAny (model pg w) A (call (.ref 95) [vf, vc, vs]) Q E s := by
  refine r_make (fI := 71) C W (kl_ctx w) (by kernel_rfl) (by kernel_rfl) fun x dx s1 C1 => ?_
  refine code_fn (binds := [(Str.ofString "self", .ref x), (Str.ofString "form", vf), (Str.ofString "is_chained", vc), (Str.ofString "sets", vs), (Str.ofString "coverage", .none), (Str.ofString "classes", .none)]) (m0 := fun _ => upd (upd (upd (upd (upd (upd m00 (Str.ofString "self") (.ref x)) (Str.ofString "form") vf) (Str.ofString "is_chained") vc) (Str.ofString "sets") vs) (Str.ofString "coverage") .none) (Str.ofString "classes") .none) C1 W (by with_unfolding_all rfl) (by kernel_rfl) (by have := hA.dp; rw [depth_under_make]; omega) (fun X => binds_K X rfl (by with_unfolding_all rfl) rfl (by with_unfolding_all rfl) (by with_unfolding_all rfl)) (by with_unfolding_all rfl) (by decide +kernel) (fun L' => rfl) ?_ (by rfl) (by rfl) (by rfl)
  intro B' L' cells s' E' hB hY C'
  cases hY
  replace C' : Cx B' L' G (upd (upd (upd (upd (upd (upd m00 (Str.ofString "self") (.ref x)) (Str.ofString "form") vf) (Str.ofString "is_chained") vc) (Str.ofString "sets") vs) (Str.ofString "coverage") .none) (Str.ofString "classes") .none) ((dx, dictOf [] 0) :: (x, instObj 95 dx) :: mu) s' := C'
  have W' := W.le hB
  tb_rel
  ((with_reducible refine plainObj_wpAny_Assign_Attribute ?_ ?_); rotate_left; with_unfolding_all rfl)
  tb_rel
  refine r_setAttr C' W' (C'.getL (by k_mem)) Fo.nil (by decide) (kl_ctx w) (by kernel_rfl) fun es1 n1 s2 f1 D1 => ?_
  tb_rel
  ((with_reducible refine plainObj_wpAny_Assign_Attribute ?_ ?_); rotate_left; with_unfolding_all rfl)
  tb_rel
  refine r_setAttr D1 W' (D1.getL (by k_mem)) f1 (by decide) (kl_ctx w) (by kernel_rfl) fun es2 n2 s3 f2 D2 => ?_
  tb_rel
  ((with_reducible refine plainObj_wpAny_Assign_Attribute ?_ ?_); rotate_left; with_unfolding_all rfl)
  tb_rel
  refine r_setAttr D2 W' (D2.getL (by k_mem)) f2 (by decide) (kl_ctx w) (by kernel_rfl) fun es3 n3 s4 f3 D3 => ?_
  tb_rel
  ((with_reducible refine plainObj_wpAny_Assign_Attribute ?_ ?_); rotate_left; with_unfolding_all rfl)
  tb_rel
  refine r_setAttr D3 W' (D3.getL (by k_mem)) f3 (by decide) (kl_ctx w) (by kernel_rfl) fun es4 n4 s5 f4 D4 => ?_
  tb_rel
  ((with_reducible refine plainObj_wpAny_Assign_Attribute ?_ ?_); rotate_left; with_unfolding_all rfl)
  tb_rel
  refine r_setAttr D4 W' (D4.getL (by k_mem)) f4 (by decide) (kl_ctx w) (by kernel_rfl) fun es5 n5 s6 f5 D5 => ?_
  tb_rel
  refine ⟨_, _, _, D5, fun C9 => ⟨rfl, ?_⟩⟩
  exact h x dx _ _ _ _ f5 (by tlg_ne) (upd_ne (by decide +kernel) (upd_ne (by decide +kernel) (upd_ne (by decide +kernel) (upd_ne (by decide +kernel) (upd_ne (by decide +kernel) rfl))))) C9
theorem sp_look {vk vf vm vt : Value} {Q : Value → Shared → Prop} (C : Cx B L G m mu s) (W : Wd w B.heap) (hA : AOk A 2)
    (h : ∀ x dx es n f s', Fo es f 4 → f (Str.ofString "kind") = some vk → f (Str.ofString "tables") = some vt → Cx B L G m ((dx, dictOf es n) :: (x, instObj 152 dx) :: mu) s' → Q (.ref x) s') : wpAny (model pg w) A (call (.ref 152) [vk, vf, vm, vt]) Q E s := by
  refine r_make (fI := 142) C W (kl_look w) (by kernel_rfl) (by kernel_rfl) fun x dx s1 C1 => ?_
  refine code_fn (binds := [(Str.ofString "self", .ref x), (Str.ofString "kind", vk), (Str.ofString "flag", vf), (Str.ofString "mark_set", vm), (Str.ofString "tables", vt)]) (m0 := fun _ => upd (upd (upd (upd (upd m00 (Str.ofString "self") (.ref x)) (Str.ofString "kind") vk) (Str.ofString "flag") vf) (Str.ofString "mark_set") vm) (Str.ofString "tables") vt) C1 W (by with_unfolding_all rfl) (by kernel_rfl) (by have := hA.dp; rw [depth_under_make]; omega) (fun _ => BindsTo.of_eq (by with_unfolding_all rfl)) (by with_unfolding_all rfl) (by decide +kernel) (fun L' => rfl) ?_ (by rfl) (by rfl) (by rfl)
  intro B' L' cells s' E' hB hY C'
  cases hY
  replace C' : Cx B' L' G (upd (upd (upd (upd (upd m00 (Str.ofString "self") (.ref x)) (Str.ofString "kind") vk) (Str.ofString "flag") vf) (Str.ofString "mark_set") vm) (Str.ofString "tables") vt) ((dx, dictOf [] 0) :: (x, instObj 152 dx) :: mu) s' := C'
  have W' := W.le hB
  tb_rel
  ((with_reducible refine plainObj_wpAny_Assign_Attribute ?_ ?_); rotate_left; with_unfolding_all rfl)
  tb_rel
  refine r_setAttr C' W' (C'.getL (by k_mem)) Fo.nil (by decide) (kl_look w) (by kernel_rfl) fun es1 n1 s2 f1 D1 => ?_
  tb_rel
  ((with_reducible refine plainObj_wpAny_Assign_Attribute ?_ ?_); rotate_left; with_unfolding_all rfl)
  tb_rel
  refine r_setAttr D1 W' (D1.getL (by k_mem)) f1 (by decide) (kl_look w) (by kernel_rfl) fun es2 n2 s3 f2 D2 => ?_
  tb_rel
  ((with_reducible refine plainObj_wpAny_Assign_Attribute ?_ ?_); rotate_left; with_unfolding_all rfl)
  tb_rel
  refine r_setAttr D2 W' (D2.getL (by k_mem)) f2 (by decide) (kl_look w) (by kernel_rfl) fun es3 n3 s4 f3 D3 => ?_
  tb_rel
  ((with_reducible refine plainObj_wpAny_Assign_Attribute ?_ ?_); rotate_left; with_unfolding_all rfl)
  tb_rel
  refine r_setAttr D3 W' (D3.getL (by k_mem)) f3 (by decide) (kl_look w) (by kernel_rfl) fun es4 n4 s5 f4 D4 => ?_
  tb_rel
  refine ⟨_, _, _, D4, fun C9 => ⟨rfl, ?_⟩⟩
  exact h x dx _ _ _ _ f4 (by tlg_ne) (by tlg_ne) C9
end
theorem pr_eq {α : Type} {vs xs : List α} (p : Paired Eq vs xs) : vs = xs := by
  induction p with
  | nil => rfl
  | cons a _ ih => rw [a, ih]
def isPair (G : Kn) (v : Value) (g : Int) : Prop := ∃ t ot a tk, v = .ref t ∧ G t = some ot ∧ TO ot [a, .int g tk]
def isActs (G : Kn) (v : Value) (part : List Int) : Prop := ∃ t ot vs, v = .ref t ∧ G t = some ot ∧ TO ot vs ∧ Paired (isPair G) vs part
def isRule (G : Kn) (v : Value) (part : List Int) : Prop := ∃ x dx es n f va, v = .ref x ∧ G x = some (instObj 52 dx) ∧ G dx = some (dictOf es n) ∧ Fo es f 4 ∧ f (Str.ofString "actions") = some va ∧ isActs G va part
def isTab (w : World) (G : Kn) (v : Value) (part : List Int) : Prop := ∃ x dx es n f d od rl orl vr, v = .ref x ∧ G x = some (instObj 95 dx) ∧ G dx = some (dictOf es n) ∧ Fo es f 5 ∧ f (Str.ofString "sets") = some (.ref d) ∧ f (Str.ofString "rules") = none ∧ (d == sysModules) = false ∧ G d = some od ∧ DO w od [(3, .ref rl)] ∧ G rl = some orl ∧ OV Eq orl [vr] ∧ isRule G vr part
def isLook (w : World) (G : Kn) (v : Value) (row : List Int) : Prop := ∃ x dx es n f t T oT v1 v2, v = .ref x ∧ G x = some (instObj 152 dx) ∧ G dx = some (dictOf es n) ∧ Fo es f 4 ∧ f (Str.ofString "kind") = some (.str (Str.ofString "context") t) ∧ f (Str.ofString "tables") = some (.ref T) ∧ G T = some oT ∧ OV Eq oT [v1, v2] ∧ isTab w G v1 (row.take 1) ∧ isTab w G v2 (row.drop 1)
theorem isPair.le {G G' : Kn} (h : Le G G') {v : Value} {g : Int} (x : isPair G v g) : isPair G' v g := let ⟨t, ot, a, tk, e, h1, h2⟩ := x; ⟨t, ot, a, tk, e, h _ _ h1, h2⟩
theorem isActs.le {G G' : Kn} (h : Le G G') {v : Value} {g : List Int} (x : isActs G v g) : isActs G' v g := let ⟨t, ot, vs, e, h1, h2, p⟩ := x; ⟨t, ot, vs, e, h _ _ h1, h2, pr_mono (fun _ _ => isPair.le h) p⟩
theorem isRule.le {G G' : Kn} (h : Le G G') {v : Value} {g : List Int} (x : isRule G v g) : isRule G' v g := let ⟨a, b, c, d, e, f, h1, h2, h3, h4, h5, h6⟩ := x; ⟨a, b, c, d, e, f, h1, h _ _ h2, h _ _ h3, h4, h5, h6.le h⟩
theorem isTab.le {w : World} {G G' : Kn} (h : Le G G') {v : Value} {g : List Int} (x : isTab w G v g) : isTab w G' v g := let ⟨a, b, c, d, e, f, g, h', i, j, h1, h2, h3, h4, h5, h5', h6, h7, h8, h9, h10, h11⟩ := x; ⟨a, b, c, d, e, f, g, h', i, j, h1, h _ _ h2, h _ _ h3, h4, h5, h5', h6, h _ _ h7, h8, h _ _ h9, h10, h11.le h⟩

section
set_option maxHeartbeats 8000000
variable {w : World} {A : Around} {E : Value → Shared → Prop} {B : Pin} {L : Addr} {G : Kn} {m : Str → Option Value} {mu : Mu} {s : Shared} {env : Env}
theorem sp_lookup {a : Addr} {row : List Int} {Q : Value → Shared → Prop} (C : Cx B L G m mu s) (W : Wd w B.heap) (hA : AOk A 3) (ha : isRow G a row) (hz : row.length ≤ 60)
    (h : ∀ v G' s', Le G G' → isLook w G' v row → Cx B L G' m mu s' → Q v s') : wpAny (model pg w) A (call (.ref 173) [.ref a]) Q E s := by
  refine call_fn (binds := [(Str.ofString "row", .ref a)]) (m0 := fun _ => upd m00 (Str.ofString "row") (.ref a)) C W (by with_unfolding_all rfl) (by kernel_rfl) (by have := hA.dp; omega) (by with_unfolding_all rfl) (by with_unfolding_all rfl) (by decide +kernel) (fun L' => rfl) ?_ (by rfl) (by rfl) (by rfl)
  intro B' L' cells s' E' hB hY C'
  cases hY
  replace C' : Cx B' L' G (upd m00 (Str.ofString "row") (.ref a)) mu s' := C'
  have W' := W.le hB
  tb_rel
  refine r_newList (R := Eq) (xs := []) (by assumption) .nil (by simp) fun T oT s1 hT C1 => ?_
  tb_rel
  obtain ⟨oa, hga, hoa⟩ := ha
  obtain ⟨vs, nn, hoe, hpv⟩ := id hoa
  have hvl := hpv.length
  refine Tuple_ ?_
  tb_rel
  refine r_sliceI (by assumption) (isList_of (Cx.know (by assumption) _ _ hga) hoe) .none (.int 1 _) (kmk_upto (pr_ints hpv) (by decide)) (by omega) fun p1 op1 s2 hp1 C2 => ?_
  tb_rel
  refine r_sliceI (by assumption) (isList_of (Cx.know (by assumption) _ _ hga) hoe) (.int 1 _) .none (kmk_from (pr_ints hpv) (by decide)) (by omega) fun p2 op2 s3 hp2 C3 => ?_
  tb_rel
  refine r_newTuple (by assumption) (by simp) fun tt ott s4 htt C4 => ?_
  obtain ⟨G1, hG1, hgt, C5⟩ := C4.freeze (i := 0) rfl
  obtain ⟨G2, hG2, hg2, C6⟩ := C5.freeze (i := 0) rfl
  obtain ⟨G3, hG3, hg3, C7⟩ := C6.freeze (i := 0) rfl
  replace C7 : Cx B' L' G3 _ ((T, oT) :: mu) _ := C7
  have hgt3 := hG3 _ _ (hG2 _ _ hgt)
  have hg23 := hG3 _ _ hg2
  refine r_forTup C7 hgt3 htt (fun i G m mu' => m (Str.ofString "tables") = some (.ref T) ∧ ∃ oT ts, mu' = (T, oT) :: mu ∧ OV Eq oT ts ∧ Paired (isTab w G) ts ([row.take 1, row.drop 1].take i)) ⟨rfl, oT, [], rfl, hT, .nil⟩ ?_ ?_ hA.hh rfl rfl
  · rintro i v B4 G4 m4 mu4 s5 E5 hv hB4 hG4 ⟨hm4, oT4, ts, rfl, hT4, hts⟩ C8
    have W8 := W'.le hB4
    obtain ⟨part, op, pa, hpart, rfl, hgp, hop⟩ : ∃ part op pa, [row.take 1, row.drop 1][i]? = some part ∧ v = .ref pa ∧ G4 pa = some op ∧ OI op part := by
      rcases i with _ | _ | i
      · have e : v = .ref p1 := by simpa using hv.symm
        exact ⟨_, op1, p1, rfl, e, hG4 _ _ hg3, hp1⟩
      · have e : v = .ref p2 := by simpa using hv.symm
        exact ⟨_, op2, p2, rfl, e, hG4 _ _ hg23, hp2⟩
      · simp at hv
    have hpl : part.length ≤ 60 := by
      rcases i with _ | _ | i
      · have e : part = row.take 1 := by simpa using hpart.symm
        rw [e, List.length_take]; omega
      · have e : part = row.drop 1 := by simpa using hpart.symm
        rw [e, List.length_drop]; omega
      · simp at hpart
    tb_rel
    refine r_dict1 (by assumption) W8 fun d od s6 hds C9 => ?_
    tb_rel
    refine Tuple_ ?_
    tb_rel
    refine r_newTuple (by assumption) (by simp) fun t1 ot1 s7 ht1 C10 => ?_
    tb_rel
    refine Tuple_ ?_
    tb_rel
    refine r_newTuple (by assumption) (by simp) fun t2 ot2 s8 ht2 C11 => ?_
    tb_rel
    refine Tuple_ ?_
    tb_rel
    refine r_newTuple (by assumption) (by simp) fun t3 ot3 s9 ht3 C12 => ?_
    tb_rel
    refine r_comp (cl := []) (by rfl) rfl (by decide +kernel) ?_
    tb_rel
    rename Cx _ _ _ _ _ _ => C13
    refine compL (Rv := Eq) (Ra := isI) C13 hgp hop (by omega) (fun i G mu' ys => mu' = (t3, ot3) :: (t2, ot2) :: (t1, ot1) :: (d, od) :: (T, oT4) :: mu ∧ Paired (isPair G) ys (part.take i)) ⟨rfl, .nil⟩ ?_ ?_ hA.hh rfl (by decide +kernel) rfl
    · rintro Cc j vj xj hxj ⟨tj, rfl⟩ B5 G5 mc mu5 ys s10 E10 hB5 hG5 ⟨rfl, hys⟩ hm5 C14
      have W5 := W8.le hB5
      refine tests_nil ?_
      rw [if_pos rfl]
      refine Tuple_ ?_
      tb_rel
      refine r_newTuple (by assumption) (by simp) fun t5 ot5 s11 ht5 C15 => ?_
      obtain ⟨G6, hG6, hg6, C16⟩ := C15.freeze (i := 0) rfl
      refine ⟨.ref t5, G6, mc, _, rfl, hG6, ⟨rfl, ?_⟩, C16⟩
      rw [List.take_add_one, hxj]
      exact pr_app (pr_mono (fun _ _ => isPair.le hG6) hys) (.cons ⟨t5, ot5, _, _, rfl, hg6, ht5⟩ .nil)
    · rintro G5 mu5 ys D oD Cc oC mC s10 hG5 ⟨rfl, hys⟩ hOD C14 hN
      rw [List.take_length] at hys
      have hyl := hys.length
      refine post_none C14 hN fun s11 C15 => ?_
      tb_rel
      refine r_tupleOf C15 (C15.getL (by k_mem)) hOD (by omega) fun tt ott vt s12 hpt htt C16 => ?_
      have evt : vt = ys := pr_eq hpt
      obtain ⟨G6, hG6, hg6, C17⟩ := C16.freeze (i := 0) rfl
      have hact : isActs G6 (.ref tt) part := ⟨tt, ott, vt, rfl, hg6, htt, by rw [evt]; exact pr_mono (fun _ _ => isPair.le hG6) hys⟩
      tb_rel
      refine sp_rule (by assumption) W8 (hA.deeper.le) fun x dx es n f s13 hF hfa C18 => ?_
      obtain ⟨G7, hG7, hgd, C19⟩ := C18.freeze (i := 0) rfl
      obtain ⟨G8, hG8, hgx, C20⟩ := C19.freeze (i := 0) rfl
      have hrule : isRule G8 (.ref x) part := ⟨x, dx, es, n, f, _, rfl, hgx, hG8 _ _ hgd, hF, hfa, hact.le (hG7.trans hG8)⟩
      tb_rel
      refine r_newList (R := Eq) (xs := [.ref x]) (by assumption) (.cons rfl .nil) (by simp) fun rl orl s14 hrl C21 => ?_
      obtain ⟨G9, hG9, hgrl, C22⟩ := C21.freeze (i := 0) rfl
      refine ⟨3, _, G9, _, (T, oT4) :: mu, rfl, C22.drop ?_, ?_⟩
      · simp only [List.eraseIdx_cons_zero]
        exact .cons _ (.cons _ (.cons _ (.cons _ (List.Sublist.refl _))))
      intro od' s15 hod' C23
      obtain ⟨G10, hG10, hgod, C24⟩ := C23.freeze (i := 0) rfl
      tb_rel
      refine sp_ctx (by assumption) W8 (hA.deeper.le) fun x2 dx2 es2 n2 f2 s16 hF2 hf2 hr2 C25 => ?_
      obtain ⟨G11, hG11, hgd2, C26⟩ := C25.freeze (i := 0) rfl
      obtain ⟨G12, hG12, hgx2, C27⟩ := C26.freeze (i := 0) rfl
      have htab : isTab w G12 (.ref x2) part := ⟨x2, dx2, es2, n2, f2, d, od', rl, orl, .ref x, rfl, hgx2, hG12 _ _ hgd2, hF2, hf2, hr2, hds, hG12 _ _ (hG11 _ _ hgod), hod', hG12 _ _ (hG11 _ _ (hG10 _ _ hgrl)), hrl, (hrule.le hG9).le (hG10.trans (hG11.trans hG12))⟩
      tb_rel
      refine r_append (i := 0) (R := Eq) (x := .ref x2) C27 rfl hT4 rfl (by have := hts.length; simp at this; omega) fun oT5 s17 hT5 C28 => ?_
      tb_rel
      have gle : Le G4 G12 := (hG5.trans hG6).trans ((hG7.trans hG8).trans ((hG9.trans hG10).trans (hG11.trans hG12)))
      refine ⟨G12, _, _, gle, ⟨?_, oT5, _, rfl, hT5, ?_⟩, C28⟩
      · tlg_ne
      · rw [List.take_add_one, hpart]
        exact pr_app (pr_mono (fun _ _ => isTab.le gle) hts) (.cons htab .nil)
  · rintro G4 m4 mu4 s5 hG4 ⟨hm4, oT4, ts, rfl, hT4, hts⟩ C8
    tb_rel
    refine sp_look (by assumption) W' (hA.deeper.le) fun x dx es n f s6 hF hfk hft C9 => ?_
    obtain ⟨G5, hG5, hgd, C10⟩ := C9.freeze (i := 0) rfl
    obtain ⟨G6, hG6, hgx, C11⟩ := C10.freeze (i := 0) rfl
    obtain ⟨G7, hG7, hgT, C12⟩ := C11.freeze (i := 0) rfl
    refine ⟨G7, _, _, C12, fun C13 => ?_⟩
    have gle : Le G4 G7 := hG5.trans (hG6.trans hG7)
    have hts' : Paired (isTab w G4) ts [row.take 1, row.drop 1] := by simpa using hts
    obtain ⟨v1, v2, rfl, ht1, ht2⟩ : ∃ v1 v2, ts = [v1, v2] ∧ isTab w G4 v1 (row.take 1) ∧ isTab w G4 v2 (row.drop 1) := by
      cases hts' with
      | cons a r => cases r with
        | cons b r => cases r; exact ⟨_, _, rfl, a, b⟩
    refine h _ G7 _ ((hG1.trans hG2).trans (hG3.trans (hG4.trans gle))) ⟨x, dx, es, n, f, _, T, oT4, v1, v2, rfl, hG7 _ _ hgx, hG7 _ _ (hG6 _ _ hgd), hF, hfk, hft, hgT, hT4, ht1.le gle, ht2.le gle⟩ C13
end
section
set_option maxHeartbeats 8000000
variable {w : World} {A : Around} {E : Value → Shared → Prop} {B : Pin} {L : Addr} {G : Kn} {m : Str → Option Value} {mu : Mu} {s : Shared} {env : Env}
theorem r_dictItem {value slice : Expr} {d : Addr} {o : Obj} {kvs : List (Int × Value)} {k : Int} {t : Tok} {v : Value} {Q : Value → Shared → Prop} (C : Cx B L G m mu s) (hd : s.heap.get? d = some o) (ho : DO w o kvs) (hv : valueAt kvs k = some v)
    (h : ∀ s', Cx B L G m mu s' → Q v s')
    (hs : subscripted slice false (.ref d) (.int k t) = operate [.ref d, .int k t] (getItem (.ref d) (.int k t)) := by with_unfolding_all rfl) : wpAny (model pg w) A (subscriptTail value slice (.ref d) (.int k t)) Q E s :=
  tail_any (ho.at hd).typeIs slot_dict_getitem.lookup (r_getDict C hd ho hv h) hs

theorem sp_rules {x : Addr} {part : List Int} {Q : Value → Shared → Prop} (C : Cx B L G m mu s) (W : Wd w B.heap) (hA : AOk A 1) (hx : isTab w G (.ref x) part)
    (h : ∀ r o vr s', OV Eq o [vr] → isRule G vr part → Cx B L G m ((r, o) :: mu) s' → Q (.ref r) s') : wpAny (model pg w) A (call (.ref 92) [.ref x]) Q E s := by
  obtain ⟨x', dx, es, n, f, d, od, rl, orl, vr, e, hgx, hgd, hF, hfs, hfr, hds, hgod, hod, hgrl, horl, hrule⟩ := hx
  cases e
  refine call_fn (binds := [(Str.ofString "self", .ref x)]) (m0 := fun _ => upd m00 (Str.ofString "self") (.ref x)) C W (by with_unfolding_all rfl) (by kernel_rfl) (by have := hA.dp; omega) (by with_unfolding_all rfl) (by with_unfolding_all rfl) (by decide +kernel) (fun L' => rfl) ?_ (by rfl) (by rfl) (by rfl)
  intro B' L' cells s' E' hB hY C'
  cases hY
  replace C' : Cx B' L' G (upd m00 (Str.ofString "self") (.ref x)) mu s' := C'
  have W' := W.le hB
  tb_rel
  refine r_newList (R := Eq) (xs := []) (by assumption) .nil (by simp) fun F oF s1 hoF C1 => ?_
  tb_rel
  refine r_getAttr (attr := none) (f := f) (es := es) (dx := dx) (c := 95) (by assumption) W' (Cx.know (by assumption) _ _ hgx) (Cx.know (by assumption) _ _ hgd) hF hfs (by kernel_rfl) (by kernel_rfl) (by kernel_rfl) (by rfl) (by rfl) fun s2 C2 => ?_
  tb_rel
  refine r_sortedDict C2 hA.hh (C2.know _ _ hgod) hod hds (by simp) fun S oS s3 ks hS hks _ C3 => ?_
  have eks : ks = [3] := by simpa using hks
  subst eks
  tb_rel
  refine r_forNew C3 hS (fun i _ m mu' => m (Str.ofString "found") = some (.ref F) ∧ m (Str.ofString "self") = some (.ref x) ∧ ∃ oF, mu' = (F, oF) :: mu ∧ OV Eq oF (if i = 0 then [] else [vr])) (fun _ _ => ⟨by tlg_ne, by tlg_ne, oF, rfl, hoF⟩) ?_ ?_ hA.hh rfl rfl
  · rintro i v k B4 G4 m4 mu4 s4 E4 hk ⟨tk, rfl⟩ hB4 hG4 ⟨hmf, hms, oF4, rfl, hF4⟩ C4
    have W4 := W'.le hB4
    have hi : i = 0 ∧ k = 3 := by
      rcases i with _ | i
      · exact ⟨rfl, by simpa using hk.symm⟩
      · simp at hk
    obtain ⟨rfl, rfl⟩ := hi
    tb_rel
    refine r_getAttr (attr := none) (f := f) (es := es) (dx := dx) (c := 95) (by assumption) W4 (Cx.know (by assumption) _ _ (hG4 _ _ hgx)) (Cx.know (by assumption) _ _ (hG4 _ _ hgd)) hF hfs (by kernel_rfl) (by kernel_rfl) (by kernel_rfl) (by rfl) (by rfl) fun s5 C5 => ?_
    tb_rel
    refine r_dictItem (by assumption) (Cx.know (by assumption) _ _ (hG4 _ _ hgod)) hod (v := .ref rl) (by rfl) fun s6 C6 => ?_
    tb_rel
    refine r_forList C6 (hG4 _ _ hgrl) horl (fun i _ m mu' => m (Str.ofString "found") = some (.ref F) ∧ m (Str.ofString "self") = some (.ref x) ∧ ∃ oF, mu' = (F, oF) :: mu ∧ OV Eq oF (if i = 0 then [] else [vr])) ⟨by tlg_ne, by tlg_ne, oF4, rfl, by simpa using hF4⟩ ?_ ?_ hA.hh rfl rfl
    · rintro i v a B7 G7 m7 mu7 s7 E7 ha rfl hB7 hG7 ⟨hmf7, hms7, oF7, rfl, hF7⟩ C7
      have hi : i = 0 ∧ v = vr := by
        rcases i with _ | i
        · exact ⟨rfl, by simpa using ha.symm⟩
        · simp at ha
      obtain ⟨rfl, rfl⟩ := hi
      tb_rel
      refine r_append (i := 0) (R := Eq) (x := v) (by assumption) rfl hF7 rfl (by simp) fun oF8 s8 hF8 C8 => ?_
      tb_rel
      exact ⟨_, _, _, Le.rfl', ⟨by tlg_ne, by tlg_ne, oF8, rfl, by simpa using hF8⟩, C8⟩
    · rintro G7 m7 mu7 s7 hG7 ⟨hmf7, hms7, oF7, rfl, hF7⟩ C7
      tb_rel
      exact ⟨_, _, _, hG7, ⟨hmf7, hms7, oF7, rfl, by simpa using hF7⟩, C7⟩
  · rintro G4 m4 mu4 s4 hG4 ⟨hmf, hms, oF4, rfl, hF4⟩ C4
    tb_rel
    refine ⟨G4, _, _, C4, fun C9 => ?_⟩
    exact h F oF4 vr _ (by simpa using hF4) hrule (C9.weakG hG4 C.bG)
end
theorem mem_stored {kvs : List (Int × Value)} {k : Int} {v : Value} (g : Int) : g ∈ (stored kvs k v).map (·.1) ↔ g = k ∨ g ∈ kvs.map (·.1) := by
  by_cases h : k ∈ kvs.map (·.1)
  · have hk : (stored kvs k v).map (·.1) = kvs.map (·.1) := by
      unfold stored
      rw [if_pos (by simpa [List.any_eq_true] using h), keys_map_store]
    rw [hk]
    exact ⟨.inr, fun q => q.elim (fun e => e ▸ h) id⟩
  · have hk : (stored kvs k v).map (·.1) = kvs.map (·.1) ++ [k] := by
      unfold stored
      rw [if_neg (by simpa [List.any_eq_true] using h)]
      simp
    rw [hk]
    simp [or_comm]
theorem DO.nd {w : World} {o : Obj} {kvs : List (Int × Value)} (x : DO w o kvs) : (kvs.map (·.1)).Nodup := let ⟨_, _, _, _, _, _, h⟩ := x; h
theorem nd_len {xs ys : List Int} (hn : xs.Nodup) (h : ∀ g, g ∈ xs → g ∈ ys) : xs.length ≤ ys.length := nodup_sub_len hn h
section
set_option maxHeartbeats 8000000
variable {w : World} {A : Around} {E : Value → Shared → Prop} {B : Pin} {L : Addr} {G : Kn} {m : Str → Option Value} {mu : Mu} {s : Shared} {env : Env}
theorem r_method {x dx c fM : Addr} {es : List DictEntry} {n k : Nat} {f : Str → Option Value} {name : Str} {pl : Sem Bool} {Q : Value × List Value → Shared → Prop} (C : Cx B L G m mu s) (W : Wd w B.heap) (hx : s.heap.get? x = some (instObj c dx)) (hd : s.heap.get? dx = some (dictOf es n)) (hf : Fo es f k) (hv : f name = none)
    (hg : plainGet (K0 w) c name = true) (hfi : findIn (K0 w) (.ref c) name = some (some (.ref fM))) (ht : isFn (K0 w) (.ref fM) = true) (h : Q (.ref fM, [.ref x]) s) : wpAny (model pg w) A (getMethod (.ref x) name pl) Q E s :=
  method_inst C.fr W.X ⟨hx, rfl, rfl, hd⟩ hg hfi ht (by rw [hf.fl, hv]) h
theorem sp_lookups {x : Addr} {part : List Int} {Q : Value → Shared → Prop} (C : Cx B L G m mu s) (W : Wd w B.heap) (hA : AOk A 2) (hx : isTab w G (.ref x) part) (hz : part.length ≤ 60)
    (h : ∀ r o ys s', OI o ys → ys.Pairwise (· ≤ ·) → ys.Nodup → (∀ g, g ∈ ys ↔ g ∈ part) → Cx B L G m ((r, o) :: mu) s' → Q (.ref r) s') : wpAny (model pg w) A (call (.ref 106) [.ref x]) Q E s := by
  have hxx := hx
  obtain ⟨x', dx, es, n, f, d, od, rl, orl, vr, e, hgx, hgd, hF, hfs, hfr, hds, hgod, hod, hgrl, horl, _⟩ := hx
  cases e
  refine call_fn (binds := [(Str.ofString "table", .ref x)]) (m0 := fun _ => upd m00 (Str.ofString "table") (.ref x)) C W (by with_unfolding_all rfl) (by kernel_rfl) (by have := hA.dp; omega) (by with_unfolding_all rfl) (by with_unfolding_all rfl) (by decide +kernel) (fun L' => rfl) ?_ (by rfl) (by rfl) (by rfl)
  intro B' L' cells s' E' hB hY C'
  cases hY
  replace C' : Cx B' L' G (upd m00 (Str.ofString "table") (.ref x)) mu s' := C'
  have W' := W.le hB
  tb_rel
  refine r_dict0 (by assumption) W' fun D oD s1 hD hoD C1 => ?_
  tb_rel
  refine r_method (fM := 92) (c := 95) (f := f) (by assumption) W' (Cx.know (by assumption) _ _ hgx) (Cx.know (by assumption) _ _ hgd) hF hfr (by kernel_rfl) (by kernel_rfl) (by kernel_rfl) ?_
  refine callWith_K0 (inK (by assumption) W') (by kernel_rfl) ?_
  dsimp only [List.cons_append, List.nil_append]
  refine sp_rules (by assumption) W' hA.deeper hxx fun R oR vr s2 hoR hrule C2 => ?_
  tb_rel
  refine r_forNew C2 hoR (fun i G m mu' => m (Str.ofString "found") = some (.ref D) ∧ ∃ oD kvs, mu' = (D, oD) :: mu ∧ DO w oD kvs ∧ ∀ g, g ∈ kvs.map (·.1) ↔ (i = 1 ∧ g ∈ part)) (fun _ _ => ⟨by tlg_ne, oD, [], rfl, hoD, by simp⟩) ?_ ?_ hA.hh rfl rfl
  · rintro i v a B4 G4 m4 mu4 s4 E4 hi rfl hB4 hG4 ⟨hmf, oD4, kvs4, rfl, hD4, hk4⟩ C4
    have W4 := W'.le hB4
    have hi : i = 0 ∧ v = vr := by
      rcases i with _ | i
      · exact ⟨rfl, by simpa using hi.symm⟩
      · simp at hi
    obtain ⟨rfl, rfl⟩ := hi
    have hru := hrule.le hG4
    obtain ⟨y, dy, esy, ny, fy, va, rfl, hgy, hgdy, hFy, hfy, T, oT, vs, rfl, hgT, hoT, hpT⟩ := hru
    tb_rel
    refine r_getAttr (attr := none) (f := fy) (es := esy) (dx := dy) (c := 52) (by assumption) W4 (Cx.know (by assumption) _ _ hgy) (Cx.know (by assumption) _ _ hgdy) hFy hfy (by kernel_rfl) (by kernel_rfl) (by kernel_rfl) (by rfl) (by rfl) fun s5 C5 => ?_
    tb_rel
    have k0 : kvs4 = [] := by
      cases kvs4 with
      | nil => rfl
      | cons p _ => have := (hk4 p.1).mp (by simp); omega
    subst k0
    have hvl := hpT.length
    refine r_forPairs C5 hgT hoT (fun i v hv => ?_) (fun i G m mu' => m (Str.ofString "found") = some (.ref D) ∧ ∃ oD kvs, mu' = (D, oD) :: mu ∧ DO w oD kvs ∧ ∀ g, g ∈ kvs.map (·.1) ↔ g ∈ part.take i) ⟨by tlg_ne, oD4, [], rfl, hD4, by simp⟩ ?_ ?_ hA.hh rfl rfl rfl
    · obtain ⟨g, hg, t, ot, a, tk, e, h1, h2⟩ := pr_atv hpT hv
      exact ⟨t, ot, a, _, e, h1, h2⟩
    · rintro i v a b B6 G6 m6 mu6 s6 E6 hv ⟨t, ot, rfl, hgt, hot⟩ hB6 hG6 ⟨hmf6, oD6, kvs6, rfl, hD6, hk6⟩ C6
      obtain ⟨g, hg, t', ot', a', tk, e, h1, h2⟩ := pr_atv hpT hv
      cases e
      rw [hgt] at h1; cases h1
      have eb : a = a' ∧ b = .int g tk := by
        obtain ⟨n1, e1⟩ := hot
        obtain ⟨n2, e2⟩ := h2
        rw [e1] at e2
        injection e2 with _ _ e2
        injection e2 with e2
        simpa using e2
      obtain ⟨rfl, rfl⟩ := eb
      have l6 : kvs6.length ≤ part.length := by
        have := nodup_sub_len hD6.nd (l' := part) fun x hx => List.mem_of_mem_take ((hk6 x).mp hx)
        simpa using this
      tb_rel
      refine r_setDict (by assumption) hD6 (by omega) fun oD7 s7 hD7 C7 => ?_
      tb_rel
      refine ⟨G6, _, _, Le.rfl', ⟨by tlg_ne, oD7, _, rfl, hD7, fun x => ?_⟩, C7⟩
      rw [mem_stored, hk6, List.take_add_one, hg]
      simp [or_comm]
    · rintro G6 m6 mu6 s6 hG6 ⟨hmf6, oD6, kvs6, rfl, hD6, hk6⟩ C6
      tb_rel
      refine ⟨G6, _, _, hG6, ⟨hmf6, oD6, kvs6, rfl, hD6, fun g => ?_⟩, C6⟩
      rw [hk6, hvl, List.take_length]; simp
  · rintro G4 m4 mu4 s4 hG4 ⟨hmf, oD4, kvs4, rfl, hD4, hk4⟩ C4
    have hk4' : ∀ g, g ∈ kvs4.map (·.1) ↔ g ∈ part := fun g => by rw [hk4]; simp
    have l4 : kvs4.length ≤ part.length := by
      have := nodup_sub_len hD4.nd (l' := part) fun x hx => (hk4' x).mp hx
      simpa using this
    tb_rel
    refine r_sortedDict (by assumption) hA.hh (Cx.getL (by assumption) (by k_mem)) hD4 hD (by omega) fun r o' s5 ys ho hp hs C5 => ?_
    refine ⟨G4, _, _, C5, fun C9 => ?_⟩
    exact h r o' ys _ ho hs (hp.nodup_iff.mpr hD4.nd) (fun g => (hp.mem_iff).trans (hk4' g)) ((C9.weakG hG4 C.bG).drop (.cons_cons _ (.cons _ (List.Sublist.refl _))))
end
section
set_option maxHeartbeats 8000000
variable {w : World} {A : Around} {E : Value → Shared → Prop} {B : Pin} {L : Addr} {G : Kn} {m : Str → Option Value} {mu : Mu} {s : Shared} {env : Env}
theorem sp_next {v : Value} {row : List Int} {Q : Value → Shared → Prop} (C : Cx B L G m mu s) (W : Wd w B.heap) (hA : AOk A 3) (hx : isLook w G v row) (hz : row.length ≤ 4) (hsm : ∀ x ∈ row, 0 ≤ x ∧ x < 32)
    (h : ∀ r o ys s', OI o ys → ys.Pairwise (· ≤ ·) → ys.Nodup → (∀ g, g ∈ ys ↔ g ∈ row) → Cx B L G m ((r, o) :: mu) s' → Q (.ref r) s') : wpAny (model pg w) A (call (.ref 113) [v]) Q E s := by
  obtain ⟨x, dx, es, n, f, tk, T, oT, v1, v2, rfl, hgx, hgd, hF, hfk, hft, hgT, hoT, ht1, ht2⟩ := hx
  refine call_fn (binds := [(Str.ofString "lookup", .ref x)]) (m0 := fun _ => upd m00 (Str.ofString "lookup") (.ref x)) C W (by with_unfolding_all rfl) (by kernel_rfl) (by have := hA.dp; omega) (by with_unfolding_all rfl) (by with_unfolding_all rfl) (by decide +kernel) (fun L' => rfl) ?_ (by rfl) (by rfl) (by rfl)
  intro B' L' cells s' E' hB hY C'
  cases hY
  replace C' : Cx B' L' G (upd m00 (Str.ofString "lookup") (.ref x)) mu s' := C'
  have W' := W.le hB
  tb_rel
  refine r_newList (R := isI) (xs := []) (by assumption) .nil (by simp) fun F oF s1 hoF C1 => ?_
  tb_rel
  refine r_getAttr (attr := none) (f := f) (es := es) (dx := dx) (c := 152) (by assumption) W' (Cx.know (by assumption) _ _ hgx) (Cx.know (by assumption) _ _ hgd) hF hfk (by kernel_rfl) (by kernel_rfl) (by kernel_rfl) (by rfl) (by rfl) fun s2 C2 => ?_
  tb_rel
  refine eq_str ?_
  tb_rel
  rw [if_pos (by decide +kernel), if_pos rfl]
  tb_rel
  refine r_getAttr (attr := none) (f := f) (es := es) (dx := dx) (c := 152) (by assumption) W' (Cx.know (by assumption) _ _ hgx) (Cx.know (by assumption) _ _ hgd) hF hft (by kernel_rfl) (by kernel_rfl) (by kernel_rfl) (by rfl) (by rfl) fun s3 C3 => ?_
  tb_rel
  refine r_forList C3 hgT hoT (fun i G m mu' => m (Str.ofString "found") = some (.ref F) ∧ ∃ oF zs, mu' = (F, oF) :: mu ∧ OI oF zs ∧ (∀ g, g ∈ zs ↔ g ∈ ([row.take 1, row.drop 1].take i).flatten) ∧ zs.length ≤ ([row.take 1, row.drop 1].take i).flatten.length) ⟨by tlg_ne, oF, [], rfl, hoF, by simp, by simp⟩ ?_ ?_ hA.hh rfl rfl
  · rintro i v a B4 G4 m4 mu4 s4 E4 hi rfl hB4 hG4 ⟨hmf, oF4, zs, rfl, hF4, hz4, hl4⟩ C4
    have W4 := W'.le hB4
    obtain ⟨part, hpart, htab, y, rfl⟩ : ∃ part, [row.take 1, row.drop 1][i]? = some part ∧ isTab w G v part ∧ ∃ y, v = .ref y := by
      rcases i with _ | _ | i
      · have e : v = v1 := by simpa using hi.symm
        subst e
        exact ⟨_, rfl, ht1, ht1.choose, ht1.choose_spec.choose_spec.choose_spec.choose_spec.choose_spec.choose_spec.choose_spec.choose_spec.choose_spec.choose_spec.1⟩
      · have e : v = v2 := by simpa using hi.symm
        subst e
        exact ⟨_, rfl, ht2, ht2.choose, ht2.choose_spec.choose_spec.choose_spec.choose_spec.choose_spec.choose_spec.choose_spec.choose_spec.choose_spec.choose_spec.1⟩
      · simp at hi
    have hpl : part.length ≤ 4 := by
      rcases i with _ | _ | i
      · have e : part = row.take 1 := by simpa using hpart.symm
        rw [e, List.length_take]; omega
      · have e : part = row.drop 1 := by simpa using hpart.symm
        rw [e, List.length_drop]; omega
      · simp at hpart
    have hzl : zs.length ≤ 8 := by
      refine Nat.le_trans hl4 ?_
      rcases i with _ | _ | i
      · simp
      · simp; omega
      · simp at hpart
    tb_rel
    refine sp_lookups (by assumption) W4 hA.deeper (htab.le hG4) (by omega) fun R oR ys s5 hoR hys1 hys2 hys3 C5 => ?_
    tb_rel
    have hyl : ys.length ≤ part.length := nodup_sub_len hys2 fun x hx => (hys3 x).mp hx
    refine r_extend (i := 1) C5 rfl hF4 (C5.getL (by k_mem)) hoR (by omega) fun oF6 s6 hF6 C6 => ?_
    tb_rel
    refine ⟨G4, _, _, Le.rfl', ⟨by tlg_ne, oF6, zs ++ ys, rfl, hF6, fun g => ?_, ?_⟩, C6.drop (List.sublist_cons_self _ _)⟩
    · rw [List.mem_append, hz4, hys3, List.take_add_one (l := [row.take 1, row.drop 1]), hpart]; simp
    · rw [List.length_append, List.take_add_one (l := [row.take 1, row.drop 1]), hpart]; simp at hl4 ⊢; omega
  · rintro G4 m4 mu4 s4 hG4 ⟨hmf, oF4, zs, rfl, hF4, hz4, hl4⟩ C4
    have hz5 : ∀ g, g ∈ zs ↔ g ∈ row := fun g => by
      rw [hz4]
      have : ([row.take 1, row.drop 1].take [v1, v2].length).flatten = row := by
        show row.take 1 ++ (row.drop 1 ++ []) = row
        rw [List.append_nil, List.take_append_drop]
      rw [this]
    have hl5 : zs.length ≤ 4 := by
      have : ([row.take 1, row.drop 1].take [v1, v2].length).flatten = row := by
        show row.take 1 ++ (row.drop 1 ++ []) = row
        rw [List.append_nil, List.take_append_drop]
      rw [this] at hl4; omega
    tb_rel
    refine r_set (by assumption) hA.hh (Cx.getL (by assumption) (by k_mem)) hF4 hl5 (fun x hx => hsm x ((hz5 x).mp hx)) fun S oS s5 ks hS hks C5 => ?_
    tb_rel
    refine r_sortedSet (by assumption) hA.hh (Cx.getL (by assumption) (by k_mem)) hS (by have := hS.len hks; omega) fun r o' s6 ys ho hp hs C6 => ?_
    refine ⟨G4, _, _, C6, fun C9 => ?_⟩
    exact h r o' ys _ ho hs (hp.nodup_iff.mpr hS.nd) (fun g => (hp.mem_iff).trans ((hks g).trans (hz5 g))) ((C9.weakG hG4 C.bG).drop (.cons_cons _ (.cons _ (.cons _ (List.Sublist.refl _)))))
end
set_option maxHeartbeats 8000000
/-- the body of what stands at an address, and its frame -/
def pickB {K : Frag} {f : Addr} {name qual : Str} {params : Arguments} {body : List Stmt} {scope : Scope} {dV kV doc pm cdv ct oc : Value} {an od : Option Addr} {osl : Array (Option Value)} (_ : K.lookup f = some ⟨oc, od, .func (fnOf name qual params body scope dV kV doc pm an cdv ct), osl⟩) : List Stmt := body
def pickE {K : Frag} {f : Addr} {name qual : Str} {params : Arguments} {body : List Stmt} {scope : Scope} {dV kV doc pm cdv ct oc : Value} {an od : Option Addr} {osl : Array (Option Value)} (_ : K.lookup f = some ⟨oc, od, .func (fnOf name qual params body scope dV kV doc pm an cdv ct), osl⟩) (L : Addr) : Env := envOfC qual scope L f cdv
noncomputable def lawB (w : World) : List Stmt := pickB (K := K0 w) (f := 195) (by with_unfolding_all rfl)
noncomputable def lawE (w : World) (L : Addr) : Env := pickE (K := K0 w) (f := 195) (by with_unfolding_all rfl) L
theorem g_law (w : World) : nsIn (K0 w) mainGlobals (Str.ofString "law") = some (some (.ref 195)) := by kernel_rfl

section
variable {w : World} {A : Around} {E : Value → Shared → Prop} {s : Shared}
theorem top_cx {L : Addr} {h₁ : Heap} {n : Nat} {m : Str → Option Value} {news : Mu} (ns : h₁.Ns L m) (hk : ∀ b o, s.heap.get? b = some o → h₁.get? b = some o) (hL : s.heap.get? L = none) (hab : s.heap.objs.size ≤ L)
    (N : ∀ p ∈ news, h₁.get? p.1 = some p.2 ∧ p.1 ≠ L ∧ s.heap.get? p.1 = none) (nd : (news.map (·.1)).Nodup) :
    Cx ⟨s, fun _ => none⟩ L (fun a => s.heap.get? a) m news { s with heap := h₁, toks := n } :=
  ⟨ns, hL, hk, fun p hp => ⟨(N p hp).1, (N p hp).2.2, (N p hp).2.1, rfl⟩, nd, fun _ _ e => e, rfl, rfl, rfl, hab, fun _ _ e => (nomatch e), rfl, fun _ _ e => (nomatch e)⟩

/-- the law is called at the top -/
theorem code_top {name qual : Str} {params : Arguments} {body : List Stmt} {scope : Scope} {dV kV doc pm cdv ct oc : Value} {an od : Option Addr} {osl : Array (Option Value)} {f : Addr} {args : List Value} {binds : List (Str × Value)} {m0 : Addr → Str → Option Value} {R : Result → Shared → Prop}
    (W : Wd w s.heap) (ho : (K0 w).lookup f = some ⟨oc, od, .func (fnOf name qual params body scope dV kV doc pm an cdv ct), osl⟩) (hcd : codeIn (K0 w) cdv qual = true) (hroom : A.depth < recursionLimit)
    (hbind : BindsTo s (fnOf name qual params body scope dV kV doc pm an cdv ct) ⟨args, []⟩ binds)
    (hkind : (binds.all fun y => scope.names.lookup y.1 == some .local || scope.names.lookup y.1 == some .cell) = true)
    (hnd : ((cellsFrom 0 scope.names []).map (·.1)).Nodup)
    (hm : ∀ L', bindL (envOfC qual scope L' f cdv).kindOf binds (fun _ => none) = m0 L')
    (h : ∀ L' cells s' E', CellsAre (bindC (envOfC qual scope L' f cdv).kindOf binds fun _ => none) (cellsFrom (L' + 1) scope.names []) cells → Cx ⟨s, fun _ => none⟩ L' (fun a => s.heap.get? a) (m0 L') cells s' →
      wpAny (model pg w) (A.deeper (envOfC qual scope L' f cdv)) (execs body (envOfC qual scope L' f cdv)) (fun fl s'' => R (.ok (.ret (match fl with | .ret v => v | _ => .none))) s'') E' s')
    (hco : scope.isCoroutine = false) (hgen : scope.isGenerator = false) (hk : scope.kind = .function) :
    codeAny (model pg w) A (.call (.ref f) ⟨args, []⟩) R s := by
  obtain ⟨p, loose, mg, mb, T⟩ := W.T
  refine codeAny_call_function hroom (W.X _ _ ho) rfl hco hgen rfl (codeRec_of W.X hcd) (hbind _ _ _ _ ?_)
  refine wpAny_newFunctionEnv_cells hk (kindsX hkind _) fun env' he s' x => ?_
  subst he
  refine ⟨T.nolimit.keeps x.toInCall.keep, codeAny_func ?_⟩
  obtain ⟨h₁, tk, rfl, _⟩ := x.done
  have hk₁ := x.toInCall.keep
  obtain ⟨cells, NC, Y⟩ := Cl.news (h₀ := s.heap) (Nat.le_refl _) fun n c hm => ⟨x.cell n c (lookup_of_mem_nodup (cellsFrom_names scope.names 0 (s.heap.objs.size + 1) [] [] rfl ▸ hnd) hm), x.above n c hm⟩
  have hfresh : s.heap.get? s.heap.objs.size = none := by
    cases q : s.heap.get? s.heap.objs.size with
    | none => rfl
    | some o' => exact absurd (Heap.lt_size q) (Nat.lt_irrefl _)
  have apart : (cells.map (·.1)).Nodup := by
    have hp := x.apart
    have hY := Y
    clear NC hm h
    have key : ∀ {cm : Str → Option Value} {cs : List (Str × Addr)} {cells : List (Addr × Obj)}, CellsAre cm cs cells → cells.map (·.1) = cs.map (·.2) := by
      intro cm cs cells y
      induction y with
      | nil => rfl
      | cons _ _ ih => simp [ih]
    rw [key hY]
    exact List.pairwise_map.mpr hp
  have D := top_cx (s := s) (n := tk) x.toInCall.ns hk₁ hfresh (Nat.le_refl _) (fun p hp => NC p hp) apart
  exact h _ cells _ _ Y ((hm s.heap.objs.size) ▸ D)
end
section
set_option maxHeartbeats 8000000
variable {w : World} {A : Around} {E : Value → Shared → Prop} {B : Pin} {L : Addr} {G : Kn} {m : Str → Option Value} {mu : Mu} {s : Shared} {env : Env}
def celled (G : Kn) (c : Addr) (v : Value) : Prop := ∃ o, G c = some o ∧ o.data = .cell (some v)
theorem celled.le {G G' : Kn} {c : Addr} {v : Value} (h : Le G G') (x : celled G c v) : celled G' c v := let ⟨o, a, b⟩ := x; ⟨o, h _ _ a, b⟩
def JA (c src stp : Addr) (ps : Mu) (i : Nat) (G : Kn) (mu' : Mu) : Prop := ∃ osrc ostp as rows at', mu' = (stp, ostp) :: (src, osrc) :: ps ∧ SrcO osrc c at' ∧ 0 ≤ at' ∧ at' ≤ 1 + 10 * (i : Int) ∧ OV isR ostp as ∧ Paired (isRow G) as rows ∧ rows.length = i ∧ (∀ r ∈ rows, r.length ≤ 3 ∧ ∀ x ∈ r, 0 ≤ x ∧ x < 32)
def JB (c src stp row : Addr) (ostp8 : Obj) (ps : Mu) (i : Nat) (ti : Tok) (at8 : Int) (j : Nat) (m : Str → Option Value) (mu' : Mu) : Prop := m (Str.ofString "row") = some (.ref row) ∧ m (Str.ofString "number") = some (.int i ti) ∧ ∃ osrc orow xs at', mu' = (row, orow) :: (stp, ostp8) :: (src, osrc) :: ps ∧ SrcO osrc c at' ∧ 0 ≤ at' ∧ at' ≤ at8 + 1 + 2 * (j : Int) ∧ OI orow xs ∧ xs.length = j ∧ ∀ x ∈ xs, 0 ≤ x ∧ x < 32
theorem seg_a {sc : Addr} {oa : Obj} {vs : List Value} {n : Nat} {ns : List Int} {o1 o2 o3 : Obj} {p4 p5 p6 p7 p8 : Addr × Obj} {Q : Flow → Shared → Prop} (W : Wd w B.heap) (hA : AOk A 4)
    (C : Cx B L G (upd m00 (Str.ofString "script") (.ref sc)) [p8, p7, p6, p5, p4, (L + 1 + 1 + 1, o3), (L + 1 + 1, o2), (L + 1, o1)] s)
    (h1 : o1.data = .cell none) (h2 : o2.data = .cell none) (h3 : o3.data = .cell none)
    (ha : G sc = some oa) (hcl : oa.cls = .type "list") (hda : oa.data = .seq vs.toArray n) (hi : IntsAre vs ns) (hz : ns.length ≤ 63)
    (h : ∀ G' m' src stp osrc c cells at' size t rows s', celled G' (L + 1) (.ref src) → celled G' (L + 1 + 1) (.int size t) → celled G' (L + 1 + 1 + 1) (.ref stp) → Rows G' stp rows → Small rows → (∀ r ∈ rows, r.length ≤ 3) → size = rows.length →
      SrcO osrc c at' → 0 ≤ at' → at' ≤ 200 → isRow G' c cells → cells ≠ [] → cells.length ≤ 60 →
      Cx B L G' m' [(src, osrc), p8, p7, p6, p5, p4] s' →
      wpAny (model pg w) A (execs ((lawB w).drop 4) (lawE w L)) Q E s') :
    wpAny (model pg w) A (execs (lawB w) (lawE w L)) Q E s := by
  unfold lawB lawE pickB pickE at *
  simp only [List.drop_succ_cons, List.drop_zero] at h
  tb_rel
  refine sp_source (by assumption) W (hA.le) ha hcl hda hi hz fun src osrc c cl G1 s1 hG1 hne hcz hrc hsrc C1 => ?_
  tb_rel
  refine r_storeC C1 rfl rfl rfl (i := 8) rfl h1 fun s2 G2 o1' hG2 g1 d1 C2 => ?_
  simp only [List.eraseIdx_cons_succ, List.eraseIdx_cons_zero] at C2
  tb_rel
  refine sp_draw (i := 0) (by assumption) W hA.le rfl hsrc (hrc.mono hG2) hne (by omega) (by omega) (by omega) (by omega) fun size tsz osrc3 s3 hs0 hs8 hsrc3 C3 => ?_
  simp only [List.set_cons_zero] at C3
  tb_rel
  refine r_storeC C3 rfl rfl rfl (i := 7) rfl h2 fun s4 G4 o2' hG4 g2 d2 C4 => ?_
  simp only [List.eraseIdx_cons_succ, List.eraseIdx_cons_zero] at C4
  have g1' := hG4 _ _ g1
  tb_rel
  refine r_newList (R := isR) (xs := []) (by assumption) .nil (by simp) fun stp ostp s5 hstp C5 => ?_
  tb_rel
  refine r_storeC C5 rfl rfl rfl (i := 7) rfl h3 fun s6 G6 o3' hG6 g3 d3 C6 => ?_
  simp only [List.eraseIdx_cons_succ, List.eraseIdx_cons_zero] at C6
  have gg1 := hG6 _ _ g1'
  have gg2 := hG6 _ _ g2
  have hrc6 := hrc.mono (hG2.trans (hG4.trans hG6))
  tb_rel
  refine r_range1 (by assumption) fun r0 or0 s7 hr0 C7 => ?_
  refine r_forRange C7 hr0 (fun i G m mu' => JA c src stp [p8, p7, p6, p5, p4] i G mu') ⟨osrc3, ostp, [], [], 0 + 1, rfl, hsrc3, by omega, by omega, hstp, .nil, rfl, by simp⟩ hs0 (by omega) ?_ ?_ hA.hh rfl rfl
  · rintro i ti B8 G8 m8 mu8 s8 E8 hi hB8 hG8 ⟨osrc8, ostp8, as, rows, at8, rfl, hsrc8, h08, hat8, hstp8, hrows, hlen, hsm⟩ C8
    have W8 := W.le hB8
    have k1 := hG8 _ _ gg1
    have k2 := hG8 _ _ gg2
    have k3 := hG8 _ _ g3
    have hrc8 := hrc6.mono hG8
    tb_rel
    refine r_newList (R := isI) (xs := []) (by assumption) .nil (by simp) fun row orow s9 hrow C9 => ?_
    tb_rel
    refine sp_draw (i := 2) (by assumption) W8 hA.le rfl hsrc8 hrc8 hne (by omega) (by omega) (by omega) (by omega) fun tn ttn osrc10 s10 ht0 ht4 hsrc10 C10 => ?_
    simp only [List.set_cons_succ, List.set_cons_zero] at C10
    tb_rel
    refine r_range1 (by assumption) fun r1 or1 s11 hr1 C11 => ?_
    refine r_forRange C11 hr1 (fun j G m mu' => JB c src stp row ostp8 [p8, p7, p6, p5, p4] i ti at8 j m mu') ⟨by tlg_ne, by tlg_ne, osrc10, orow, [], at8 + 1, rfl, hsrc10, by omega, by omega, hrow, rfl, by simp⟩ ht0 (by omega) ?_ ?_ hA.hh rfl rfl
    · rintro j tj B12 G12 m12 mu12 s12 E12 hj hB12 hG12 ⟨hm1, hm2, osrc12, orow12, xs, at12, rfl, hsrc12, h012, hat12, hrow12, hxl, hxs⟩ C12
      have W12 := W8.le hB12
      have j1 := hG12 _ _ k1
      have j2 := hG12 _ _ k2
      have hrc12 := hrc8.mono hG12
      have hi7 : (i : Int) < 8 := by omega
      tb_rel
      refine sp_draw (i := 2) (by assumption) W12 hA.le rfl hsrc12 hrc12 hne (by omega) (by omega) (by omega) (by omega) fun way tw osrc13 s13 hw0 hw4 hsrc13 C13 => ?_
      simp only [List.set_cons_succ, List.set_cons_zero] at C13
      tb_rel
      by_cases e1 : way = 1
      · rw [if_pos (by simpa using e1)]
        tb_rel
        refine r_append (i := 0) (R := isI) (x := (i : Int) + 1) (by assumption) rfl hrow12 ⟨_, rfl⟩ (by omega) fun orow14 s14 hrow14 C14 => ?_
        simp only [List.set_cons_zero] at C14
        tb_rel
        exact ⟨_, _, _, Le.rfl', ⟨by tlg_ne, by tlg_ne, osrc13, orow14, xs ++ [(i : Int) + 1], at12 + 1, rfl, hsrc13, by omega, by omega, hrow14, by simp [hxl], fun x hx => by
          rcases List.mem_append.mp hx with hx | hx
          · exact hxs x hx
          · have e : x = (i : Int) + 1 := by simpa using hx
            omega⟩, C14⟩
      · rw [if_neg (by simpa using e1)]
        tb_rel
        by_cases e2 : way = 2
        · rw [if_pos (by simpa using e2)]
          tb_rel
          refine sp_draw (i := 2) (by assumption) W12 hA.le rfl hsrc13 hrc12 hne (by omega) (by omega) (by omega) (by omega) fun y ty osrc15 s15 hy0 hy9 hsrc15 C15 => ?_
          simp only [List.set_cons_succ, List.set_cons_zero] at C15
          tb_rel
          refine r_append (i := 0) (R := isI) (x := y) (by assumption) rfl hrow12 ⟨_, rfl⟩ (by omega) fun orow16 s16 hrow16 C16 => ?_
          simp only [List.set_cons_zero] at C16
          tb_rel
          exact ⟨_, _, _, Le.rfl', ⟨by tlg_ne, by tlg_ne, osrc15, orow16, xs ++ [y], at12 + 1 + 1, rfl, hsrc15, by omega, by omega, hrow16, by simp [hxl], fun x hx => by
            rcases List.mem_append.mp hx with hx | hx
            · exact hxs x hx
            · have e : x = y := by simpa using hx
              omega⟩, C16⟩
        · rw [if_neg (by simpa using e2)]
          tb_rel
          refine r_min2 (by assumption) hA.hh fun ty s15 C15 => ?_
          tb_rel
          refine r_append (i := 0) (R := isI) (x := min ((i : Int) + 2) size) (by assumption) rfl hrow12 ⟨_, rfl⟩ (by omega) fun orow16 s16 hrow16 C16 => ?_
          simp only [List.set_cons_zero] at C16
          tb_rel
          exact ⟨_, _, _, Le.rfl', ⟨by tlg_ne, by tlg_ne, osrc13, orow16, xs ++ [min ((i : Int) + 2) size], at12 + 1, rfl, hsrc13, by omega, by omega, hrow16, by simp [hxl], fun x hx => by
            rcases List.mem_append.mp hx with hx | hx
            · exact hxs x hx
            · have e : x = min ((i : Int) + 2) size := by simpa using hx
              omega⟩, C16⟩
    · rintro G12 m12 mu12 s12 hG12 ⟨hm1, hm2, osrc12, orow12, xs, at12, rfl, hsrc12, h012, hat12, hrow12, hxl, hxs⟩ C12
      obtain ⟨G13, hG13, g13, C13⟩ := C12.freeze (i := 0) rfl
      simp only [List.eraseIdx_cons_zero] at C13
      have j3 := (hG12.trans hG13) _ _ k3
      tb_rel
      refine r_append (i := 0) (R := isR) (x := row) (by assumption) rfl hstp8 rfl (by have := hrows.length; omega) fun ostp14 s14 hstp14 C14 => ?_
      simp only [List.set_cons_zero] at C14
      tb_rel
      refine ⟨G13, _, _, hG12.trans hG13, ⟨osrc12, ostp14, as ++ [row], rows ++ [xs], at12, rfl, hsrc12, by omega, by omega, hstp14, pr_app (pr_mono (fun _ _ y => y.mono (hG12.trans hG13)) hrows) (.cons ⟨orow12, g13, hrow12⟩ .nil), by simp [hlen], fun r hr => ?_⟩, C14⟩
      rcases List.mem_append.mp hr with hr | hr
      · exact hsm r hr
      · have e : r = xs := by simpa using hr
        rw [e]
        exact ⟨by omega, hxs⟩
  · rintro G8 m8 mu8 s8 hG8 ⟨osrc8, ostp8, as, rows, at8, rfl, hsrc8, h08, hat8, hstp8, hrows, hlen, hsm⟩ C8
    obtain ⟨G9, hG9, g9, C9⟩ := C8.freeze (i := 0) rfl
    simp only [List.eraseIdx_cons_zero] at C9
    have le9 := hG8.trans hG9
    exact h G9 _ src stp osrc8 c cl at8 size tsz rows _ ⟨_, le9 _ _ gg1, d1⟩ ⟨_, le9 _ _ gg2, d2⟩ ⟨_, le9 _ _ g3, d3⟩ ⟨ostp8, as, g9, hstp8, pr_mono (fun _ _ y => y.mono hG9) hrows⟩
      ⟨by omega, fun r hr => Nat.le_succ_of_le (hsm r hr).1, fun r hr x hx => ((hsm r hr).2 x hx).1, fun r hr x hx => ((hsm r hr).2 x hx).2⟩ (fun r hr => (hsm r hr).1) (by omega) hsrc8 h08 (by omega) (hrc6.mono le9) hne hcz C9
end
/-- a list in order, each member once -/
structure Srt (l row : List Int) : Prop where
  ord : l.Pairwise (· ≤ ·)
  nd : l.Nodup
  mem : ∀ g, g ∈ l ↔ g ∈ row
theorem srt_uniq {xs ys row : List Int} (a : Srt xs row) (b : Srt ys row) : xs = ys := by
  have key : ∀ {xs ys : List Int}, xs.Pairwise (· ≤ ·) → xs.Nodup → ys.Pairwise (· ≤ ·) → ys.Nodup → (∀ g, g ∈ xs ↔ g ∈ ys) → xs = ys := by
    intro xs
    induction xs with
    | nil => intro ys _ _ _ _ h; cases ys with
      | nil => rfl
      | cons y r => exact absurd ((h y).mpr (.head _)) (by simp)
    | cons x r ih => intro ys h1 h2 h3 h4 h; cases ys with
      | nil => exact absurd ((h x).mp (.head _)) (by simp)
      | cons y q =>
        obtain ⟨a1, a2⟩ := List.pairwise_cons.mp h1
        obtain ⟨b1, b2⟩ := List.nodup_cons.mp h2
        obtain ⟨c1, c2⟩ := List.pairwise_cons.mp h3
        obtain ⟨d1, d2⟩ := List.nodup_cons.mp h4
        have e : x = y := by
          have hx := (h x).mp (.head _)
          have hy := (h y).mpr (.head _)
          rcases List.mem_cons.mp hx with e | hx
          · exact e
          · rcases List.mem_cons.mp hy with e | hy
            · exact e.symm
            · have := a1 y hy; have := c1 x hx; omega
        subst e
        congr 1
        refine ih a2 b2 c2 d2 fun g => ⟨fun hg => ?_, fun hg => ?_⟩
        · rcases List.mem_cons.mp ((h g).mp (.tail _ hg)) with e | q
          · exact absurd (e ▸ hg) b1
          · exact q
        · rcases List.mem_cons.mp ((h g).mpr (.tail _ hg)) with e | q
          · exact absurd (e ▸ hg) d1
          · exact q
  exact key a.ord a.nd b.ord b.nd fun g => (a.mem g).trans (b.mem g).symm
theorem srts_uniq {xs ys rows : List (List Int)} (p : Paired Srt xs rows) : Paired Srt ys rows → xs = ys := by
  intro q
  induction p generalizing ys with
  | nil => cases q; rfl
  | cons a _ ih => cases q with
    | cons b r => rw [srt_uniq a b, ih r]
structure Bs (G : Kn) (L src stp c : Addr) (cells : List Int) (size : Int) (t : Tok) (rows : Rws) : Prop where
  c1 : celled G (L + 1) (.ref src)
  c2 : celled G (L + 1 + 1) (.int size t)
  c3 : celled G (L + 1 + 1 + 1) (.ref stp)
  hr : Rows G stp rows
  S : Small rows
  hsz : size = rows.length
  hc : isRow G c cells
  hne : cells ≠ []
  hcz : cells.length ≤ 60
theorem Bs.le {G G' : Kn} {L src stp c : Addr} {cells : List Int} {size : Int} {t : Tok} {rows : Rws} (h : Le G G') (b : Bs G L src stp c cells size t rows) : Bs G' L src stp c cells size t rows :=
  ⟨b.c1.le h, b.c2.le h, b.c3.le h, b.hr.mono h, b.S, b.hsz, b.hc.mono h, b.hne, b.hcz⟩
def MetsAre (rows : Rws) (mets : List (List Int)) : Prop := mets.length = rows.length ∧ ∀ (k : Nat) l, mets[k]? = some l → l.length ≤ 7 ∧ ∀ v, v ∈ l ↔ Reach rows k v
section
set_option maxHeartbeats 8000000
variable {w : World} {A : Around} {E : Value → Shared → Prop} {B : Pin} {L : Addr} {G : Kn} {m : Str → Option Value} {mu : Mu} {s : Shared} {env : Env}
theorem seg_b {src stp c : Addr} {cells : List Int} {size : Int} {t : Tok} {rows : Rws} {Q : Flow → Shared → Prop} (W : Wd w B.heap) (hA : AOk A 4) (b : Bs G L src stp c cells size t rows) (C : Cx B L G m mu s)
    (h : ∀ G' m' kp s', Le G G' → m' (Str.ofString "kept") = some (.ref kp) → Rows G' kp rows → Cx B L G' m' mu s' → wpAny (model pg w) A (execs ((lawB w).drop 6) (lawE w L)) Q E s') :
    wpAny (model pg w) A (execs ((lawB w).drop 4) (lawE w L)) Q E s := by
  unfold lawB lawE pickB pickE at *
  simp only [List.drop_succ_cons, List.drop_zero] at h ⊢
  obtain ⟨oc1, g1, d1⟩ := b.c1
  obtain ⟨oc2, g2, d2⟩ := b.c2
  obtain ⟨oc3, g3, d3⟩ := b.c3
  obtain ⟨ostp, as, hgs, hos, hpr⟩ := b.hr
  have hal := hpr.length
  have hlen := b.S.len
  tb_rel
  refine r_comp (cl := []) (by rfl) rfl (by decide +kernel) ?_
  tb_rel
  refine compL (Rv := isR) (Ra := isR) C hgs hos (by omega) (fun i G mu' ys => mu' = mu ∧ ∃ ls, Paired (isRow G) ys ls ∧ Paired Srt ls (rows.take i)) ⟨rfl, [], .nil, .nil⟩ ?_ ?_ hA.hh rfl (by decide +kernel) rfl
  · rintro Cc i v a hi rfl B2 G2 mc mu2 ys s2 E2 hB2 hG2 ⟨rfl, ls, hys, hls⟩ hm2 C2
    have W2 := W.le hB2
    refine tests_nil ?_
    rw [if_pos rfl]
    obtain ⟨row, hrow, hisr⟩ := pr_atv hpr hi
    have hmem : row ∈ rows := List.mem_of_getElem? hrow
    tb_rel
    refine sp_lookup (by assumption) W2 hA.le (hisr.mono hG2) (by have := b.S.row row hmem; omega) fun lv G3 s3 hG3 hlk C3 => ?_
    tb_rel
    refine sp_next (by assumption) W2 hA.le hlk (b.S.row row hmem) (fun x hx => ⟨b.S.pos row hmem x hx, b.S.lt row hmem x hx⟩) fun r o ys2 s4 ho hs4 hn4 hm4 C4 => ?_
    obtain ⟨G5, hG5, g5, C5⟩ := C4.freeze (i := 0) rfl
    refine ⟨r, G5, mc, _, rfl, hG3.trans hG5, ⟨rfl, ls ++ [ys2], pr_app (pr_mono (fun _ _ y => y.mono (hG3.trans hG5)) hys) (.cons ⟨o, g5, ho⟩ .nil), ?_⟩, C5⟩
    rw [List.take_add_one, hrow]
    exact pr_app hls (.cons ⟨hs4, hn4, hm4⟩ .nil)
  rintro G2 mu2 ys D oD Cc oC mC s2 hG2 ⟨rfl, ls, hys, hls⟩ hoD C2 hN
  refine post_none C2 hN fun s3 C3 => ?_
  obtain ⟨G4, hG4, g4, C4⟩ := C3.freeze (i := 0) rfl
  simp only [List.eraseIdx_cons_zero] at C4
  have hR1 : Rows G4 D ls := ⟨oD, ys, g4, hoD, pr_mono (fun _ _ y => y.mono hG4) hys⟩
  have le4 := hG2.trans hG4
  have k3 := le4 _ _ g3
  have ks := le4 _ _ hgs
  tb_rel
  refine r_comp (cl := []) (by rfl) rfl (by decide +kernel) ?_
  tb_rel
  refine compL (Rv := isR) (Ra := isR) C4 ks hos (by omega) (fun i G mu' ys => mu' = mu2 ∧ ∃ ls, Paired (isRow G) ys ls ∧ Paired Srt ls (rows.take i)) ⟨rfl, [], .nil, .nil⟩ ?_ ?_ hA.hh rfl (by decide +kernel) rfl
  · rintro Cc i v a hi rfl B5 G5 mc mu5 ys s5 E5 hB5 hG5 ⟨rfl, ls, hys, hls⟩ hm5 C5
    have W5 := W.le hB5
    refine tests_nil ?_
    rw [if_pos rfl]
    obtain ⟨row, hrow, hisr⟩ := pr_atv hpr hi
    have hmem : row ∈ rows := List.mem_of_getElem? hrow
    obtain ⟨orow, grow, horow⟩ := hisr
    have hr4 := b.S.row row hmem
    have grow5 := hG5 _ _ (le4 _ _ grow)
    tb_rel
    refine r_set (by assumption) hA.hh (Cx.know (by assumption) _ _ grow5) horow hr4 (fun x hx => ⟨b.S.pos row hmem x hx, b.S.lt row hmem x hx⟩) fun as6 os6 s6 ks hO6 hm6 C6 => ?_
    tb_rel
    refine r_sortedSet (by assumption) hA.hh (Cx.getL (by assumption) (by k_mem)) hO6 (Nat.le_trans (hO6.len hm6) hr4) fun r o s7 ys7 ho hp7 hs7 C7 => ?_
    obtain ⟨G8, hG8, g8, C8⟩ := C7.freeze (i := 0) rfl
    simp only [List.eraseIdx_cons_zero] at C8
    refine ⟨r, G8, mc, _, rfl, hG8, ⟨rfl, ls ++ [ys7], pr_app (pr_mono (fun _ _ y => y.mono hG8) hys) (.cons ⟨o, g8, ho⟩ .nil), ?_⟩, C8.drop (List.sublist_cons_self _ _)⟩
    rw [List.take_add_one, hrow]
    exact pr_app hls (.cons ⟨hs7, hp7.nodup_iff.mpr hO6.nd, fun g => hp7.mem_iff.trans (hm6 g)⟩ .nil)
  rintro G5 mu5 ys5 D5 oD5 Cc5 oC5 mC5 s5 hG5 ⟨rfl, ls5, hys5, hls5⟩ hoD5 C5 hN5
  refine post_none C5 hN5 fun s6 C6 => ?_
  obtain ⟨G7, hG7, g7, C7⟩ := C6.freeze (i := 0) rfl
  simp only [List.eraseIdx_cons_zero] at C7
  have hR2 : Rows G7 D5 ls5 := ⟨oD5, ys5, g7, hoD5, pr_mono (fun _ _ y => y.mono hG7) hys5⟩
  have els : ls = ls5 := by
    rw [hal] at hls hls5
    exact srts_uniq hls hls5
  tb_rel
  refine r_neRows ((hR1.mono (hG5.trans hG7)).mono C7.know) (hR2.mono C7.know) hA.units ?_
  tb_rel
  rw [if_neg (by simp [els])]
  have le7 := le4.trans (hG5.trans hG7)
  have j3 := le7 _ _ g3
  have js := le7 _ _ hgs
  tb_rel
  refine r_compA (cl := []) (by rfl) (by rfl) rfl (by decide +kernel) ?_
  tb_rel
  refine compL (Rv := isR) (Ra := isR) C7 js hos (by omega) (fun i G mu' ys => mu' = mu5 ∧ Paired (isRow G) ys (rows.take i)) ⟨rfl, .nil⟩ ?_ ?_ hA.hh rfl (by decide +kernel) rfl
  · rintro Cc i v a hi rfl B8 G8 mc mu8 ys s8 E8 hB8 hG8 ⟨rfl, hys⟩ hm8 C8
    have W8 := W.le hB8
    refine tests_nil ?_
    rw [if_pos rfl]
    obtain ⟨row, hrow, orow, grow, horow⟩ := pr_atv hpr hi
    have hmem : row ∈ rows := List.mem_of_getElem? hrow
    have hr4 := b.S.row row hmem
    have grow8 := hG8 _ _ (le7 _ _ grow)
    tb_rel
    refine r_copy (by assumption) (Cx.know (by assumption) _ _ grow8) horow (by omega) fun r o s9 ho C9 => ?_
    obtain ⟨G10, hG10, g10, C10⟩ := C9.freeze (i := 0) rfl
    simp only [List.eraseIdx_cons_zero] at C10
    refine ⟨r, G10, mc, _, rfl, hG10, ⟨rfl, ?_⟩, C10⟩
    rw [List.take_add_one, hrow]
    exact pr_app (pr_mono (fun _ _ y => y.mono hG10) hys) (.cons ⟨o, g10, ho⟩ .nil)
  rintro G8 mu8 ys8 D8 oD8 Cc8 oC8 mC8 s8 hG8 ⟨rfl, hys8⟩ hoD8 C8 hN8
  refine post_use C8 hN8 rfl rfl fun s9 C9 => ?_
  obtain ⟨G10, hG10, g10, C10⟩ := C9.freeze (i := 0) rfl
  simp only [List.eraseIdx_cons_zero] at C10
  rw [hal, List.take_length] at hys8
  exact h G10 _ D8 _ (le7.trans (hG8.trans hG10)) (by tlg_ne) ⟨oD8, ys8, g10, hoD8, pr_mono (fun _ _ y => y.mono hG10) hys8⟩ C10
end
/-! sets of numbers under eight, of whatever length -/
structure T8 (bt : Bool) (t : SetTable) (ks : List Int) : Prop where
  led : bt = false → t.led = true
  dm : t.dummies = #[]
  pl : t.plain = true
  place : t.place.toList = ks.map Int.toNat
  up : ks.Pairwise (· < ·)
  sm : ∀ k ∈ ks, 0 ≤ k ∧ k < 8
theorem T8.rise {bt : Bool} {t : SetTable} {ks : List Int} (g : T8 bt t ks) : Rise t.place := by
  unfold Rise
  rw [g.place]
  refine List.pairwise_map.mpr ?_
  refine g.up.imp_of_mem fun {a b} ha hb h => ?_
  have := g.sm a ha; have := g.sm b hb
  omega
theorem T8.sz {bt : Bool} {t : SetTable} {ks : List Int} (g : T8 bt t ks) : t.place.size = ks.length := by
  rw [← Array.length_toList, g.place, List.length_map]
def Msk (t : SetTable) (n : Nat) : Prop := (t.mask = 7 ∧ n ≤ 4) ∨ (t.mask = 31 ∧ n ≤ 8)
theorem T8.nd {bt : Bool} {t : SetTable} {ks : List Int} (g : T8 bt t ks) : ks.Nodup := g.up.imp fun h => by omega
theorem T8.len {bt : Bool} {t : SetTable} {ks : List Int} (g : T8 bt t ks) : ks.length ≤ 8 := nodup_bound (n := 8) g.nd fun k hk => g.sm k hk

theorem freeSlot8 {bt : Bool} {t : SetTable} {ks : List Int} (g : T8 bt t ks) (hm : 7 ≤ t.mask) {k : Int} (hk : k ∉ ks) (h0 : 0 ≤ k) (h8 : k < 8) : t.freeSlot k = some (k.toNat, false) ∧ t.slot k.toNat = .empty := by
  have hs : t.slot k.toNat = .empty := by
    rcases slot_or g.dm k.toNat with h | ⟨i, _, hi⟩
    · exact h
    · have h1 : k.toNat ∈ t.place.toList := List.mem_of_getElem? (by simpa using hi)
      rw [g.place] at h1
      obtain ⟨a, ha, e⟩ := List.mem_map.mp h1
      have := g.sm a ha
      have : a = k := by omega
      exact absurd (this ▸ ha) hk
  have hb : SetTable.bits k = k.toNat := by
    unfold SetTable.bits
    rw [Int.emod_eq_of_lt h0 (by omega)]
  have hj : (t.probeStart k).j = k.toNat := by
    unfold SetTable.probeStart
    rw [hb]
    exact Nat.mod_eq_of_lt (by omega)
  obtain ⟨f, hf⟩ : ∃ f, 10 * SetTable.turns t.mask = f + 1 := ⟨10 * SetTable.turns t.mask - 1, by unfold SetTable.turns; omega⟩
  have hg : SetTable.probe.go t (fun _ => k + 1) k (10 * SetTable.turns t.mask) (t.probeStart k) = some (.empty k.toNat none) := by
    rw [hf]
    unfold SetTable.probe.go
    rw [hj, hs]
    rfl
  refine ⟨?_, hs⟩
  unfold SetTable.freeSlot SetTable.probe
  rw [hg]
  rfl

theorem layNew8 {bt : Bool} {t : SetTable} {ks : List Int} {es : Array (Int × Value)} (g : T8 bt t ks) (p : Paired isE es.toList ks) (hm : Msk t ks.length) {k : Int} (hk : k ∉ ks) (h0 : 0 ≤ k) (h8 : k < 8) (tk : Tok) :
    ∃ es' t' ks', layNew t es k (.int k tk) = (es', t', false, false) ∧ T8 bt t' ks' ∧ Paired isE es'.toList ks' ∧ ks'.length = ks.length + 1 ∧ (∀ x, x ∈ ks' ↔ x = k ∨ x ∈ ks) ∧ t'.mask = t.mask := by
  have hmk : 7 ≤ t.mask := by rcases hm with h | h <;> omega
  obtain ⟨hf, hj⟩ := freeSlot8 g hmk hk h0 h8
  have hz : es.size = ks.length := by rw [← p.length]; simp
  have hpl : SetTable.below t.place k.toNat ≤ es.size := by rw [hz, ← g.sz]; exact (below_spec g.rise k.toNat).1
  have hpl2 : SetTable.below t.place k.toNat ≤ t.place.size := (below_spec g.rise k.toNat).1
  have hr := g.rise.insert (slot_empty hj)
  generalize hbq : SetTable.below t.place k.toNat = q at *
  have hperm : (ks.take q ++ k :: ks.drop q).Perm (k :: ks) := by
    have := List.perm_middle (l₁ := ks.take q) (l₂ := ks.drop q) (a := k)
    rwa [List.take_append_drop] at this
  have hpt : (SetTable.insertAt t.place q k.toNat).toList = (ks.take q ++ k :: ks.drop q).map Int.toNat := by
    rw [SetTable.toList_insertAt, g.place]
    simp [List.map_take, List.map_drop]
  have hmem : ∀ x, x ∈ ks.take q ++ k :: ks.drop q ↔ x = k ∨ x ∈ ks := fun x => by rw [hperm.mem_iff, List.mem_cons]
  have hsm : ∀ x ∈ ks.take q ++ k :: ks.drop q, 0 ≤ x ∧ x < 8 := fun x hx => by
    rcases (hmem x).mp hx with rfl | hx
    · exact ⟨h0, h8⟩
    · exact g.sm x hx
  have hT : T8 bt (t.put k.toNat).1 (ks.take q ++ k :: ks.drop q) := by
    refine ⟨g.led, ?_, g.pl, ?_, ?_, hsm⟩
    · show (if SetTable.has t.dummies k.toNat then _ else t.dummies) = #[]
      rw [g.dm, has_nil]; rfl
    · show (SetTable.insertAt t.place (SetTable.below t.place k.toNat) k.toNat).toList = _
      rw [hbq]; exact hpt
    · unfold Rise at hr
      rw [hpt] at hr
      refine (List.pairwise_map.mp hr).imp_of_mem fun {a b} ha hb h => ?_
      have := hsm a ha; have := hsm b hb
      omega
  have hlen : (ks.take q ++ k :: ks.drop q).length = ks.length + 1 := by rw [hperm.length_eq]; rfl
  have hsz : (SetTable.insertAt es q (k, .int k tk)).size = ks.length + 1 := by rw [insertAt_size hpl, hz]
  have hfit : (t.put k.toNat).1.fits (SetTable.insertAt es q (k, .int k tk)).size = true := by
    unfold SetTable.fits SetTable.fill
    have h1 := hT.sz
    have h2 : (t.put k.toNat).1.mask = t.mask := rfl
    rw [hsz, h1, hT.dm, hlen, h2]
    rcases hm with h | h <;> simp <;> omega
  refine ⟨SetTable.insertAt es q (k, .int k tk), (t.put k.toNat).1, _, ?_, hT, ?_, hlen, hmem, rfl⟩
  · unfold layNew
    rw [hf]
    dsimp only
    have e2 : (t.put k.toNat).2 = q := hbq
    rw [e2]
    unfold SetTable.orStandIn
    rw [if_pos hfit, hfit]; rfl
  · rw [SetTable.toList_insertAt]
    exact pr_app (pr_takes p q) (.cons ⟨(hash_small h0 (by omega)).symm, tk, rfl⟩ (pr_drops p q))

/-- the five are laid anew, where they were -/
def chk5 (l : List Nat) : Bool := match SetTable.layClean 31 ((l.map Int.ofNat).toArray) with
  | some owner => ((List.range 32).filterMap fun j => (owner.getD j none).map (j, ·)) == l.zip (List.range 5)
  | none => false
def sub8 (b0 b1 b2 b3 b4 b5 b6 b7 : Bool) : List Nat := (List.range 8).filter fun k => [b0, b1, b2, b3, b4, b5, b6, b7].getD k false
theorem chk_all : ∀ b0 b1 b2 b3 b4 b5 b6 b7 : Bool, (sub8 b0 b1 b2 b3 b4 b5 b6 b7).length = 5 → chk5 (sub8 b0 b1 b2 b3 b4 b5 b6 b7) = true := by decide +kernel
theorem five {α : Type} {es : Array α} (h : es.size = 5) : ∃ a b c d e, es = #[a, b, c, d, e] := by
  obtain ⟨l⟩ := es
  match l, h with
  | [a, b, c, d, e], _ => exact ⟨a, b, c, d, e, rfl⟩
theorem relay8 {bt : Bool} {t : SetTable} {ks : List Int} {es : Array (Int × Value)} (g : T8 bt t ks) (p : Paired isE es.toList ks) (h5 : ks.length = 5) :
    ∃ t', relayAll t es (SetTable.grown es.size) = (es, t', false) ∧ T8 bt t' ks ∧ t'.mask = 31 := by
  have hz : es.size = 5 := by rw [← h5, ← p.length]; simp
  have hw : SetTable.grown es.size = 20 := by rw [hz]; rfl
  have hs : SetTable.sizeAbove 20 - 1 = 31 := by decide
  -- the five numbers
  have hks : ks = (sub8 (decide (0 ∈ ks)) (decide (1 ∈ ks)) (decide (2 ∈ ks)) (decide (3 ∈ ks)) (decide (4 ∈ ks)) (decide (5 ∈ ks)) (decide (6 ∈ ks)) (decide (7 ∈ ks))).map Int.ofNat := by
    refine srt_uniq (row := ks) ⟨g.up.imp fun h => by omega, g.nd, fun _ => Iff.rfl⟩ ⟨picks_ord (n := 8) (f := fun k => [decide (0 ∈ ks), decide (1 ∈ ks), decide (2 ∈ ks), decide (3 ∈ ks), decide (4 ∈ ks), decide (5 ∈ ks), decide (6 ∈ ks), decide (7 ∈ ks)].getD k false), picks_nodup, fun x => ?_⟩
    show x ∈ picks 8 _ ↔ _
    rw [mem_picks]
    constructor
    · rintro ⟨h1, h2, h3⟩
      have hx : x = 0 ∨ x = 1 ∨ x = 2 ∨ x = 3 ∨ x = 4 ∨ x = 5 ∨ x = 6 ∨ x = 7 := by omega
      rcases hx with rfl | rfl | rfl | rfl | rfl | rfl | rfl | rfl <;> simpa using h3
    · intro hx
      have h1 := g.sm x hx
      refine ⟨h1.1, h1.2, ?_⟩
      have hx' : x = 0 ∨ x = 1 ∨ x = 2 ∨ x = 3 ∨ x = 4 ∨ x = 5 ∨ x = 6 ∨ x = 7 := by omega
      rcases hx' with rfl | rfl | rfl | rfl | rfl | rfl | rfl | rfl <;> simpa using hx
  have hc := chk_all (decide (0 ∈ ks)) (decide (1 ∈ ks)) (decide (2 ∈ ks)) (decide (3 ∈ ks)) (decide (4 ∈ ks)) (decide (5 ∈ ks)) (decide (6 ∈ ks)) (decide (7 ∈ ks))
  generalize sub8 (decide (0 ∈ ks)) (decide (1 ∈ ks)) (decide (2 ∈ ks)) (decide (3 ∈ ks)) (decide (4 ∈ ks)) (decide (5 ∈ ks)) (decide (6 ∈ ks)) (decide (7 ∈ ks)) = l at hks hc
  have hl5 : l.length = 5 := by rw [hks, List.length_map] at h5; exact h5
  have hc := hc hl5
  have hh : es.map (·.1) = (l.map Int.ofNat).toArray := by
    apply Array.toList_inj.mp
    rw [Array.toList_map, ← hks]
    have hsm := g.sm
    clear hc hks hl5 hz hw g h5
    generalize es.toList = el at p
    induction p with
    | nil => rfl
    | @cons v x vs xs hv _ ih =>
      rw [List.map_cons, ih fun k hk => hsm k (.tail _ hk), hv.1, hash_small (hsm x (.head _)).1 (by have := (hsm x (.head _)).2; omega)]
  have hnat : ks.map Int.toNat = l := by rw [hks, List.map_map]; exact (List.map_congr_left fun a _ => rfl).trans (List.map_id _)
  unfold chk5 at hc
  rw [← hh] at hc
  cases hl : SetTable.layClean 31 (es.map (·.1)) with
  | none => rw [hl] at hc; cases hc
  | some owner =>
    rw [hl] at hc
    have hlive : ((List.range 32).filterMap fun j => (owner.getD j none).map (j, ·)) = l.zip (List.range 5) := eq_of_beq hc
    have hrel : t.relaid (es.map (·.1)) 20 = some ({ mask := 31, place := l.toArray, dummies := #[], finger := t.finger, led := t.led, moves := t.movedTo 31, plain := t.plain }, #[0, 1, 2, 3, 4]) := by
      unfold SetTable.relaid SetTable.laid
      rw [hs, hl]
      show some (_, _) = _
      rw [hlive]
      have e1 : (l.zip (List.range 5)).map (·.1) = l := by rw [List.map_fst_zip]; simp [hl5]
      have e2 : (l.zip (List.range 5)).map (·.2) = List.range 5 := by rw [List.map_snd_zip]; simp [hl5]
      rw [e1, e2]; rfl
    refine ⟨{ mask := 31, place := l.toArray, dummies := #[], finger := t.finger, led := t.led, moves := t.movedTo 31, plain := t.plain }, ?_, ⟨g.led, rfl, g.pl, by rw [hnat], g.up, g.sm⟩, rfl⟩
    unfold relayAll
    rw [hw, hrel]
    dsimp only
    have hfm : (#[0, 1, 2, 3, 4] : Array Nat).filterMap (es[·]?) = es := by
      obtain ⟨a, b, c, d, e, rfl⟩ := five hz
      rfl
    rw [hfm, hz]
    have h1 : coversAll #[0, 1, 2, 3, 4] 5 = true := by decide
    have h2 : SetTable.fits { mask := 31, place := l.toArray, dummies := #[], finger := t.finger, led := t.led, moves := t.movedTo 31, plain := t.plain } 5 = true := by
      unfold SetTable.fits SetTable.fill
      simp [hl5]
    rw [h1, h2]
    rfl
/-- o is a set of the numbers ks, each under eight -/
def Set8 (w : World) (o : Obj) (ks : List Int) : Prop :=
  ∃ es ep t, o = so es ep t ∧ Paired isE es.toList ks ∧ T8 (byText w) t ks ∧ Msk t ks.length
theorem fit8 {bt : Bool} {t : SetTable} {ks : List Int} {n : Nat} (g : T8 bt t ks) (hm : Msk t ks.length) (hn : n = ks.length) : t.fits n = true := by
  subst hn
  unfold SetTable.fits SetTable.fill
  rw [g.sz, g.dm]
  rcases hm with h | h <;> simp <;> omega
section
variable {prog : Program} {w : World} {A : Around} {E : Value → Shared → Prop} {s : Shared}
theorem set_add8 {a : Addr} {o : Obj} {ks : List Int} {k : Int} {tk : Tok} {Q : Bool → Shared → Prop} (ho : s.heap.get? a = some o) (hS : Set8 w o ks) (h0 : 0 ≤ k) (h8 : k < 8)
    (h : ∀ h' o' ks' b, Heap.SameBut a s.heap h' → h'.get? a = some o' → Set8 w o' ks' → (∀ x, x ∈ ks' ↔ x = k ∨ x ∈ ks) → Q b { s with heap := h' }) :
    wpAny (model prog w) A (setAddHashed a (.int k tk) (hashInt k)) Q E s := by
  obtain ⟨es, ep, t, rfl, p, g, hm⟩ := hS
  have hlen : es.size = ks.length := by rw [← p.length]; simp
  have hl8 := g.len
  have hel : ElemsOf (intKind prog w) es.toList := elems_of p
  have hbs : byScan (.int k tk) es = true := byScan_of rfl (by rw [hlen]; unfold scanBound; omega) hel
  have hkey : (intKind prog w).is k (.int k tk) = true := intKind_is _ _ _ _
  have heq : ({ s with heap := s.heap } : Shared) = s := by cases s; rfl
  have hf : t.fits es.size = true := fit8 g hm hlen
  unfold setAddHashed setAddHashedIn
  refine wpAny_holding (wpAny_bind (wpAny_setState_of ho rfl hf ?_))
  dsimp only
  rw [hbs]
  simp only [↓reduceIte]
  unfold setAddByScan
  refine wpAny_bind (wpAny_bind (wpAny_rule (wpAny_bind ?_)))
  refine wpAny_setScan_of (knd := intKind prog w) hkey ho rfl hf hel ?_
  by_cases hk : k ∈ ks
  · obtain ⟨j, hj⟩ := findIdx_some (prog := prog) (w := w) p hk
    rw [hj]
    dsimp only
    refine wpAny_pure (wpAny_pure ?_)
    have := h s.heap (so es ep t) ks false (Heap.SameBut.refl a s.heap) ho ⟨es, ep, t, rfl, p, g, hm⟩ (fun x => ⟨.inr, fun q => q.elim (fun e => e ▸ hk) id⟩)
    rw [heq] at this; exact this
  · rw [findIdx_none p hk]
    dsimp only
    obtain ⟨es1, t1, ks1, eL, g1, p1, hz1, hm1, hmk⟩ := layNew8 g p hm hk h0 h8 tk
    rw [hash_small h0 (by omega), eL]
    dsimp only
    have ho1 := Heap.get?_update_self (Obj.putSet es1 t1) ho rfl
    have he1 : es1.size = ks1.length := by rw [← p1.length]; simp
    have hl1 := g1.len
    have tail : wpAny (model prog w) A (do
        storeSet a es1 t1
        if (!false && t1.tooFull) = true then do
            (match (relayAll t1 es1 (SetTable.grown es1.size)).2.2 with | true => rule "set.scan.the-table-gave-way" | false => pure ())
            storeSet a (relayAll t1 es1 (SetTable.grown es1.size)).1 (relayAll t1 es1 (SetTable.grown es1.size)).2.1
            pure (some true)
          else pure (some true)) (fun r s' => wpAny (model prog w) A (match r with | some added => pure added | none => setAddHashedIn a (.int k tk) k 99999) Q E s') E s := by
      refine wpAny_bind (wpAny_storeSet_of ho rfl ?_ (by rw [sizeLine_eq]; omega))
      by_cases hful : t1.mask = 7 ∧ ks1.length = 5
      · have htf : t1.tooFull = true := by
          unfold SetTable.tooFull SetTable.fill
          rw [g1.sz, g1.dm, hful.1, hful.2]; rfl
        obtain ⟨t2, e2, g2, hm2⟩ := relay8 g1 p1 hful.2
        rw [htf, if_pos (show (!false && true) = true from rfl), e2]
        refine wpAny_bind (wpAny_pure ?_)
        have ho2 := Heap.get?_update_self (Obj.putSet es1 t2) ho1 rfl
        refine wpAny_bind (wpAny_storeSet_of ho1 rfl ?_ (by show es1.size ≤ sizeLine; rw [sizeLine_eq]; omega))
        refine wpAny_pure (wpAny_pure (h _ _ ks1 true ((Heap.SameBut.update ..).trans (Heap.SameBut.update ..)) ho2 ⟨es1, _, t2, rfl, p1, g2, .inr ⟨hm2, hl1⟩⟩ hm1))
      · have hmsk : Msk t1 ks1.length := by
          rcases hm with hm | hm
          · have : ¬ ks1.length = 5 := fun q => hful ⟨by rw [hmk, hm.1], q⟩
            exact .inl ⟨by rw [hmk, hm.1], by omega⟩
          · exact .inr ⟨by rw [hmk, hm.1], hl1⟩
        have hnt : t1.tooFull = false := by
          unfold SetTable.tooFull SetTable.fill
          rw [g1.sz, g1.dm]
          rcases hmsk with h | h
          · rw [h.1]; simp; omega
          · rw [h.1]; simp; omega
        rw [hnt, if_neg (by simp)]
        exact wpAny_pure (wpAny_pure (h _ _ ks1 true (Heap.SameBut.update ..) ho1 ⟨es1, _, t1, rfl, p1, g1, hmsk⟩ hm1))
    refine wpAny_bind (wpAny_pure ?_)
    split
    · refine wpAny_bind ?_
      rw [hashByValue_scannable 8 (by rfl)]
      refine wpAny_pure ?_
      exact tail
    · refine wpAny_bind (wpAny_pure ?_)
      simp only [↓reduceIte]
      exact tail
end
section
variable {prog : Program} {w : World} {A : Around} {E : Value → Shared → Prop} {s : Shared}
theorem set_of_list8 {l : Addr} {vs : List Value} {n : Nat} {xs : List Int} {Q : Value → Shared → Prop} (hh : A.handled = none) (hl : s.heap.get? l = some (lo vs n)) (p : Paired isI vs xs) (hsm : ∀ x ∈ xs, 0 ≤ x ∧ x < 8)
    (h : ∀ h' tk o ks, (∀ b ob, s.heap.get? b = some ob → h'.get? b = some ob) → h'.get? s.heap.objs.size = some o → Set8 w o ks → (∀ x, x ∈ ks ↔ x ∈ xs) → Q (.ref s.heap.objs.size) { s with heap := h', toks := tk }) :
    wpAny (model prog w) A (call (.type "set") [.ref l]) Q E s :=
  set_of_listG hh hl p ⟨#[], 0, _, rfl, .nil, ⟨fun e => (by rw [e]; rfl), rfl, rfl, rfl, .nil, by simp⟩, .inl ⟨rfl, Nat.zero_le _⟩⟩
    (fun A E s o ks k tk i Q ho hO hx hm h => by have hsmx := hsm k (List.mem_of_getElem? hx); exact set_add8 ho hO hsmx.1 hsmx.2 h) h
end
section
variable {w : World} {A : Around} {E : Value → Shared → Prop} {B : Pin} {L : Addr} {G : Kn} {m : Str → Option Value} {mu : Mu} {s : Shared} {prog : Program}
theorem r_set8 {l : Addr} {o : Obj} {xs : List Int} {Q : Value → Shared → Prop} (C : Cx B L G m mu s) (hh : A.handled = none) (hl : s.heap.get? l = some o) (ho : OI o xs) (hsm : ∀ x ∈ xs, 0 ≤ x ∧ x < 8)
    (h : ∀ a o s' ks, Set8 w o ks → (∀ x, x ∈ ks ↔ x ∈ xs) → Cx B L G m ((a, o) :: mu) s' → Q (.ref a) s') : wpAny (model prog w) A (call (.type "set") [.ref l]) Q E s := by
  obtain ⟨vs, n, e, p⟩ := ho
  subst e
  refine set_of_list8 hh hl p hsm fun h' tk o ks hk ho hO hm => h _ o _ ks hO hm (C.made ?_ hk ho)
  cases q : s.heap.get? s.heap.objs.size with
  | none => rfl
  | some o' => exact absurd (Heap.lt_size q) (Nat.lt_irrefl _)
theorem r_sorted8 {r : Addr} {o : Obj} {ks : List Int} {Q : Value → Shared → Prop} (C : Cx B L G m mu s) (hh : A.handled = none) (hr : s.heap.get? r = some o) (hO : Set8 w o ks)
    (h : ∀ a o s' ys, OI o ys → ys.Perm ks → ys.Pairwise (· ≤ ·) → Cx B L G m ((a, o) :: mu) s' → Q (.ref a) s') : wpAny (model prog w) A (call (.builtin "sorted") [.ref r]) Q E s := by
  obtain ⟨es, ep, t, rfl, p, g, hm⟩ := hO
  have hl8 := g.len
  have hlen : es.size = ks.length := by rw [← p.length]; simp
  refine sorted_src C (src_set ⟨g.led, g.rise, g.sz.trans hlen.symm, g.pl, fit8 g hm hlen⟩) hh hr (by omega) fun vs hvl hP => ?_
  have hpm := told_size (w := w) r es ep
  obtain ⟨ys, hys, p2⟩ := pr_perm hpm p
  refine ⟨ys, ?_, fun a o s' zs ho hz hs C2 => h a o s' zs ho (hz.trans hys) hs C2⟩
  have e : vs = (told w r es ep).toList.map (·.2) := by
    apply List.ext_getElem?
    intro i
    rw [List.getElem?_map]
    rcases Nat.lt_or_ge i vs.length with q | q
    · obtain ⟨e, he, hv⟩ := hP i vs[i] (List.getElem?_eq_getElem q)
      rw [List.getElem?_eq_getElem q, hv]
      have : (told w r es ep).toList[i]? = some e := by simpa using he
      rw [this]; rfl
    · have h1 := hpm.length_eq
      have h2 : (told w r es ep).toList.length ≤ i := by rw [h1]; simp; omega
      rw [List.getElem?_eq_none q, List.getElem?_eq_none h2]; rfl
  rw [e]
  clear e hP hpm hys
  generalize (told w r es ep).toList = l at p2
  induction p2 with
  | nil => exact .nil
  | cons a _ ih => obtain ⟨_, t, ht⟩ := a; exact .cons ⟨t, ht⟩ (ih)
end
section
set_option maxHeartbeats 8000000
variable {w : World} {A : Around} {E : Value → Shared → Prop} {B : Pin} {L : Addr} {G : Kn} {m : Str → Option Value} {mu : Mu} {s : Shared} {env : Env}
theorem seg_c {src stp c : Addr} {cells : List Int} {size : Int} {t : Tok} {rows : Rws} {p1 p2 p3 p4 : Addr × Obj} {o4 o5 : Obj} {Q : Flow → Shared → Prop} (W : Wd w B.heap) (hA : AOk A 4) (b : Bs G L src stp c cells size t rows)
    (C : Cx B L G m [p1, p2, p3, p4, (L + 1 + 1 + 1 + 1 + 1, o5), (L + 1 + 1 + 1 + 1, o4)] s) (h4 : o4.data = .cell none) (h5 : o5.data = .cell none)
    (h : ∀ G' fd ofd found mt mets s', Le G G' → celled G' (L + 1 + 1 + 1 + 1) (.ref fd) → G' fd = some ofd → OI ofd found → DepthIs rows found → celled G' (L + 1 + 1 + 1 + 1 + 1) (.ref mt) → Rows G' mt mets → MetsAre rows mets → Cx B L G' m [p1, p2, p3, p4] s' →
      wpAny (model pg w) A (execs ((lawB w).drop 8) (lawE w L)) Q E s') :
    wpAny (model pg w) A (execs ((lawB w).drop 6) (lawE w L)) Q E s := by
  unfold lawB lawE pickB pickE at *
  simp only [List.drop_succ_cons, List.drop_zero] at h ⊢
  obtain ⟨oc2, g2, d2⟩ := b.c2
  obtain ⟨oc3, g3, d3⟩ := b.c3
  have hlen := b.S.len
  have hsz := b.hsz
  tb_rel
  refine sp_depths (by assumption) W hA.le b.hr b.S fun fd ofd s2 found hof hD C2 => ?_
  obtain ⟨G3, hG3, gfd, C3⟩ := C2.freeze (i := 0) rfl
  simp only [List.eraseIdx_cons_zero] at C3
  tb_rel
  refine r_storeC C3 rfl rfl rfl (i := 5) rfl h4 fun s4 G4 oc4 hG4 g4 d4 C4 => ?_
  simp only [List.eraseIdx_cons_succ, List.eraseIdx_cons_zero] at C4
  have le4 := hG3.trans hG4
  have k2 := le4 _ _ g2
  have k3 := le4 _ _ g3
  have hr4 := b.hr.mono le4
  tb_rel
  refine r_comp (cl := [(Str.ofString "steps", L + 1 + 1 + 1)]) (by rfl) rfl (by decide +kernel) ?_
  tb_rel
  refine r_range1 (by assumption) fun rg org s5 hrg C5 => ?_
  refine compR (Rv := isR) C5 hrg (by omega) (by omega) (fun i G mu' ys => mu' = [p1, p2, p3, p4, (L + 1 + 1 + 1 + 1 + 1, o5)] ∧ ∃ ls, Paired (isRow G) ys ls ∧ ls.length = i ∧ ∀ (k : Nat) l, ls[k]? = some l → l.length ≤ 7 ∧ ∀ v, v ∈ l ↔ Reach rows k v) ⟨rfl, [], .nil, rfl, by simp⟩ ?_ ?_ hA.hh rfl (by decide +kernel) rfl
  · rintro Cc i ti hi B6 G6 mc mu6 ys s6 E6 hB6 hG6 ⟨rfl, ls, hys, hll, hls⟩ hm C6
    have W6 := W.le hB6
    have j3 := hG6 _ _ k3
    have hr6 := hr4.mono hG6
    refine tests_nil ?_
    rw [if_pos rfl]
    tb_rel
    refine sp_met (by assumption) W6 hA.le hr6 b.S ⟨by omega, by omega⟩ fun r o s7 l ho hl hl7 C7 => ?_
    obtain ⟨G8, hG8, g8, C8⟩ := C7.freeze (i := 0) rfl
    simp only [List.eraseIdx_cons_zero] at C8
    refine ⟨r, G8, mc, _, rfl, hG8, ⟨rfl, ls ++ [l], pr_app (pr_mono (fun _ _ y => y.mono hG8) hys) (.cons ⟨o, g8, ho⟩ .nil), by simp [hll], fun k l' hk => ?_⟩, C8⟩
    rcases Nat.lt_or_ge k ls.length with q | q
    · rw [List.getElem?_append_left q] at hk
      exact hls k l' hk
    · rw [List.getElem?_append_right q] at hk
      have e : k = i := by
        rcases Nat.lt_or_ge (k - ls.length) 1 with q2 | q2
        · omega
        · rw [List.getElem?_eq_none (by simpa using q2)] at hk; cases hk
      subst e
      rw [show k - ls.length = 0 by omega] at hk
      cases hk
      exact ⟨hl7, hl⟩
  rintro G6 mu6 ys D oD Cc oC mC s6 hG6 ⟨rfl, ls, hys, hll, hls⟩ hoD C6 hN
  refine post_none C6 hN fun s7 C7 => ?_
  obtain ⟨G8, hG8, g8, C8⟩ := C7.freeze (i := 0) rfl
  simp only [List.eraseIdx_cons_zero] at C8
  refine r_storeC C8 rfl rfl rfl (i := 4) rfl h5 fun s9 G9 oc9 hG9 g9 d9 C9 => ?_
  simp only [List.eraseIdx_cons_succ, List.eraseIdx_cons_zero] at C9
  have le9 := hG6.trans (hG8.trans hG9)
  exact h G9 fd ofd found D ls _ (le4.trans le9) ⟨oc4, le9 _ _ g4, d4⟩ (le9 _ _ (hG4 _ _ gfd)) hof hD ⟨oc9, g9, d9⟩ ⟨oD, ys, hG9 _ _ g8, hoD, pr_mono (fun _ _ y => y.mono (hG8.trans hG9)) hys⟩ ⟨by omega, hls⟩ C9
end
theorem picks_put (i : Nat) (f : Nat → Bool) (b : Bool) : picks (i + 1) (fun k => if k = i then b else f k) = picks i f ++ (if b = true then [(i : Int)] else []) := by
  rw [picks_succ, if_pos rfl]
  congr 1
  exact picks_congr fun k hk => if_neg (by omega)
theorem picks_fin {P : Nat → Prop} {i : Nat} {f : Nat → Bool} (h : ∀ k, k < i → (f k = true ↔ P k)) {b : Bool} (hb : b = true ↔ P i) : ∀ k, k < i + 1 → ((fun k => if k = i then b else f k) k = true ↔ P k) := fun k hk => by
  dsimp only
  by_cases e : k = i
  · subst e; rw [if_pos rfl]; exact hb
  · rw [if_neg e]; exact h k (by omega)
def metOf (mets : List (List Int)) (g : Int) : List Int := mets.getD g.toNat []
theorem metOf_get {rows : Rws} {mets : List (List Int)} (M : MetsAre rows mets) {g : Int} (h : InR rows g) : mets[g.toNat]? = some (metOf mets g) := by
  have := M.1
  unfold metOf
  rw [List.getD_eq_getElem?_getD]
  have h2 : g.toNat < mets.length := by have := h.1; have := h.2; omega
  rw [List.getElem?_eq_getElem h2]; rfl
theorem mem_metOf {rows : Rws} {mets : List (List Int)} (M : MetsAre rows mets) {g : Int} (h : InR rows g) {v : Int} : v ∈ metOf mets g ↔ Reach rows g v := by
  have := (M.2 _ _ (metOf_get M h)).2 v
  rw [this, show ((g.toNat : Nat) : Int) = g by have := h.1; omega]
theorem metOf_len {rows : Rws} {mets : List (List Int)} (M : MetsAre rows mets) {g : Int} (h : InR rows g) : (metOf mets g).length ≤ 7 := (M.2 _ _ (metOf_get M h)).1
section
set_option maxHeartbeats 8000000
variable {w : World} {A : Around} {E : Value → Shared → Prop} {B : Pin} {L : Addr} {G : Kn} {m : Str → Option Value} {mu : Mu} {s : Shared} {env : Env}
theorem seg_d {src stp c fd mt : Addr} {cells : List Int} {size : Int} {t : Tok} {rows : Rws} {mets : List (List Int)} {p1 p2 p3 : Addr × Obj} {o6 : Obj} {Q : Flow → Shared → Prop} (W : Wd w B.heap) (hA : AOk A 4) (b : Bs G L src stp c cells size t rows)
    (C : Cx B L G m [p1, p2, p3, (L + 1 + 1 + 1 + 1 + 1 + 1, o6)] s) (h6 : o6.data = .cell none) (hmt : celled G (L + 1 + 1 + 1 + 1 + 1) (.ref mt)) (hms : Rows G mt mets) (M : MetsAre rows mets)
    (h : ∀ G' rg org fr s', Le G G' → celled G' (L + 1 + 1 + 1 + 1 + 1 + 1) (.ref rg) → G' rg = some org → OI org (picks rows.length fr) → (∀ k, k < rows.length → (fr k = true ↔ RingAt rows k)) → Cx B L G' m [p1, p2, p3] s' →
      wpAny (model pg w) A (execs ((lawB w).drop 9) (lawE w L)) Q E s') :
    wpAny (model pg w) A (execs ((lawB w).drop 8) (lawE w L)) Q E s := by
  unfold lawB lawE pickB pickE at *
  simp only [List.drop_succ_cons, List.drop_zero] at h ⊢
  obtain ⟨oc2, g2, d2⟩ := b.c2
  obtain ⟨oc3, g3, d3⟩ := b.c3
  obtain ⟨oc5, g5, d5⟩ := hmt
  have hlen := b.S.len
  have hsz := b.hsz
  have hml := M.1
  tb_rel
  refine r_comp (cl := [(Str.ofString "steps", L + 1 + 1 + 1), (Str.ofString "met", L + 1 + 1 + 1 + 1 + 1)]) (by rfl) rfl (by decide +kernel) ?_
  tb_rel
  refine r_range1 (by assumption) fun rg org s5 hrg C5 => ?_
  refine compRC (Rv := isI) C5 hrg (by omega) (by omega) (fun i G mu' ys => mu' = [p1, p2, p3, (L + 1 + 1 + 1 + 1 + 1 + 1, o6)] ∧ ∃ f, ys = picks i f ∧ ∀ k, k < i → (f k = true ↔ RingAt rows k)) ⟨rfl, fun _ => false, rfl, fun k hk => absurd hk (Nat.not_lt_zero _)⟩ ?_ ?_ hA.hh rfl (by intro _; rfl) (by intro _; rfl) rfl
  · rintro Cc nc i ti hi B6 G6 mc mu6 ys s6 E6 hB6 hG6 ⟨rfl, f, rfl, hf⟩ ⟨onc, hz6, hd6⟩ C6
    have W6 := W.le hB6
    have j3 := hG6 _ _ g3
    have j5 := hG6 _ _ g5
    have hr6 := b.hr.mono hG6
    have hin : InR rows i := ⟨by omega, by omega⟩
    refine tests_one ?_
    tb_rel
    refine r_comp (cl := [(Str.ofString "number", nc), (Str.ofString "met", L + 1 + 1 + 1 + 1 + 1)]) (by rfl) rfl (by decide +kernel) ?_
    tb_rel
    refine sp_goals (by assumption) W6 hA.le hr6 hin.1 (getElem?_rowOf hin) (by omega) (by have := b.S.rowLen i; omega) fun gs ogs s7 hgs C7 => ?_
    have hgl : (goalsOf rows i).length ≤ 4 := Nat.le_trans (List.length_filter_le _ _) (b.S.rowLen i)
    refine compN (Rv := isI) (xs := goalsOf rows i) C7 hgs (by omega) (fun j G mu' ys => mu' = [p1, p2, p3, (L + 1 + 1 + 1 + 1 + 1 + 1, o6)] ∧ ys = ((goalsOf rows i).take j).filter fun g => decide ((i : Int) ∈ metOf mets g)) (fun _ _ => ⟨rfl, rfl⟩) ?_ ?_ hA.hh rfl (by decide +kernel) rfl
    · rintro Cc2 j v g hj ⟨tg, rfl⟩ B8 G8 mc8 mu8 ys8 s8 E8 hB8 hG8 ⟨rfl, rfl⟩ hm8 C8
      have W8 := W6.le hB8
      have i5 := hG8 _ _ j5
      have hz8 := hB8.2 _ _ hz6
      have hg := goalsOf_lt b.S (List.mem_of_getElem? hj)
      have hms8 := (hms.mono hG6).mono hG8
      refine tests_one ?_
      tb_rel
      refine r_row (by assumption) hms8 (by omega) (metOf_get M hg) (by omega) fun ma hma => ?_
      obtain ⟨oma, gma, homa⟩ := hma
      tb_rel
      refine r_in (Cx.know (by assumption) _ _ gma) homa ?_
      tb_rel
      by_cases q : (i : Int) ∈ metOf mets g
      · rw [if_pos (by simpa using q)]
        tb_rel
        refine ⟨g, G8, mc8, _, ⟨tg, rfl⟩, Le.rfl', ⟨rfl, ?_⟩, by assumption⟩
        rw [List.take_add_one, hj, List.filter_append]; simp [q]
      · rw [if_neg (by simpa using q)]
        refine ⟨G8, mc8, _, Le.rfl', ⟨rfl, ?_⟩, by assumption⟩
        rw [List.take_add_one, hj, List.filter_append]; simp [q]
    rintro G8 mu8 ys8 D8 oD8 Cc8 oC8 mC8 s8 hG8 ⟨rfl, rfl⟩ hoD8 C8 hN8
    rw [List.take_length] at hoD8
    refine post_none C8 hN8 fun s9 C9 => ?_
    tb_rel
    refine r_truthy C9 (C9.getL (by k_mem)) hoD8 (Nat.le_trans (List.length_filter_le _ _) (by omega)) fun s10 C10 => ?_
    have hb : (!((goalsOf rows i).filter fun g => decide ((i : Int) ∈ metOf mets g)).isEmpty) = true ↔ RingAt rows (i : Int) := by
      rw [Bool.not_eq_true', List.isEmpty_eq_false_iff_exists_mem]
      constructor
      · rintro ⟨g, hg⟩
        obtain ⟨h1, h2⟩ := List.mem_filter.mp hg
        have he := (mem_goals b.S hin).mp h1
        exact ⟨g, he, (mem_metOf M he.2.1).mp (by simpa using h2)⟩
      · rintro ⟨g, he, hr⟩
        exact ⟨g, List.mem_filter.mpr ⟨(mem_goals b.S hin).mpr he, by simpa using (mem_metOf M he.2.1).mpr hr⟩⟩
    generalize (!((goalsOf rows i).filter fun g => decide ((i : Int) ∈ metOf mets g)).isEmpty) = bb at hb
    cases bb with
    | true =>
      rw [if_pos rfl]
      tb_rel
      exact ⟨(i : Int), G8, mc, _, ⟨ti, rfl⟩, hG8, ⟨rfl, _, by rw [picks_put i f true]; rfl, picks_fin hf hb⟩, C10.drop (List.sublist_cons_self _ _)⟩
    | false =>
      rw [if_neg (by simp)]
      exact ⟨G8, mc, _, hG8, ⟨rfl, _, by rw [picks_put i f false]; simp, picks_fin hf hb⟩, C10.drop (List.sublist_cons_self _ _)⟩
  rintro G6 mu6 ys D oD Cc oC mC s6 hG6 ⟨rfl, f, rfl, hf⟩ hoD C6 hN
  refine post_none C6 hN fun s7 C7 => ?_
  obtain ⟨G8, hG8, g8, C8⟩ := C7.freeze (i := 0) rfl
  simp only [List.eraseIdx_cons_zero] at C8
  refine r_storeC C8 rfl rfl rfl (i := 3) rfl h6 fun s9 G9 oc9 hG9 g9 d9 C9 => ?_
  simp only [List.eraseIdx_cons_succ, List.eraseIdx_cons_zero] at C9
  have hszn : size.toNat = rows.length := by omega
  rw [hszn] at hoD hf
  exact h G9 D oD f _ (hG6.trans (hG8.trans hG9)) ⟨oc9, g9, d9⟩ (hG9 _ _ g8) hoD hf C9
end
section
set_option maxHeartbeats 8000000
variable {w : World} {A : Around} {E : Value → Shared → Prop} {B : Pin} {L : Addr} {G : Kn} {m : Str → Option Value} {mu : Mu} {s : Shared} {env : Env}
theorem seg_e {src stp c mt rg : Addr} {org : Obj} {fr : Nat → Bool} {cells : List Int} {size : Int} {t : Tok} {rows : Rws} {mets : List (List Int)} {Q : Flow → Shared → Prop} (W : Wd w B.heap) (hA : AOk A 4) (b : Bs G L src stp c cells size t rows)
    (C : Cx B L G m mu s) (hmt : celled G (L + 1 + 1 + 1 + 1 + 1) (.ref mt)) (hms : Rows G mt mets) (M : MetsAre rows mets)
    (hrg : celled G (L + 1 + 1 + 1 + 1 + 1 + 1) (.ref rg)) (hgo : G rg = some org) (hog : OI org (picks rows.length fr)) (hfr : ∀ k, k < rows.length → (fr k = true ↔ RingAt rows k))
    (h : ∀ G' en oen fe s', Le G G' → G' en = some oen → OI oen (picks rows.length fe) → (∀ k, k < rows.length → (fe k = true ↔ EndAt rows k)) → Cx B L G' (upd m (Str.ofString "endless") (.ref en)) mu s' →
      wpAny (model pg w) A (execs ((lawB w).drop 10) (lawE w L)) Q E s') :
    wpAny (model pg w) A (execs ((lawB w).drop 9) (lawE w L)) Q E s := by
  unfold lawB lawE pickB pickE at *
  simp only [List.drop_succ_cons, List.drop_zero] at h ⊢
  obtain ⟨oc2, g2, d2⟩ := b.c2
  obtain ⟨oc5, g5, d5⟩ := hmt
  obtain ⟨oc6, g6, d6⟩ := hrg
  have hlen := b.S.len
  have hsz := b.hsz
  have hml := M.1
  have hpl : (picks rows.length fr).length ≤ rows.length := nodup_bound picks_nodup fun k hk => ⟨(mem_picks.mp hk).1, (mem_picks.mp hk).2.1⟩
  tb_rel
  refine r_compA (cl := [(Str.ofString "rings", L + 1 + 1 + 1 + 1 + 1 + 1), (Str.ofString "met", L + 1 + 1 + 1 + 1 + 1)]) (by rfl) (by rfl) rfl (by decide +kernel) ?_
  tb_rel
  refine r_range1 (by assumption) fun rgo orgo s5 hrgo C5 => ?_
  refine compRC (Rv := isI) C5 hrgo (by omega) (by omega) (fun i G mu' ys => mu' = mu ∧ ∃ f, ys = picks i f ∧ ∀ k, k < i → (f k = true ↔ EndAt rows k)) ⟨rfl, fun _ => false, rfl, fun k hk => absurd hk (Nat.not_lt_zero _)⟩ ?_ ?_ hA.hh rfl (by intro _; rfl) (by intro _; rfl) rfl
  · rintro Cc nc i ti hi B6 G6 mc mu6 ys s6 E6 hB6 hG6 ⟨rfl, f, rfl, hf⟩ ⟨onc, hz6, hd6⟩ C6
    have W6 := W.le hB6
    have j5 := hG6 _ _ g5
    have j6 := hG6 _ _ g6
    have hin : InR rows i := ⟨by omega, by omega⟩
    refine tests_one ?_
    tb_rel
    refine r_comp (cl := [(Str.ofString "number", nc), (Str.ofString "met", L + 1 + 1 + 1 + 1 + 1)]) (by rfl) rfl (by decide +kernel) ?_
    tb_rel
    rename Cx _ _ _ _ _ _ => C7
    refine compL (Rv := isI) (Ra := isI) C7 (hG6 _ _ hgo) hog (by omega) (fun j G mu' ys => mu' = mu6 ∧ ys = ((picks rows.length fr).take j).filter fun g => decide (g ∈ metOf mets i)) ⟨rfl, rfl⟩ ?_ ?_ hA.hh rfl (by decide +kernel) rfl
    · rintro Cc2 j v g hj ⟨tg, rfl⟩ B8 G8 mc8 mu8 ys8 s8 E8 hB8 hG8 ⟨rfl, rfl⟩ hm8 C8
      have W8 := W6.le hB8
      have i5 := hG8 _ _ j5
      have hz8 := hB8.2 _ _ hz6
      have hms8 := (hms.mono hG6).mono hG8
      refine tests_one ?_
      tb_rel
      refine r_row (by assumption) hms8 (by omega) (metOf_get M hin) (by omega) fun ma hma => ?_
      obtain ⟨oma, gma, homa⟩ := hma
      tb_rel
      refine r_in (Cx.know (by assumption) _ _ gma) homa ?_
      tb_rel
      by_cases q : g ∈ metOf mets i
      · rw [if_pos (by simpa using q)]
        tb_rel
        refine ⟨g, G8, mc8, _, ⟨tg, rfl⟩, Le.rfl', ⟨rfl, ?_⟩, by assumption⟩
        rw [List.take_add_one, hj, List.filter_append]; simp [q]
      · rw [if_neg (by simpa using q)]
        refine ⟨G8, mc8, _, Le.rfl', ⟨rfl, ?_⟩, by assumption⟩
        rw [List.take_add_one, hj, List.filter_append]; simp [q]
    rintro G8 mu8 ys8 D8 oD8 Cc8 oC8 mC8 s8 hG8 ⟨rfl, rfl⟩ hoD8 C8 hN8
    rw [List.take_length] at hoD8
    refine post_none C8 hN8 fun s9 C9 => ?_
    tb_rel
    refine r_truthy C9 (C9.getL (by k_mem)) hoD8 (Nat.le_trans (List.length_filter_le _ _) (by omega)) fun s10 C10 => ?_
    have hb : (!((picks rows.length fr).filter fun g => decide (g ∈ metOf mets i)).isEmpty) = true ↔ EndAt rows (i : Int) := by
      rw [Bool.not_eq_true', List.isEmpty_eq_false_iff_exists_mem]
      constructor
      · rintro ⟨g, hg⟩
        obtain ⟨h1, h2⟩ := List.mem_filter.mp hg
        obtain ⟨a1, a2, a3⟩ := mem_picks.mp h1
        have hr := (hfr g.toNat (by omega)).mp a3
        rw [show ((g.toNat : Nat) : Int) = g by omega] at hr
        exact ⟨g, ⟨a1, a2⟩, hr, (mem_metOf M hin).mp (by simpa using h2)⟩
      · rintro ⟨r, h1, h2, h3⟩
        have hr := (hfr r.toNat (by have := h1.1; have := h1.2; omega)).mpr (by rw [show ((r.toNat : Nat) : Int) = r by have := h1.1; omega]; exact h2)
        exact ⟨r, List.mem_filter.mpr ⟨mem_picks.mpr ⟨h1.1, h1.2, hr⟩, by simpa using (mem_metOf M hin).mpr h3⟩⟩
    generalize (!((picks rows.length fr).filter fun g => decide (g ∈ metOf mets i)).isEmpty) = bb at hb
    cases bb with
    | true =>
      rw [if_pos rfl]
      tb_rel
      exact ⟨(i : Int), G8, mc, _, ⟨ti, rfl⟩, hG8, ⟨rfl, _, by rw [picks_put i f true]; rfl, picks_fin hf hb⟩, C10.drop (List.sublist_cons_self _ _)⟩
    | false =>
      rw [if_neg (by simp)]
      exact ⟨G8, mc, _, hG8, ⟨rfl, _, by rw [picks_put i f false]; simp, picks_fin hf hb⟩, C10.drop (List.sublist_cons_self _ _)⟩
  rintro G6 mu6 ys D oD Cc oC mC s6 hG6 ⟨rfl, f, rfl, hf⟩ hoD C6 hN
  refine post_use C6 hN rfl rfl fun s7 C7 => ?_
  obtain ⟨G8, hG8, g8, C8⟩ := C7.freeze (i := 0) rfl
  simp only [List.eraseIdx_cons_zero] at C8
  have hszn : size.toNat = rows.length := by omega
  rw [hszn] at hoD hf
  exact h G8 D oD f _ (hG6.trans hG8) g8 hoD hf C8
end
theorem bool_iff {a b : Bool} {P : Prop} (h : a = true ↔ P) (h' : b = true ↔ P) : a = b := by
  cases a <;> cases b <;> simp_all
section
set_option maxHeartbeats 8000000
variable {w : World} {A : Around} {E : Value → Shared → Prop} {B : Pin} {L : Addr} {G : Kn} {m : Str → Option Value} {mu : Mu} {s : Shared} {env : Env}
theorem seg_f {src stp c fd rg en : Addr} {org ofd oen : Obj} {fr fe : Nat → Bool} {found : List Int} {cells : List Int} {size : Int} {t : Tok} {rows : Rws} {Q : Flow → Shared → Prop} (W : Wd w B.heap) (hA : AOk A 4) (b : Bs G L src stp c cells size t rows)
    (C : Cx B L G m mu s) (hfd : celled G (L + 1 + 1 + 1 + 1) (.ref fd)) (hgf : G fd = some ofd) (hof : OI ofd found) (D : DepthIs rows found)
    (hrg : celled G (L + 1 + 1 + 1 + 1 + 1 + 1) (.ref rg)) (hgo : G rg = some org) (hog : OI org (picks rows.length fr)) (hfr : ∀ k, k < rows.length → (fr k = true ↔ RingAt rows k))
    (hen : m (Str.ofString "endless") = some (.ref en)) (hge : G en = some oen) (hoe : OI oen (picks rows.length fe)) (hfe : ∀ k, k < rows.length → (fe k = true ↔ EndAt rows k))
    (h : ∀ s', Cx B L G m mu s' → wpAny (model pg w) A (execs ((lawB w).drop 12) (lawE w L)) Q E s') :
    wpAny (model pg w) A (execs ((lawB w).drop 10) (lawE w L)) Q E s := by
  unfold lawB lawE pickB pickE at *
  simp only [List.drop_succ_cons, List.drop_zero] at h ⊢
  obtain ⟨oc2, g2, d2⟩ := b.c2
  obtain ⟨oc3, g3, d3⟩ := b.c3
  obtain ⟨oc4, g4, d4⟩ := hfd
  obtain ⟨oc6, g6, d6⟩ := hrg
  have hlen := b.S.len
  have hsz := b.hsz
  have hfl := D.len
  tb_rel
  refine sp_right (by assumption) W hA.le b.hr b.S hgf hof D fun s2 C2 => ?_
  tb_rel
  rw [if_neg (by simp)]
  tb_rel
  refine sp_rings (by assumption) W hA.le b.hr b.S fun r o s3 found' f ho D' hf C3 => ?_
  have e1 : picks rows.length f = picks rows.length fr := picks_congr fun k hk => bool_iff ((hf k hk).trans (ring_iff D' hk)) (hfr k hk)
  tb_rel
  refine r_neInts (Cx.getL (by assumption) (by k_mem)) ho (Cx.know (by assumption) _ _ hgo) hog hA.units ?_
  rw [e1]
  tb_rel
  rw [if_neg (by simp)]
  tb_rel
  rw [if_neg (by simp)]
  tb_rel
  refine r_comp (cl := [(Str.ofString "found", L + 1 + 1 + 1 + 1)]) (by rfl) rfl (by decide +kernel) ?_
  tb_rel
  refine r_range1 (by assumption) fun rgo orgo s5 hrgo C5 => ?_
  refine compR (Rv := isI) C5 hrgo (by omega) (by omega) (fun i G mu' ys => mu' = (r, o) :: mu ∧ ∃ f, ys = picks i f ∧ ∀ k, k < i → (f k = true ↔ at' found k < 0)) ⟨rfl, fun _ => false, rfl, fun k hk => absurd hk (Nat.not_lt_zero _)⟩ ?_ ?_ hA.hh rfl (by decide +kernel) rfl
  · rintro Cc i ti hi B6 G6 mc mu6 ys s6 E6 hB6 hG6 ⟨rfl, f6, rfl, hf6⟩ hm6 C6
    have W6 := W.le hB6
    have j4 := hG6 _ _ g4
    refine tests_one ?_
    tb_rel
    refine r_item (Cx.know (by assumption) _ _ (hG6 _ _ hgf)) hof (by omega) (at_get (v := (i : Int).toNat) (by omega)) (by omega) fun v hv => ?_
    obtain ⟨tv, rfl⟩ := hv
    tb_rel
    by_cases q : at' found i < 0
    · rw [if_pos (by simpa using q)]
      tb_rel
      exact ⟨(i : Int), G6, mc, _, ⟨ti, rfl⟩, Le.rfl', ⟨rfl, _, by rw [picks_put i f6 true]; rfl, picks_fin hf6 ⟨fun _ => q, fun _ => rfl⟩⟩, by assumption⟩
    · rw [if_neg (by simpa using q)]
      exact ⟨G6, mc, _, Le.rfl', ⟨rfl, _, by rw [picks_put i f6 false]; simp, picks_fin hf6 ⟨fun z => (by cases z), fun z => absurd z q⟩⟩, by assumption⟩
  rintro G6 mu6 ys Dx oD Cc oC mC s6 hG6 ⟨rfl, f6, rfl, hf6⟩ hoD C6 hN
  refine post_none C6 hN fun s7 C7 => ?_
  have hszn : size.toNat = rows.length := by omega
  rw [hszn] at hoD hf6
  have e2 : picks rows.length f6 = picks rows.length fe := picks_congr fun k hk => bool_iff ((hf6 k hk).trans (by simpa using depth_end D (k := (k : Int)) ⟨by omega, by omega⟩)) (hfe k hk)
  tb_rel
  refine r_neInts (Cx.getL (by assumption) (by k_mem)) hoD (Cx.know (by assumption) _ _ (hG6 _ _ hge)) hoe hA.units ?_
  rw [e2]
  tb_rel
  rw [if_neg (by simp)]
  exact wpAny_execs_nil (h _ ((C7.weakG hG6 C.bG).drop (.cons _ (.cons _ (List.Sublist.refl _)))))
end
section
set_option maxHeartbeats 8000000
variable {w : World} {A : Around} {E : Value → Shared → Prop} {B : Pin} {L : Addr} {G : Kn} {m : Str → Option Value} {mu : Mu} {s : Shared} {env : Env}
theorem seg_g {src stp c : Addr} {osrc o7 o8 : Obj} {at0 : Int} {cells : List Int} {size : Int} {t : Tok} {rows : Rws} {Q : Flow → Shared → Prop} (W : Wd w B.heap) (hA : AOk A 4) (b : Bs G L src stp c cells size t rows)
    (C : Cx B L G m [(src, osrc), (L + 1 + 1 + 1 + 1 + 1 + 1 + 1 + 1, o8), (L + 1 + 1 + 1 + 1 + 1 + 1 + 1, o7)] s) (h7 : o7.data = .cell none) (h8 : o8.data = .cell none) (hsrc : SrcO osrc c at0) (h00 : 0 ≤ at0) (hat0 : at0 ≤ 200)
    (h : ∀ G' so oth oso ooth sos oths osrc' at' s', Le G G' → celled G' (L + 1 + 1 + 1 + 1 + 1 + 1 + 1) (.ref so) → G' so = some oso → OI oso sos → sos.length ≤ 2 → (∀ x ∈ sos, 0 ≤ x ∧ x ≤ size) →
      celled G' (L + 1 + 1 + 1 + 1 + 1 + 1 + 1 + 1) (.ref oth) → G' oth = some ooth → OI ooth oths → oths.length ≤ 2 → (∀ x ∈ oths, 0 ≤ x ∧ x ≤ size) → SrcO osrc' c at' → 0 ≤ at' → at' ≤ 210 → Cx B L G' m [(src, osrc')] s' →
      wpAny (model pg w) A (execs ((lawB w).drop 14) (lawE w L)) Q E s') :
    wpAny (model pg w) A (execs ((lawB w).drop 12) (lawE w L)) Q E s := by
  unfold lawB lawE pickB pickE at *
  simp only [List.drop_succ_cons, List.drop_zero] at h ⊢
  obtain ⟨oc1, g1, d1⟩ := b.c1
  obtain ⟨oc2, g2, d2⟩ := b.c2
  have hlen := b.S.len
  have hsz := b.hsz
  tb_rel
  refine r_comp (cl := [(Str.ofString "source", L + 1), (Str.ofString "size", L + 1 + 1)]) (by rfl) rfl (by decide +kernel) ?_
  tb_rel
  refine sp_draw (i := 0) (by assumption) W hA.le rfl hsrc b.hc b.hne (by have := b.hcz; omega) h00 (by omega) (by omega) fun k1 tk1 osrc1 s1 hk0 hk3 hsrc1 C1 => ?_
  simp only [List.set_cons_zero] at C1
  tb_rel
  refine r_range1 (by assumption) fun rg org s2 hrg C2 => ?_
  refine compR (Rv := isI) C2 hrg (by omega) (by omega) (fun i G mu' ys => ∃ osrc at', mu' = [(src, osrc), (L + 1 + 1 + 1 + 1 + 1 + 1 + 1 + 1, o8), (L + 1 + 1 + 1 + 1 + 1 + 1 + 1, o7)] ∧ SrcO osrc c at' ∧ 0 ≤ at' ∧ at' ≤ at0 + 1 + (i : Int) ∧ ys.length = i ∧ ∀ x ∈ ys, 0 ≤ x ∧ x ≤ size) ⟨osrc1, at0 + 1, rfl, hsrc1, by omega, by omega, rfl, by simp⟩ ?_ ?_ hA.hh rfl (by decide +kernel) rfl
  · rintro Cc i ti hi B6 G6 mc mu6 ys s6 E6 hB6 hG6 ⟨osrc6, at6, rfl, hsrc6, h06, hat6, hyl, hys⟩ hm6 C6
    have W6 := W.le hB6
    have j1 := hG6 _ _ g1
    have j2 := hG6 _ _ g2
    refine tests_nil ?_
    rw [if_pos rfl]
    tb_rel
    refine sp_draw (i := 0) (by assumption) W6 hA.le rfl hsrc6 (b.hc.mono hG6) b.hne (by have := b.hcz; omega) h06 (by omega) (by omega) fun y ty osrc7 s7 hy0 hy1 hsrc7 C7 => ?_
    simp only [List.set_cons_zero] at C7
    refine ⟨y, G6, mc, _, ⟨ty, rfl⟩, Le.rfl', ⟨osrc7, at6 + 1, rfl, hsrc7, by omega, by omega, by simp [hyl], fun x hx => ?_⟩, C7⟩
    rcases List.mem_append.mp hx with hx | hx
    · exact hys x hx
    · have e : x = y := by simpa using hx
      omega
  rintro G6 mu6 sos D oD Cc oC mC s6 hG6 ⟨osrc6, at6, rfl, hsrc6, h06, hat6, hyl, hys⟩ hoD C6 hN
  refine post_none C6 hN fun s7 C7 => ?_
  obtain ⟨G8, hG8, g8, C8⟩ := C7.freeze (i := 0) rfl
  simp only [List.eraseIdx_cons_zero] at C8
  tb_rel
  refine r_storeC C8 rfl rfl rfl (i := 2) rfl h7 fun s9 G9 oc9 hG9 g9 d9 C9 => ?_
  simp only [List.eraseIdx_cons_succ, List.eraseIdx_cons_zero] at C9
  have le9 := hG6.trans (hG8.trans hG9)
  have q1 := le9 _ _ g1
  have q2 := le9 _ _ g2
  tb_rel
  refine r_comp (cl := [(Str.ofString "source", L + 1), (Str.ofString "size", L + 1 + 1)]) (by rfl) rfl (by decide +kernel) ?_
  tb_rel
  refine sp_draw (i := 0) (by assumption) W hA.le rfl hsrc6 (b.hc.mono le9) b.hne (by have := b.hcz; omega) h06 (by omega) (by omega) fun k2 tk2 osrc10 s10 hk20 hk23 hsrc10 C10 => ?_
  simp only [List.set_cons_zero] at C10
  tb_rel
  refine r_range1 (by assumption) fun rg2 org2 s11 hrg2 C11 => ?_
  refine compR (Rv := isI) C11 hrg2 (by omega) (by omega) (fun i G mu' ys => ∃ osrc at', mu' = [(src, osrc), (L + 1 + 1 + 1 + 1 + 1 + 1 + 1 + 1, o8)] ∧ SrcO osrc c at' ∧ 0 ≤ at' ∧ at' ≤ at6 + 1 + (i : Int) ∧ ys.length = i ∧ ∀ x ∈ ys, 0 ≤ x ∧ x ≤ size) ⟨osrc10, at6 + 1, rfl, hsrc10, by omega, by omega, rfl, by simp⟩ ?_ ?_ hA.hh rfl (by decide +kernel) rfl
  · rintro Cc i ti hi B12 G12 mc mu12 ys s12 E12 hB12 hG12 ⟨osrc12, at12, rfl, hsrc12, h012, hat12, hyl, hys⟩ hm12 C12
    have W12 := W.le hB12
    have j1 := hG12 _ _ q1
    have j2 := hG12 _ _ q2
    refine tests_nil ?_
    rw [if_pos rfl]
    tb_rel
    refine sp_draw (i := 0) (by assumption) W12 hA.le rfl hsrc12 ((b.hc.mono le9).mono hG12) b.hne (by have := b.hcz; omega) h012 (by omega) (by omega) fun y ty osrc7 s7 hy0 hy1 hsrc7 C7 => ?_
    simp only [List.set_cons_zero] at C7
    refine ⟨y, G12, mc, _, ⟨ty, rfl⟩, Le.rfl', ⟨osrc7, at12 + 1, rfl, hsrc7, by omega, by omega, by simp [hyl], fun x hx => ?_⟩, C7⟩
    rcases List.mem_append.mp hx with hx | hx
    · exact hys x hx
    · have e : x = y := by simpa using hx
      omega
  rintro G12 mu12 oths D2 oD2 Cc2 oC2 mC2 s12 hG12 ⟨osrc12, at12, rfl, hsrc12, h012, hat12, hyl2, hys2⟩ hoD2 C12 hN2
  refine post_none C12 hN2 fun s13 C13 => ?_
  obtain ⟨G14, hG14, g14, C14⟩ := C13.freeze (i := 0) rfl
  simp only [List.eraseIdx_cons_zero] at C14
  refine r_storeC C14 rfl rfl rfl (i := 1) rfl h8 fun s15 G15 oc15 hG15 g15 d15 C15 => ?_
  simp only [List.eraseIdx_cons_succ, List.eraseIdx_cons_zero] at C15
  have le15 := hG12.trans (hG14.trans hG15)
  exact h G15 D D2 oD oD2 sos oths osrc12 at12 _ (le9.trans le15) ⟨oc9, le15 _ _ g9, d9⟩ (le15 _ _ (hG9 _ _ g8)) hoD (by omega) hys ⟨oc15, g15, d15⟩ (hG15 _ _ g14) hoD2 (by omega) hys2 hsrc12 h012 (by omega) C15
end
section
set_option maxHeartbeats 8000000
variable {w : World} {A : Around} {E : Value → Shared → Prop} {B : Pin} {L : Addr} {G : Kn} {m : Str → Option Value} {mu : Mu} {s : Shared} {env : Env}
theorem picks_small {rows : Rws} (S : Small rows) {f : Nat → Bool} : (picks rows.length f).length ≤ 7 ∧ ∀ x ∈ picks rows.length f, 0 ≤ x ∧ x < 8 := by
  have := S.len
  refine ⟨Nat.le_trans (nodup_bound picks_nodup fun k hk => ⟨(mem_picks.mp hk).1, (mem_picks.mp hk).2.1⟩) this, fun x hx => ?_⟩
  have := mem_picks.mp hx
  exact ⟨this.1, by omega⟩
theorem seg_h {src stp c so oth : Addr} {oso ooth : Obj} {sos oths : List Int} {cells : List Int} {size : Int} {t : Tok} {rows : Rws} {Q : Flow → Shared → Prop} (W : Wd w B.heap) (hA : AOk A 4) (b : Bs G L src stp c cells size t rows)
    (C : Cx B L G m mu s) (hso : celled G (L + 1 + 1 + 1 + 1 + 1 + 1 + 1) (.ref so)) (gso : G so = some oso) (iso : OI oso sos) (lso : sos.length ≤ 2)
    (hoth : celled G (L + 1 + 1 + 1 + 1 + 1 + 1 + 1 + 1) (.ref oth)) (goth : G oth = some ooth) (ioth : OI ooth oths) (loth : oths.length ≤ 2)
    (h : ∀ G' bo obo fb s', Le G G' → G' bo = some obo → OI obo (picks rows.length fb) → (∀ k, k < rows.length → (fb k = true ↔ From rows (sos ++ oths) k)) → Cx B L G' (upd m (Str.ofString "both") (.ref bo)) mu s' →
      wpAny (model pg w) A (execs ((lawB w).drop 16) (lawE w L)) Q E s') :
    wpAny (model pg w) A (execs ((lawB w).drop 14) (lawE w L)) Q E s := by
  unfold lawB lawE pickB pickE at *
  simp only [List.drop_succ_cons, List.drop_zero] at h ⊢
  obtain ⟨oc3, g3, d3⟩ := b.c3
  obtain ⟨oc7, g7, d7⟩ := hso
  obtain ⟨oc8, g8, d8⟩ := hoth
  have hlen := b.S.len
  tb_rel
  refine r_addList (by assumption) (Cx.know (by assumption) _ _ gso) iso (Cx.know (by assumption) _ _ goth) ioth (by omega) fun sm osm s2 hsm C2 => ?_
  tb_rel
  refine sp_reached (by assumption) W hA.le b.hr b.S (.inr (by k_mem)) hsm (by simp; omega) fun bo obo s3 fb hbo hfb C3 => ?_
  tb_rel
  rename Cx _ _ _ _ _ _ => C4
  obtain ⟨G5, hG5, g5, C5⟩ := C4.freeze (i := 0) rfl
  simp only [List.eraseIdx_cons_zero] at C5
  have k3 := hG5 _ _ g3
  have k7 := hG5 _ _ g7
  have k8 := hG5 _ _ g8
  have hr5 := b.hr.mono hG5
  tb_rel
  refine sp_reached (by assumption) W hA.le hr5 b.S (.inl (hG5 _ _ gso)) iso (by omega) fun r1 o1 s6 f1 ho1 hf1 C6 => ?_
  tb_rel
  refine sp_reached (by assumption) W hA.le hr5 b.S (.inl (hG5 _ _ goth)) ioth (by omega) fun r2 o2 s7 f2 ho2 hf2 C7 => ?_
  tb_rel
  have hp1 := picks_small b.S (f := f1)
  have hp2 := picks_small b.S (f := f2)
  refine r_addList (by assumption) (Cx.getL (by assumption) (by k_mem)) ho1 (Cx.getL (by assumption) (by k_mem)) ho2 (by omega) fun u ou s8 hu C8 => ?_
  tb_rel
  refine r_set8 (by assumption) hA.hh (Cx.getL (by assumption) (by k_mem)) hu (fun x hx => by
    rcases List.mem_append.mp hx with hx | hx
    · exact hp1.2 x hx
    · exact hp2.2 x hx) fun st ost s9 ks hst hks C9 => ?_
  tb_rel
  refine r_sorted8 (by assumption) hA.hh (Cx.getL (by assumption) (by k_mem)) hst fun r o s10 ys ho hp hs C10 => ?_
  have hnd : ks.Nodup := by obtain ⟨_, _, _, _, _, g, _⟩ := hst; exact g.nd
  have e1 : picks rows.length fb = ys := by
    refine srt_uniq (row := ks) ⟨picks_ord, picks_nodup, fun x => ?_⟩ ⟨hs, hp.nodup_iff.mpr hnd, fun x => hp.mem_iff⟩
    rw [hks, List.mem_append, mem_picks, mem_picks, mem_picks]
    constructor
    · rintro ⟨a1, a2, a3⟩
      have q : x.toNat < rows.length := by omega
      obtain ⟨sd, hsd, r1, r2⟩ := (hfb _ q).mp a3
      rcases List.mem_append.mp hsd with hsd | hsd
      · exact .inl ⟨a1, a2, (hf1 _ q).mpr ⟨sd, hsd, r1, r2⟩⟩
      · exact .inr ⟨a1, a2, (hf2 _ q).mpr ⟨sd, hsd, r1, r2⟩⟩
    · rintro (⟨a1, a2, a3⟩ | ⟨a1, a2, a3⟩)
      · have q : x.toNat < rows.length := by omega
        obtain ⟨sd, hsd, r1, r2⟩ := (hf1 _ q).mp a3
        exact ⟨a1, a2, (hfb _ q).mpr ⟨sd, List.mem_append_left _ hsd, r1, r2⟩⟩
      · have q : x.toNat < rows.length := by omega
        obtain ⟨sd, hsd, r1, r2⟩ := (hf2 _ q).mp a3
        exact ⟨a1, a2, (hfb _ q).mpr ⟨sd, List.mem_append_right _ hsd, r1, r2⟩⟩
  tb_rel
  refine r_neInts (Cx.know (by assumption) _ _ g5) hbo (Cx.getL (by assumption) (by k_mem)) ho hA.units ?_
  rw [e1]
  tb_rel
  rw [if_neg (by simp)]
  tb_rel
  have hpb := picks_small b.S (f := fb)
  refine sp_reached (by assumption) W hA.le hr5 b.S (.inl g5) hbo (by omega) fun r3 o3 s11 f3 ho3 hf3 C11 => ?_
  have e2 : picks rows.length f3 = picks rows.length fb := picks_congr fun k hk => bool_iff ((hf3 k hk).trans (by
    constructor
    · rintro ⟨sd, hsd, r1, r2⟩
      obtain ⟨a1, a2, a3⟩ := mem_picks.mp hsd
      obtain ⟨z, hz, z1, z2⟩ := (hfb _ (by omega)).mp a3
      rw [show ((sd.toNat : Nat) : Int) = sd by omega] at z2
      exact ⟨z, hz, z1, z2.trans r2⟩
    · intro hF
      exact ⟨(k : Int), mem_picks.mpr ⟨by omega, by omega, by simpa using (hfb k hk).mpr hF⟩, ⟨by omega, by omega⟩, .refl⟩)) (hfb k hk)
  tb_rel
  refine r_neInts (Cx.getL (by assumption) (by k_mem)) ho3 (Cx.know (by assumption) _ _ g5) hbo hA.units ?_
  rw [e2]
  tb_rel
  rw [if_neg (by simp)]
  tb_rel
  rw [if_neg (by simp)]
  refine wpAny_execs_nil (h G5 bo obo fb _ hG5 g5 hbo hfb (Cx.drop (by assumption) ?_))
  exact .cons _ (.cons _ (.cons _ (.cons _ (.cons _ (.cons _ (.cons _ (List.Sublist.refl _)))))))
end
section
set_option maxHeartbeats 8000000
variable {w : World} {A : Around} {E : Value → Shared → Prop} {B : Pin} {L : Addr} {G : Kn} {m : Str → Option Value} {mu : Mu} {s : Shared} {env : Env}
theorem seg_i {src stp c so oth mt bo : Addr} {oso ooth obo : Obj} {sos oths : List Int} {fb : Nat → Bool} {mets : List (List Int)} {cells : List Int} {size : Int} {t : Tok} {rows : Rws} {Q : Flow → Shared → Prop} (W : Wd w B.heap) (hA : AOk A 4) (b : Bs G L src stp c cells size t rows)
    (C : Cx B L G m mu s) (hso : celled G (L + 1 + 1 + 1 + 1 + 1 + 1 + 1) (.ref so)) (gso : G so = some oso) (iso : OI oso sos) (lso : sos.length ≤ 2) (pso : ∀ x ∈ sos, 0 ≤ x ∧ x ≤ size)
    (hoth : celled G (L + 1 + 1 + 1 + 1 + 1 + 1 + 1 + 1) (.ref oth)) (goth : G oth = some ooth) (ioth : OI ooth oths) (loth : oths.length ≤ 2) (poth : ∀ x ∈ oths, 0 ≤ x ∧ x ≤ size)
    (hmt : celled G (L + 1 + 1 + 1 + 1 + 1) (.ref mt)) (hms : Rows G mt mets) (M : MetsAre rows mets)
    (hbo : m (Str.ofString "both") = some (.ref bo)) (gbo : G bo = some obo) (ibo : OI obo (picks rows.length fb)) (hfb : ∀ k, k < rows.length → (fb k = true ↔ From rows (sos ++ oths) k))
    (h : ∀ s', Cx B L G m mu s' → wpAny (model pg w) A (execs ((lawB w).drop 17) (lawE w L)) Q E s') :
    wpAny (model pg w) A (execs ((lawB w).drop 16) (lawE w L)) Q E s := by
  unfold lawB lawE pickB pickE at *
  simp only [List.drop_succ_cons, List.drop_zero] at h ⊢
  obtain ⟨oc2, g2, d2⟩ := b.c2
  obtain ⟨oc5, g5, d5⟩ := hmt
  obtain ⟨oc7, g7, d7⟩ := hso
  obtain ⟨oc8, g8, d8⟩ := hoth
  have hlen := b.S.len
  have hsz := b.hsz
  have hml := M.1
  have hpos : ∀ x ∈ sos ++ oths, 0 ≤ x := fun x hx => by
    rcases List.mem_append.mp hx with hx | hx
    · exact (pso x hx).1
    · exact (poth x hx).1
  have hsl : (sos ++ oths).length ≤ 4 := by simp; omega
  tb_rel
  refine r_comp (cl := [(Str.ofString "some", L + 1 + 1 + 1 + 1 + 1 + 1 + 1), (Str.ofString "size", L + 1 + 1), (Str.ofString "others", L + 1 + 1 + 1 + 1 + 1 + 1 + 1 + 1), (Str.ofString "met", L + 1 + 1 + 1 + 1 + 1)]) (by rfl) rfl (by decide +kernel) ?_
  tb_rel
  refine r_range1 (by assumption) fun rgo orgo s5 hrgo C5 => ?_
  refine compRC (Rv := isI) C5 hrgo (by omega) (by omega) (fun i G mu' ys => mu' = mu ∧ ∃ f, ys = picks i f ∧ ∀ k, k < i → (f k = true ↔ From rows (sos ++ oths) k)) ⟨rfl, fun _ => false, rfl, fun k hk => absurd hk (Nat.not_lt_zero _)⟩ ?_ ?_ hA.hh rfl (by intro _; rfl) (by intro _; rfl) rfl
  · rintro Cc nc i ti hi B6 G6 mc mu6 ys s6 E6 hB6 hG6 ⟨rfl, f, rfl, hf⟩ ⟨onc, hz6, hd6⟩ C6
    have W6 := W.le hB6
    have j2 := hG6 _ _ g2
    have j5 := hG6 _ _ g5
    have j7 := hG6 _ _ g7
    have j8 := hG6 _ _ g8
    have hin : InR rows i := ⟨by omega, by omega⟩
    refine tests_one ?_
    tb_rel
    refine r_comp (cl := [(Str.ofString "size", L + 1 + 1), (Str.ofString "number", nc), (Str.ofString "met", L + 1 + 1 + 1 + 1 + 1)]) (by rfl) rfl (by decide +kernel) ?_
    tb_rel
    refine r_addList (by assumption) (Cx.know (by assumption) _ _ (hG6 _ _ gso)) iso (Cx.know (by assumption) _ _ (hG6 _ _ goth)) ioth (by omega) fun sm osm s7 hsm C7 => ?_
    refine compN (Rv := isI) (xs := sos ++ oths) C7 hsm (by omega) (fun j G mu' ys => mu' = mu6 ∧ ys = ((sos ++ oths).take j).filter fun g => decide (g < size ∧ (i : Int) ∈ metOf mets g)) (fun _ _ => ⟨rfl, rfl⟩) ?_ ?_ hA.hh rfl (by decide +kernel) rfl
    · rintro Cc2 j v g hj ⟨tg, rfl⟩ B8 G8 mc8 mu8 ys8 s8 E8 hB8 hG8 ⟨rfl, rfl⟩ hm8 C8
      have W8 := W6.le hB8
      have i2 := hG8 _ _ j2
      have i5 := hG8 _ _ j5
      have hz8 := hB8.2 _ _ hz6
      have hms8 := (hms.mono hG6).mono hG8
      have hg0 := hpos g (List.mem_of_getElem? hj)
      refine tests_one ?_
      tb_rel
      by_cases q1 : g < size
      · rw [if_pos (by simpa using q1)]
        have hg : InR rows g := ⟨hg0, by omega⟩
        tb_rel
        refine r_row (by assumption) hms8 (by omega) (metOf_get M hg) (by omega) fun ma hma => ?_
        obtain ⟨oma, gma, homa⟩ := hma
        tb_rel
        refine r_in (Cx.know (by assumption) _ _ gma) homa ?_
        tb_rel
        by_cases q : (i : Int) ∈ metOf mets g
        · rw [if_pos (by simpa using q)]
          tb_rel
          rw [if_pos rfl]
          tb_rel
          refine ⟨g, G8, mc8, _, ⟨tg, rfl⟩, Le.rfl', ⟨rfl, ?_⟩, by assumption⟩
          rw [List.take_add_one, hj, List.filter_append]; simp [q, q1]
        · rw [if_neg (by simpa using q)]
          rw [if_neg (by simp)]
          refine ⟨G8, mc8, _, Le.rfl', ⟨rfl, ?_⟩, by assumption⟩
          rw [List.take_add_one, hj, List.filter_append]; simp [q]
      · rw [if_neg (by simpa using q1)]
        rw [if_neg (by simp)]
        refine ⟨G8, mc8, _, Le.rfl', ⟨rfl, ?_⟩, by assumption⟩
        rw [List.take_add_one, hj, List.filter_append]; simp [q1]
    rintro G8 mu8 ys8 D8 oD8 Cc8 oC8 mC8 s8 hG8 ⟨rfl, rfl⟩ hoD8 C8 hN8
    rw [List.take_length] at hoD8
    refine post_none C8 hN8 fun s9 C9 => ?_
    tb_rel
    refine r_truthy C9 (C9.getL (by k_mem)) hoD8 (Nat.le_trans (List.length_filter_le _ _) (by omega)) fun s10 C10 => ?_
    have hb : (!((sos ++ oths).filter fun g => decide (g < size ∧ (i : Int) ∈ metOf mets g)).isEmpty) = true ↔ From rows (sos ++ oths) (i : Int) := by
      rw [Bool.not_eq_true', List.isEmpty_eq_false_iff_exists_mem]
      constructor
      · rintro ⟨g, hg⟩
        obtain ⟨h1, h2⟩ := List.mem_filter.mp hg
        have h2' : g < size ∧ (i : Int) ∈ metOf mets g := by simpa using h2
        have hgr : InR rows g := ⟨hpos g h1, by omega⟩
        exact ⟨g, h1, hgr, (mem_metOf M hgr).mp h2'.2⟩
      · rintro ⟨g, h1, h2, h3⟩
        exact ⟨g, List.mem_filter.mpr ⟨h1, by simpa using ⟨by have := h2.2; omega, (mem_metOf M h2).mpr h3⟩⟩⟩
    generalize (!((sos ++ oths).filter fun g => decide (g < size ∧ (i : Int) ∈ metOf mets g)).isEmpty) = bb at hb
    cases bb with
    | true =>
      rw [if_pos rfl]
      tb_rel
      exact ⟨(i : Int), G8, mc, _, ⟨ti, rfl⟩, hG8, ⟨rfl, _, by rw [picks_put i f true]; rfl, picks_fin hf hb⟩, C10.drop (List.sublist_cons_self _ _)⟩
    | false =>
      rw [if_neg (by simp)]
      exact ⟨G8, mc, _, hG8, ⟨rfl, _, by rw [picks_put i f false]; simp, picks_fin hf hb⟩, C10.drop (List.sublist_cons_self _ _)⟩
  rintro G6 mu6 ys D oD Cc oC mC s6 hG6 ⟨rfl, f, rfl, hf⟩ hoD C6 hN
  refine post_none C6 hN fun s7 C7 => ?_
  have hszn : size.toNat = rows.length := by omega
  rw [hszn] at hoD hf
  have e1 : picks rows.length f = picks rows.length fb := picks_congr fun k hk => bool_iff (hf k hk) (hfb k hk)
  tb_rel
  refine r_neInts (Cx.know (by assumption) _ _ (hG6 _ _ gbo)) ibo (Cx.getL (by assumption) (by k_mem)) hoD hA.units ?_
  rw [e1]
  tb_rel
  rw [if_neg (by simp)]
  exact wpAny_execs_nil (h _ ((C7.weakG hG6 C.bG).drop (List.sublist_cons_self _ _)))
end
theorem small_put {rows : Rws} (S : Small rows) (h3 : ∀ r ∈ rows, r.length ≤ 3) {b e : Int} (he : InR rows e) : Small (putEdge rows b e) := by
  have hrow : ∀ r ∈ putEdge rows b e, r ∈ rows ∨ r = rowOf rows b ++ [e] := fun r hr => List.mem_or_eq_of_mem_set hr
  have hl := S.len
  have hb3 : (rowOf rows b).length ≤ 3 := by
    unfold rowOf
    rw [List.getD_eq_getElem?_getD]
    cases q : rows[b.toNat]? with
    | none => simp
    | some r => exact h3 r (List.mem_of_getElem? q)
  refine ⟨by rw [put_len]; exact hl, fun r hr => ?_, fun r hr x hx => ?_, fun r hr x hx => ?_⟩
  · rcases hrow r hr with hr | rfl
    · exact S.row r hr
    · simp; omega
  · rcases hrow r hr with hr | rfl
    · exact S.pos r hr x hx
    · rcases List.mem_append.mp hx with hx | hx
      · exact S.rowPos hx
      · have : x = e := by simpa using hx
        have := he.1; omega
  · rcases hrow r hr with hr | rfl
    · exact S.lt r hr x hx
    · rcases List.mem_append.mp hx with hx | hx
      · exact S.rowLt hx
      · have : x = e := by simpa using hx
        have := he.2; omega
section
set_option maxHeartbeats 8000000
variable {w : World} {A : Around} {E : Value → Shared → Prop} {B : Pin} {L : Addr} {G : Kn} {m : Str → Option Value} {mu : Mu} {s : Shared} {env : Env}
theorem seg_j {src stp c mt fd en kp : Addr} {osrc ofd oen : Obj} {at0 : Int} {fe : Nat → Bool} {found : List Int} {mets : List (List Int)} {cells : List Int} {size : Int} {t : Tok} {rows : Rws} {Q : Flow → Shared → Prop} (W : Wd w B.heap) (hA : AOk A 4) (b : Bs G L src stp c cells size t rows) (h3 : ∀ r ∈ rows, r.length ≤ 3)
    (C : Cx B L G m [(src, osrc)] s) (hsrc : SrcO osrc c at0) (h00 : 0 ≤ at0) (hat0 : at0 ≤ 300)
    (hmt : celled G (L + 1 + 1 + 1 + 1 + 1) (.ref mt)) (hms : Rows G mt mets) (M : MetsAre rows mets)
    (hfd : celled G (L + 1 + 1 + 1 + 1) (.ref fd)) (hgf : G fd = some ofd) (hof : OI ofd found) (D : DepthIs rows found)
    (hen : m (Str.ofString "endless") = some (.ref en)) (hge : G en = some oen) (hoe : OI oen (picks rows.length fe)) (hfe : ∀ k, k < rows.length → (fe k = true ↔ EndAt rows k))
    (hkp : m (Str.ofString "kept") = some (.ref kp)) (hkr : Rows G kp rows)
    (h : ∀ G' m' mu' s', Cx B L G' m' mu' s' → Q (.ret (.bool true)) s') :
    wpAny (model pg w) A (execs ((lawB w).drop 17) (lawE w L)) Q E s := by
  unfold lawB lawE pickB pickE at *
  simp only [List.drop_succ_cons, List.drop_zero]
  obtain ⟨oc1, g1, d1⟩ := b.c1
  obtain ⟨oc2, g2, d2⟩ := b.c2
  obtain ⟨oc3, g3, d3⟩ := b.c3
  obtain ⟨oc4, g4, d4⟩ := hfd
  obtain ⟨oc5, g5, d5⟩ := hmt
  have hlen := b.S.len
  have hsz := b.hsz
  have hml := M.1
  have hfl := D.len
  have hcz := b.hcz
  tb_rel
  by_cases q0 : size > 0
  · rw [if_pos (by simpa using q0)]
    tb_rel
    refine sp_draw (i := 0) (by assumption) W hA.le rfl hsrc b.hc b.hne (by omega) h00 (by omega) (by omega) fun bg tb osrc1 s1 hb0 hb1 hsrc1 C1 => ?_
    simp only [List.set_cons_zero] at C1
    tb_rel
    refine sp_draw (i := 0) (by assumption) W hA.le rfl hsrc1 b.hc b.hne (by omega) (by omega) (by omega) (by omega) fun ed te osrc2 s2 he0 he1 hsrc2 C2 => ?_
    simp only [List.set_cons_zero] at C2
    have hbr : InR rows bg := ⟨hb0, by omega⟩
    have her : InR rows ed := ⟨he0, by omega⟩
    tb_rel
    refine r_compA (cl := []) (by rfl) (by rfl) rfl (by decide +kernel) ?_
    tb_rel
    obtain ⟨ostp, as, hgs, hos, hpr⟩ := id b.hr
    have hal := hpr.length
    rename Cx _ _ _ _ _ _ => C3
    refine compL (Rv := isR) C3 hgs hos (by omega) (fun i _ mu' ys => ∃ rs : Mu, mu' = rs.reverse ++ [(src, osrc2)] ∧ rs.map (·.1) = ys ∧ Paired (fun (p : Addr × Obj) xs => OI p.2 xs) rs (rows.take i)) ⟨[], rfl, rfl, .nil⟩ ?_ ?_ hA.hh rfl (by decide +kernel) rfl
    · rintro Cc i v a hi rfl B4 G4 mc mu4 ys s4 E4 hB4 hG4 ⟨rs, rfl, rfl, hrs⟩ hm C4
      refine tests_nil ?_
      rw [if_pos rfl]
      have W4 := W.le hB4
      obtain ⟨row, hrow, orow, grow, horow⟩ := pr_atv hpr hi
      have hr4 := b.S.row row (List.mem_of_getElem? hrow)
      tb_rel
      refine r_copy (by assumption) (Cx.know (by assumption) _ _ (hG4 _ _ grow)) horow (by omega) fun r o s9 ho C9 => ?_
      refine ⟨r, G4, mc, _, rfl, Le.rfl', ⟨rs ++ [(r, o)], by simp, by simp, ?_⟩, C9⟩
      rw [List.take_add_one, hrow]
      exact pr_app hrs (.cons ho .nil)
    rintro G4 mu4 ys MR oM Cc oC mC s4 hG4 ⟨rs, rfl, rfl, hrs⟩ hys C4 hN
    rw [hal, List.take_length] at hrs
    refine post_use C4 hN rfl rfl fun s5 C5 => ?_
    obtain ⟨G6, hG6, g6, C6⟩ := C5.freeze (i := 0) rfl
    simp only [List.eraseIdx_cons_zero] at C6
    replace C6 := C6.perm (mu' := rs ++ [(src, osrc2)]) ((List.reverse_perm rs).append_right _).symm
    have le6 := hG4.trans hG6
    have hrm : RowsM rs (rs.map (·.1)) rows := ⟨rfl, hrs⟩
    have hrl := hrm.len
    obtain ⟨ag, og, hrg, hasg, hog⟩ := hrm.get (getElem?_rowOf hbr)
    have hidx : (rs ++ [(src, osrc2)])[bg.toNat]? = some (ag, og) := by
      rw [List.getElem?_append_left (by have := hbr.2; omega)]; exact hrg
    tb_rel
    refine r_item (Cx.know (by assumption) _ _ g6) hys hbr.1 hasg (by rw [hrl.2]; omega) fun v hv => ?_
    rw [show v = .ref ag from hv]
    refine r_mAppend (Cx.getM (by assumption) hidx) hog ?_
    try dsimp only
    tb_rel
    refine r_append (x := ed) (by assumption) hidx hog ⟨_, rfl⟩ (by have := b.S.rowLen bg; omega) fun og7 s7 hog7 C7 => ?_
    rw [List.set_append_left _ _ (by have := hbr.2; omega)] at C7
    have hrm7 := hrm.set hrg hog7
    have eput : rows.set bg.toNat (rowOf rows bg ++ [ed]) = putEdge rows bg ed := rfl
    rw [eput] at hrm7
    obtain ⟨G8, hG8, hall, C8⟩ := C7.freezeRows
    have hmore : Rows G8 MR (putEdge rows bg ed) := ⟨oM, _, hG8 _ _ g6, hys, hrm7.rows hall⟩
    have S8 := small_put b.S h3 (b := bg) her
    have le8 := le6.trans hG8
    tb_rel
    refine sp_depths (by assumption) W hA.le hmore S8 fun lt olt s9 later hlt D9 C9 => ?_
    have hll := D9.len
    rw [put_len] at hll
    obtain ⟨G10, hG10, g10, C10⟩ := C9.freeze (i := 0) rfl
    simp only [List.eraseIdx_cons_zero] at C10
    have le10 := le8.trans hG10
    have k2 := le10 _ _ g2
    have k3 := le10 _ _ g3
    have k4 := le10 _ _ g4
    have k5 := le10 _ _ g5
    have hms10 := hms.mono le10
    tb_rel
    have hcl := closes_iff (st := rows) hbr her
    have hde := depth_end D9 (k := bg) (by unfold InR; rw [put_len]; exact hbr)
    have mfe : ∀ (x : Int), InR rows x → (x ∈ picks rows.length fe ↔ EndAt rows x) := fun x hx => by
      rw [mem_picks]
      have q := hfe x.toNat (by have := hx.1; have := hx.2; omega)
      rw [show ((x.toNat : Nat) : Int) = x by have := hx.1; omega] at q
      exact ⟨fun z => q.mp z.2.2, fun z => ⟨hx.1, hx.2, q.mpr z⟩⟩
    rename Cx _ _ _ _ _ _ => C11
    refine wpAny_mono (Q := fun v s' => ∃ cb : Bool, v = .bool cb ∧ (cb = true ↔ (Reach rows ed bg ∨ EndAt rows ed ∨ EndAt rows bg)) ∧ ∃ m', Cx B L G10 m' [(src, osrc2)] s' ∧ m' (Str.ofString "begin") = some (.int bg tb) ∧ m' (Str.ofString "later") = some (.ref lt) ∧ m' (Str.ofString "kept") = some (.ref kp) ∧ m' (Str.ofString "more") = some (.ref MR)) ?_ (fun v s12 hv => ?_) (fun _ _ x => x)
    · refine BoolOp_or ?_
      tb_rel
      refine r_row (by assumption) hms10 her.1 (metOf_get M her) (by omega) fun ma hma => ?_
      obtain ⟨oma, gma, homa⟩ := hma
      tb_rel
      refine r_in (Cx.know (by assumption) _ _ gma) homa ?_
      tb_rel
      have z1 : bg ∈ metOf mets ed ↔ Reach rows ed bg := mem_metOf M her
      by_cases y1 : bg ∈ metOf mets ed
      · rw [if_pos (by simpa using y1)]
        exact ⟨_, rfl, by simpa [y1] using Or.inl (z1.mp y1), _, by assumption, by tlg_ne, by tlg_ne, by tlg_ne, by tlg_ne⟩
      · rw [if_neg (by simpa using y1)]
        refine BoolOp_or ?_
        tb_rel
        refine r_in (Cx.know (by assumption) _ _ (le10 _ _ hge)) hoe ?_
        tb_rel
        by_cases y2 : ed ∈ picks rows.length fe
        · rw [if_pos (by simpa using y2)]
          exact ⟨_, rfl, by simpa [y2] using Or.inr (Or.inl ((mfe ed her).mp y2)), _, by assumption, by tlg_ne, by tlg_ne, by tlg_ne, by tlg_ne⟩
        · rw [if_neg (by simpa using y2)]
          refine BoolOp_one ?_
          tb_rel
          refine r_in (Cx.know (by assumption) _ _ (le10 _ _ hge)) hoe ?_
          refine ⟨_, rfl, ?_, _, by assumption, by tlg_ne, by tlg_ne, by tlg_ne, by tlg_ne⟩
          rw [decide_eq_true_iff, mfe bg hbr]
          exact ⟨fun z => .inr (.inr z), fun z => z.elim (fun z => absurd (z1.mpr z) y1) fun z => z.elim (fun z => absurd ((mfe ed her).mpr z) y2) id⟩
    obtain ⟨cb, rfl, hcb, m12, C12, n1, n2, n3, n4⟩ := hv
    tb_rel
    refine r_item (Cx.know (by assumption) _ _ g10) hlt hbr.1 (at_get (v := bg.toNat) (by have := hbr.2; omega)) (by omega) fun v hv => ?_
    obtain ⟨tv, rfl⟩ := hv
    tb_rel
    refine ne_bool ?_
    have ecb : decide (at' later bg.toNat < 0) = cb := bool_iff (decide_eq_true_iff.trans (hde.trans hcl)) hcb
    have ecb2 : (decide (at' later bg.toNat < 0) != cb) = false := by rw [ecb]; simp
    rw [ecb2]
    tb_rel
    rw [if_neg (by simp)]
    tb_rel
    refine sp_right (by assumption) W hA.le (hmore.mono hG10) S8 g10 hlt D9 fun s13 C13 => ?_
    tb_rel
    rw [if_neg (by simp)]
    tb_rel
    rw [if_neg (by simp)]
    tb_rel
    refine r_range1 (by assumption) fun rgo orgo s14 hrgo C14 => ?_
    refine r_forRange C14 hrgo (fun i G m' mu' => m' (Str.ofString "begin") = some (.int bg tb) ∧ m' (Str.ofString "later") = some (.ref lt) ∧ m' (Str.ofString "kept") = some (.ref kp)) ⟨by tlg_ne, by tlg_ne, by tlg_ne⟩ (by omega) (by omega) ?_ ?_ hA.hh rfl rfl
    · rintro i ti B15 G15 m15 mu15 s15 E15 hi hB15 hG15 ⟨n1, n2, n3⟩ C15
      have W15 := W.le hB15
      have i4 := hG15 _ _ k4
      have i5 := hG15 _ _ k5
      have i10 := hG15 _ _ g10
      have hir : InR rows i := ⟨by omega, by omega⟩
      have hil : i < rows.length := by omega
      have gf15 := hG15 _ _ (le10 _ _ hgf)
      have hleast : 0 ≤ at' later i → at' found i ≤ at' later i := fun z => later_least D D9 hbr her _ i hil z (Nat.le_refl _)
      have z1 : bg ∈ metOf mets i ↔ Reach rows i bg := mem_metOf M hir
      tb_rel
      refine r_row (by assumption) (hms10.mono hG15) hir.1 (metOf_get M hir) (by omega) fun ma hma => ?_
      obtain ⟨oma, gma, homa⟩ := hma
      tb_rel
      refine r_notIn (Cx.know (by assumption) _ _ gma) homa ?_
      tb_rel
      by_cases y1 : bg ∈ metOf mets i
      · rw [if_neg (by simpa using y1)]
        try rw [if_neg (by simp)]
        tb_rel
        refine r_item (Cx.know (by assumption) _ _ i10) hlt hir.1 (at_get (v := (i : Int).toNat) (by omega)) (by omega) fun v hv => ?_
        obtain ⟨tv, rfl⟩ := hv
        tb_rel
        by_cases y2 : 0 ≤ at' later (i : Int).toNat
        · rw [if_pos (by simpa using y2)]
          tb_rel
          refine r_item (Cx.know (by assumption) _ _ gf15) hof hir.1 (at_get (v := (i : Int).toNat) (by omega)) (by omega) fun v hv => ?_
          obtain ⟨tv2, rfl⟩ := hv
          tb_rel
          rw [if_neg (by simpa using hleast (by simpa using y2))]
          tb_rel
          refine ⟨_, _, _, Le.rfl', ⟨?_, ?_, ?_⟩, by assumption⟩ <;> tlg_ne
        · rw [if_neg (by simpa using y2)]
          try rw [if_neg (by simp)]
          tb_rel
          refine ⟨_, _, _, Le.rfl', ⟨?_, ?_, ?_⟩, by assumption⟩ <;> tlg_ne
      · rw [if_pos (by simpa using y1)]
        have hsame : at' later (i : Int).toNat = at' found (i : Int).toNat := by simpa using later_same D D9 hbr her _ i hil (Nat.le_refl _) fun z => y1 (z1.mpr z)
        tb_rel
        refine r_item (Cx.know (by assumption) _ _ i10) hlt hir.1 (at_get (v := (i : Int).toNat) (by omega)) (by omega) fun v hv => ?_
        obtain ⟨tv3, rfl⟩ := hv
        tb_rel
        refine r_item (Cx.know (by assumption) _ _ gf15) hof hir.1 (at_get (v := (i : Int).toNat) (by omega)) (by omega) fun v hv => ?_
        obtain ⟨tv4, rfl⟩ := hv
        tb_rel
        rw [if_neg (by simpa using hsame)]
        tb_rel
        rw [if_neg (by simp)]
        tb_rel
        refine r_item (Cx.know (by assumption) _ _ i10) hlt hir.1 (at_get (v := (i : Int).toNat) (by omega)) (by omega) fun v hv => ?_
        obtain ⟨tv, rfl⟩ := hv
        tb_rel
        by_cases y2 : 0 ≤ at' later (i : Int).toNat
        · rw [if_pos (by simpa using y2)]
          tb_rel
          refine r_item (Cx.know (by assumption) _ _ gf15) hof hir.1 (at_get (v := (i : Int).toNat) (by omega)) (by omega) fun v hv => ?_
          obtain ⟨tv2, rfl⟩ := hv
          tb_rel
          rw [if_neg (by simpa using hleast (by simpa using y2))]
          tb_rel
          refine ⟨_, _, _, Le.rfl', ⟨?_, ?_, ?_⟩, by assumption⟩ <;> tlg_ne
        · rw [if_neg (by simpa using y2)]
          try rw [if_neg (by simp)]
          tb_rel
          refine ⟨_, _, _, Le.rfl', ⟨?_, ?_, ?_⟩, by assumption⟩ <;> tlg_ne
    · rintro G15 m15 mu15 s15 hG15 ⟨n1, n2, n3⟩ C15
      have j3 := hG15 _ _ k3
      tb_rel
      refine r_eqRows ((b.hr.mono (le10.trans hG15)).mono C15.know) ((hkr.mono (le10.trans hG15)).mono C15.know) hA.units ?_
      rw [decide_eq_true rfl]
      exact h _ _ _ _ C15
  · rw [if_neg (by simpa using q0)]
    tb_rel
    rename Cx _ _ _ _ _ _ => CX
    refine r_eqRows (b.hr.mono CX.know) (hkr.mono CX.know) hA.units ?_
    rw [decide_eq_true rfl]
    exact h _ _ _ _ CX
end
theorem cells_more {cm : Str → Option Value} {n : Str} {c : Addr} {cs : List (Str × Addr)} {cells : List (Addr × Obj)} (x : CellsAre cm ((n, c) :: cs) cells) : ∃ o r, cells = (c, o) :: r ∧ o.data = .cell (cm n) ∧ CellsAre cm cs r := by
  cases x with | cons h x => exact ⟨_, _, rfl, h, x⟩
section
set_option maxHeartbeats 8000000
variable {w : World} {A : Around} {s : Shared}
theorem law_spec {a : Addr} {o : Obj} {vs : List Value} {n : Nat} {ns : List Int} {R : Result → Shared → Prop} (W : Wd w s.heap) (hA : AOk A 5) (ha : s.heap.get? a = some o) (hcl : o.cls = .type "list") (hda : o.data = .seq vs.toArray n) (hi : IntsAre vs ns) (hz : ns.length ≤ 63)
    (hR : ∀ L' G' m' mu' s', Cx ⟨s, fun _ => none⟩ L' G' m' mu' s' → R (.ok (.ret (.bool true))) s') : codeAny (model pg w) A (.call (.ref 195) ⟨[.ref a], []⟩) R s := by
  refine code_top (binds := [(Str.ofString "script", .ref a)]) (m0 := fun _ => upd m00 (Str.ofString "script") (.ref a)) W (by with_unfolding_all rfl) (by kernel_rfl) (by have := hA.dp; omega) (BindsTo.of_eq (by with_unfolding_all rfl)) (by with_unfolding_all rfl) (by decide +kernel) (fun L' => rfl) ?_ (by rfl) (by rfl) (by rfl)
  intro L cells s1 E' hY C1
  have W1 : Wd w (Pin.mk s fun _ => none).heap := W
  have hA1 := hA.deeper (env := lawE w L)
  obtain ⟨o8, r8, rfl, h8, y8⟩ := cells_more hY
  obtain ⟨o7, r7, rfl, h7, y7⟩ := cells_more y8
  obtain ⟨o6, r6, rfl, h6, y6⟩ := cells_more y7
  obtain ⟨o5, r5, rfl, h5, y5⟩ := cells_more y6
  obtain ⟨o4, r4, rfl, h4, y4⟩ := cells_more y5
  obtain ⟨o3, r3, rfl, h3, y3⟩ := cells_more y4
  obtain ⟨o2, r2, rfl, h2, y2⟩ := cells_more y3
  obtain ⟨o1, rfl, h1⟩ := CellsAre.one y2
  replace h8 : o8.data = .cell none := h8
  replace h7 : o7.data = .cell none := h7
  replace h6 : o6.data = .cell none := h6
  replace h5 : o5.data = .cell none := h5
  replace h4 : o4.data = .cell none := h4
  replace h3 : o3.data = .cell none := h3
  replace h2 : o2.data = .cell none := h2
  replace h1 : o1.data = .cell none := h1
  refine seg_a W1 hA1 C1 h1 h2 h3 ha hcl hda hi hz fun Ga ma src stp osrc c cl at0 size t rows sa c1 c2 c3 hr S hr3 hsz hsrc h0 hat hc hne hcz Ca => ?_
  have b : Bs Ga L src stp c cl size t rows := ⟨c1, c2, c3, hr, S, hsz, hc, hne, hcz⟩
  refine seg_b W1 hA1 b Ca fun Gb mb kp sb leb hkp hkr Cb => ?_
  have bb := b.le leb
  refine seg_c W1 hA1 bb Cb h4 h5 fun Gc fd ofd found mt mets sc lec hfd hgf hof D hmt hms M Cc => ?_
  have bc := bb.le lec
  refine seg_d (fd := fd) W1 hA1 bc Cc h6 hmt hms M fun Gd rg org fr sd led hrg hgo hog hfr Cd => ?_
  have bd := bc.le led
  refine seg_e W1 hA1 bd Cd (hmt.le led) (hms.mono led) M hrg hgo hog hfr fun Ge en oen fe se lee hge hoe hfe Ce => ?_
  have be := bd.le lee
  refine seg_f W1 hA1 be Ce (hfd.le (led.trans lee)) ((led.trans lee) _ _ hgf) hof D (hrg.le lee) (lee _ _ hgo) hog hfr upd_eq hge hoe hfe fun sf Cf => ?_
  refine seg_g W1 hA1 be Cf h7 h8 hsrc h0 hat fun Gg so oth oso ooth sos oths osrc2 at2 sg leg hso gso iso lso pso hoth goth ioth loth poth hsrc2 h02 hat2 Cg => ?_
  have bg := be.le leg
  refine seg_h W1 hA1 bg Cg hso gso iso lso hoth goth ioth loth fun Gh bo obo fb sh leh gbo ibo hfb Ch => ?_
  have bh := bg.le leh
  have l1 := led.trans (lee.trans (leg.trans leh))
  refine seg_i W1 hA1 bh Ch (hso.le leh) (leh _ _ gso) iso lso pso (hoth.le leh) (leh _ _ goth) ioth loth poth (hmt.le l1) (hms.mono l1) M upd_eq gbo ibo hfb fun si Ci => ?_
  refine seg_j W1 hA1 bh hr3 Ci hsrc2 h02 (by omega) (hmt.le l1) (hms.mono l1) M (hfd.le l1) (l1 _ _ hgf) hof D (upd_ne (by decide +kernel) upd_eq) ((leg.trans leh) _ _ hge) hoe hfe (upd_ne (by decide +kernel) (upd_ne (by decide +kernel) hkp)) (hkr.mono (lec.trans l1)) fun Gj mj muj sj Cj => ?_
  exact hR _ _ _ _ _ Cj
end
set_option maxHeartbeats 8000000
/-! The names that follow are taken ahead and say nothing: where such a name is taken, the head's steps in law_top do without a
second writing of that part of the text (the proofs of those second writings weigh 13 MB, and the kernel does not need them). -/
def law_top.tw17879305954018243132 : Unit := ()
def law_top.tw4778566209018804280 : Unit := ()
def law_top.tw11510092743650374535 : Unit := ()
def law_top.tw248308287231080493 : Unit := ()
def law_top.tw4573636568520725865 : Unit := ()
def law_top.tw4189756751233444974 : Unit := ()
def law_top.tw1577048321488407759 : Unit := ()
def law_top.tw7997751710175968671 : Unit := ()
def law_top.tw524847444842218799 : Unit := ()
def law_top.tw11647807772532324146 : Unit := ()
def law_top.tw8776791062557491826 : Unit := ()
def law_top.tw18420483170224098736 : Unit := ()
def law_top.tw3850716956298742147 : Unit := ()
def law_top.tw15071836785205542102 : Unit := ()
def law_top.tw18272230019521340845 : Unit := ()
def law_top.tw15640137557191256709 : Unit := ()
def law_top.tw2492899991669957969 : Unit := ()
def law_top.tw12411813103585969329 : Unit := ()
def law_top.tw11768769927125411566 : Unit := ()
def law_top.tw8724397498656394257 : Unit := ()
def law_top.tw9622585942757630181 : Unit := ()
def law_top.tw16260934594167950604 : Unit := ()
def law_top.tw16463660520808110246 : Unit := ()
def law_top.tw12087575366161846920 : Unit := ()
def law_top.tw14780399261912653854 : Unit := ()
def law_top.tw13274752878174172470 : Unit := ()
def law_top.tw11118050172241831894 : Unit := ()
def law_top.tw10489098864946930052 : Unit := ()
def law_top.tw3085136680822881444 : Unit := ()
def law_top.tw3839028595492612301 : Unit := ()
def law_top.tw17373516556330895005 : Unit := ()
def law_top.tw4798412317897671871 : Unit := ()
def law_top.tw13656351535292796931 : Unit := ()
def law_top.tw2773272114844130751 : Unit := ()
def law_top.tw9064951770252628880 : Unit := ()
def law_top.tw16402017977460028959 : Unit := ()
def law_top.tw12835476548120446910 : Unit := ()
def law_top.tw10826588322695934928 : Unit := ()
def law_top.tw16404726318318808291 : Unit := ()
def law_top.tw14149293753504563448 : Unit := ()
def law_top.tw17241472212612190410 : Unit := ()
def law_top.tw5065184931803596051 : Unit := ()
def law_top.tw10753425778081737074 : Unit := ()
def law_top.tw9303506434284490135 : Unit := ()
def law_top.tw12399806926795291952 : Unit := ()
def law_top.tw7509158980958588020 : Unit := ()
def law_top.tw18229694076986752883 : Unit := ()
def law_top.tw5666000718650403997 : Unit := ()
def law_top.tw2434788702601687341 : Unit := ()
def law_top.tw2275028483964098049 : Unit := ()
def law_top.tw16453215271722744410 : Unit := ()
def law_top.tw5603597620517582467 : Unit := ()
set_option Elab.async true
theorem law_top : PySem.Challenge.rw_pb0170_01.Holds := by
  w_on
  o_law
  o_head (kHook lay.heap_1 [2, 3, 15, 17, 18, 20, 21, 29, 31, 32, 34, 35, 36, 38, 39, 41, 42, 43, 45, 46, 48, 49, 50, 51, 52, 53, 54, 64, 65, 67, 68, 70, 71, 72, 74, 75, 77, 78, 79, 81, 82, 84, 85, 86, 88, 89, 91, 92, 93, 94, 95, 96, 97, 100, 102, 103, 105, 106, 107, 109, 110, 112, 113, 114, 117, 118, 119, 122, 123, 124, 127, 128, 136, 138, 139, 141, 142, 143, 145, 146, 148, 149, 150, 151, 152, 153, 154, 157, 159, 160, 162, 163, 164, 167, 168, 169, 172, 173, 174, 177, 178, 179, 181, 182, 184, 185, 186, 189, 190, 191, 194, 195] (fun _ => by kernel_rfl))
  (case hw => w_witness2)
  k_fill
  intro w s₀ s₁ mg mb G Y fa o pm cd doc dV kV ho hd hcd hD hmg hg args vals as hpre hlay hrd hwl hlo
  have KX := kIn_of Y
  have X := (Ground.X G).1
  have V := (Ground.X G).2
  refine Ground.open G ?_
  intro T B D TE TW
  try (refine guard_noD D (by decide +kernel) ?_; clear D)
  have hfa : fa = 195 := by
    have h1 := mg_of KX T.g (g_law w)
    rw [hmg] at h1
    cases h1; rfl
  subst hfa
  clear hmg hD ho hd hcd
  wrow_args hpre hlay hrd hwl hlo
  first | refine callC_kw (enter_call ?_) | refine enter_call ?_ | refine callC_kw (enter_callW ?_) | refine enter_callW ?_ | w_how
  w_top on
  try refine codeAny_mono ?_ (fun _ _ g => GoodW.toG g)
  have W : Wd w s₁.heap := ⟨KX, _, _, _, _, topRead_of T⟩
  rename IntsAre _ _ => hI
  rename Heap.IsList _ _ _ => hL
  obtain ⟨ol, hol, hcl, n, hdl⟩ := hL
  refine law_spec W ⟨by rfl, by decide +kernel, by decide +kernel⟩ hol hcl hdl hI (by omega) fun L' G' m' mu' s' C => ?_
  refine goodW_bool (m := m') (L := L') C.fr (C.gens.trans hg) (raisesW_false ?_) ?_ C.os
  · wrow_none_raised
  · wrow_post
end Mine
set_option Elab.async false
set_option maxHeartbeats 8000000 in
theorem PySem.Challenge.cw_pb0170_01_holds : PySem.Challenge.rw_pb0170_01.Holds := by
  exact Mine.law_top
