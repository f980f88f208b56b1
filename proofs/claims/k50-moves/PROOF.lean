import PyProof.Rows.All
import Wide.All
import OpenK.AllK
import Wide.FinOn
import HandS.ForMost
import HandS.TupAny
import HandS.Conv
import HandS.Strs
import HandS.Flow
import HandS.IsInst
import HandS.Zip
import HandS.TupSets
import HandS.SortInts
import HandS.Wide
import HandS.WideBits
import HandS.Defaults
import HandS.SetFor
import HandS.Deep
import KE.KDictZip
import KE.KItemsList
import HandS.Small
import HandS.RaiseMore
import PyProof.SumWalkG
import PyProof.ReprLen
import PyProof.Rows.StrJoinMade
import PySem.Challenge.RW_cellbills_k50_whole_moves_at_once
set_option Elab.async false
/-! The mathematics of the shuffle: the rule's row, its length, what it does. No program here. -/
namespace Mv
set_option autoImplicit false
abbrev Pr := Int × Int
def keys (l : List Pr) : List Int := l.map (·.1)
def reads (l : List Pr) : List Int := l.map (·.2)
def nt (l : List Pr) : List Pr := l.filter fun p => !decide (p.1 = p.2)
def free (l : List Pr) : List Pr := l.filter fun p => !decide (p.1 ∈ reads l)
/-- whoever reads a reads b -/
def redir (a b : Int) (l : List Pr) : List Pr := l.map fun p => (p.1, if p.2 = a then b else p.2)
def without (t : Int) (l : List Pr) : List Pr := l.filter fun p => !decide (p.1 = t)
def step (sp : Int) (l : List Pr) : Pr × List Pr :=
  match free l with
  | p :: _ => (p, redir p.2 p.1 (without p.1 l))
  | [] => match l with
    | [] => ((0, 0), [])
    | p :: _ => ((sp, p.1), redir p.1 sp l)
def ruleGo : Nat → Int → List Pr → List Pr
  | 0, _, _ => []
  | n + 1, sp, l => match l with
    | [] => []
    | p :: r => (step sp (p :: r)).1 :: ruleGo n sp (step sp (p :: r)).2
def mu (l : List Pr) : Nat := 2 * l.length + (if free l = [] then 1 else 0)
def rule (sp : Int) (l : List Pr) : List Pr := ruleGo (2 * (nt l).length + 1) sp (nt l)

structure Good (sp : Int) (l : List Pr) : Prop where
  nd : (keys l).Nodup
  ns : ∀ p ∈ l, p.1 ≠ p.2
  sp : sp ∉ keys l

theorem mem_keys {l : List Pr} {k v : Int} (h : (k, v) ∈ l) : k ∈ keys l := List.mem_map.mpr ⟨_, h, rfl⟩
theorem mem_reads {l : List Pr} {k v : Int} (h : (k, v) ∈ l) : v ∈ reads l := List.mem_map.mpr ⟨_, h, rfl⟩
theorem of_keys {l : List Pr} {k : Int} (h : k ∈ keys l) : ∃ v, (k, v) ∈ l := by
  obtain ⟨⟨a, b⟩, h1, rfl⟩ := List.mem_map.mp h
  exact ⟨b, h1⟩
theorem of_reads {l : List Pr} {v : Int} (h : v ∈ reads l) : ∃ k, (k, v) ∈ l := by
  obtain ⟨⟨a, b⟩, h1, rfl⟩ := List.mem_map.mp h
  exact ⟨a, h1⟩
theorem fn_of {l : List Pr} : (keys l).Nodup → ∀ {k v w : Int}, (k, v) ∈ l → (k, w) ∈ l → v = w := by
  induction l with
  | nil => intro _ k v w h; cases h
  | cons p r ih =>
    intro nd k v w h1 h2
    have nd' : (p.1 :: keys r).Nodup := nd
    obtain ⟨a, b⟩ := List.nodup_cons.mp nd'
    rcases List.mem_cons.mp h1 with e1 | e1
    · rcases List.mem_cons.mp h2 with e2 | e2
      · rw [← e1] at e2; injection e2 with _ e; exact e.symm
      · exact absurd (by rw [← e1]; exact mem_keys e2) a
    · rcases List.mem_cons.mp h2 with e2 | e2
      · exact absurd (by rw [← e2]; exact mem_keys e1) a
      · exact ih b e1 e2

theorem mem_redir {l : List Pr} {a b x y : Int} : (x, y) ∈ redir a b l ↔ ∃ z, (x, z) ∈ l ∧ y = if z = a then b else z := by
  constructor
  · intro h
    obtain ⟨⟨u, v⟩, h1, h2⟩ := List.mem_map.mp h
    injection h2 with e1 e2
    exact ⟨v, e1 ▸ h1, e2.symm⟩
  · rintro ⟨z, h1, h2⟩
    exact List.mem_map.mpr ⟨(x, z), h1, by rw [h2]⟩
theorem mem_without {l : List Pr} {t x y : Int} : (x, y) ∈ without t l ↔ (x, y) ∈ l ∧ x ≠ t := by
  unfold without
  rw [List.mem_filter]
  simp
theorem keys_redir (a b : Int) (l : List Pr) : keys (redir a b l) = keys l := by
  unfold keys redir
  rw [List.map_map]
  rfl
theorem keys_without (t : Int) (l : List Pr) : keys (without t l) = (keys l).filter fun k => !decide (k = t) := by
  unfold keys without
  rw [List.filter_map]
  rfl
theorem mem_free {l : List Pr} {p : Pr} : p ∈ free l ↔ p ∈ l ∧ p.1 ∉ reads l := by
  unfold free
  rw [List.mem_filter]
  simp

/-! ### lists without repetition -/
theorem sub_len : ∀ {a b : List Int}, a.Nodup → (∀ x ∈ a, x ∈ b) → a.length ≤ b.length
  | [], _, _, _ => Nat.zero_le _
  | x :: r, b, nd, h => by
    obtain ⟨h1, h2⟩ := List.nodup_cons.mp nd
    have hx := h x (List.mem_cons_self)
    have := sub_len (a := r) (b := b.erase x) h2 fun y hy => by
      have ne : y ≠ x := fun e => h1 (by rw [← e]; exact hy)
      exact (List.mem_erase_of_ne ne).mpr (h y (List.mem_cons_of_mem _ hy))
    rw [List.length_erase_of_mem hx] at this
    have := List.length_pos_of_mem hx
    simp only [List.length_cons]
    omega
/-- as many, within: the same members, none twice -/
theorem sub_eq : ∀ {a b : List Int}, a.Nodup → (∀ x ∈ a, x ∈ b) → b.length ≤ a.length → (∀ x ∈ b, x ∈ a) ∧ b.Nodup
  | [], b, _, _, hl => by
    have : b = [] := List.length_eq_zero_iff.mp (Nat.le_zero.mp hl)
    subst this
    exact ⟨fun _ h => h, List.nodup_nil⟩
  | x :: r, b, nd, h, hl => by
    obtain ⟨h1, h2⟩ := List.nodup_cons.mp nd
    have hx := h x (List.mem_cons_self)
    have hp := List.perm_cons_erase hx
    have hle : (b.erase x).length ≤ r.length := by
      rw [List.length_erase_of_mem hx]
      simp only [List.length_cons] at hl
      omega
    obtain ⟨q1, q2⟩ := sub_eq (a := r) (b := b.erase x) h2 (fun y hy => (List.mem_erase_of_ne (fun e => h1 (by rw [← e]; exact hy) : y ≠ x)).mpr (h y (List.mem_cons_of_mem _ hy))) hle
    refine ⟨fun y hy => ?_, ?_⟩
    · rcases List.mem_cons.mp (hp.mem_iff.mp hy) with e | e
      · rw [e]; exact List.mem_cons_self
      · exact List.mem_cons_of_mem _ (q1 y e)
    · refine hp.nodup_iff.mpr (List.nodup_cons.mpr ⟨fun hm => h1 (q1 x hm), q2⟩)
theorem inj_of_nodup {l : List Pr} : (reads l).Nodup → ∀ {x y v : Int}, (x, v) ∈ l → (y, v) ∈ l → x = y := by
  induction l with
  | nil => intro _ x y v h; cases h
  | cons p r ih =>
    intro nd x y v h1 h2
    have nd' : (p.2 :: reads r).Nodup := nd
    obtain ⟨a, b⟩ := List.nodup_cons.mp nd'
    rcases List.mem_cons.mp h1 with e1 | e1
    · rcases List.mem_cons.mp h2 with e2 | e2
      · rw [← e1] at e2; injection e2 with e _; exact e.symm
      · exact absurd (by rw [← e1]; exact mem_reads e2) a
    · rcases List.mem_cons.mp h2 with e2 | e2
      · exact absurd (by rw [← e2]; exact mem_reads e1) a
      · exact ih b e1 e2

/-! ### where one comes to by reading on -/
inductive Reach (l : List Pr) : Int → Int → Prop where
  | refl (a : Int) : Reach l a a
  | step {a b c : Int} : Reach l a b → (b, c) ∈ l → Reach l a c
theorem Reach.trans {l : List Pr} {a b c : Int} (h1 : Reach l a b) (h2 : Reach l b c) : Reach l a c := by
  induction h2 with
  | refl => exact h1
  | step _ e ih => exact .step ih e
theorem Reach.one {l : List Pr} {a b : Int} (h : (a, b) ∈ l) : Reach l a b := .step (.refl a) h
theorem Reach.head {l : List Pr} {a b : Int} (h : Reach l a b) : a = b ∨ ∃ z, (a, z) ∈ l ∧ Reach l z b := by
  induction h with
  | refl => exact .inl rfl
  | step _ e ih =>
    rcases ih with ih | ⟨z, h1, h2⟩
    · subst ih; exact .inr ⟨_, e, .refl _⟩
    · exact .inr ⟨z, h1, .step h2 e⟩
theorem Reach.last {l : List Pr} {a b : Int} (h : Reach l a b) : a = b ∨ ∃ w, Reach l a w ∧ (w, b) ∈ l := by
  cases h with
  | refl => exact .inl rfl
  | step h e => exact .inr ⟨_, h, e⟩

structure RingP (l : List Pr) (c : Int) : Prop where
  key : c ∈ keys l
  back : ∀ y, Reach l c y → Reach l y c
  least : ∀ y, Reach l c y → c ≤ y
  lone : ∀ x y, (x, y) ∈ l → Reach l c y → Reach l c x

theorem RingP.succ {l : List Pr} {c y : Int} (h : RingP l c) (r : Reach l c y) : ∃ z, (y, z) ∈ l := by
  rcases (h.back y r).head with e | ⟨z, e, _⟩
  · subst e; exact of_keys h.key
  · exact ⟨z, e⟩
theorem RingP.pred {l : List Pr} {c y : Int} (h : RingP l c) (r : Reach l c y) : ∃ w, Reach l c w ∧ (w, y) ∈ l := by
  obtain ⟨z, hz⟩ := h.succ r
  have rz : Reach l c z := .step r hz
  rcases ((h.back z rz).trans r).last with e | ⟨w, h1, h2⟩
  · subst e; exact ⟨z, r, hz⟩
  · exact ⟨w, rz.trans h1, h2⟩

/-! ### the rings as they are found -/
def look (l : List Pr) (k : Int) : Option Int := (l.find? fun p => decide (p.1 = k)).map (·.2)
theorem look_some {l : List Pr} (nd : (keys l).Nodup) {k v : Int} : look l k = some v ↔ (k, v) ∈ l := by
  unfold look
  constructor
  · intro h
    obtain ⟨p, h1, h2⟩ := Option.map_eq_some_iff.mp h
    have h3 : p.1 = k := by have := List.find?_some h1; simpa using this
    have h4 := List.mem_of_find?_eq_some h1
    obtain ⟨a, b⟩ := p
    subst h3; subst h2
    exact h4
  · intro h
    cases e : l.find? fun p => decide (p.1 = k) with
    | none =>
      have := List.find?_eq_none.mp e _ h
      simp at this
    | some p =>
      have h3 : p.1 = k := by have := List.find?_some e; simpa using this
      have h4 := List.mem_of_find?_eq_some e
      obtain ⟨a, b⟩ := p
      subst h3
      rw [fn_of nd h h4]
      rfl
theorem look_none {l : List Pr} {k : Int} : look l k = none ↔ k ∉ keys l := by
  unfold look
  rw [Option.map_eq_none_iff, List.find?_eq_none]
  constructor
  · intro h hk
    obtain ⟨v, hv⟩ := of_keys hk
    have := h _ hv
    simp at this
  · intro h p hp e
    exact h (List.mem_map.mpr ⟨p, hp, of_decide_eq_true e⟩)
def ringGo : Nat → List Pr → List Int → Int → List Int × Int
  | 0, _, r, x => (r, x)
  | n + 1, l, r, x => match look l x with
    | none => (r, x)
    | some v => if v ∈ r ++ [x] then (r, x) else ringGo n l (r ++ [x]) v
def ring (l : List Pr) (c : Int) : List Int := let p := ringGo (l.length + 1) l [] c; p.1 ++ [p.2]
def ringEnd (l : List Pr) (c : Int) : Int := (ringGo (l.length + 1) l [] c).2
def readers (l : List Pr) (r : List Int) : List Pr := l.filter fun p => decide (p.2 ∈ r)
def isRing (l : List Pr) (c : Int) : Bool :=
  decide (look l (ringEnd l c) = some c) && (decide (∀ y ∈ ring l c, c ≤ y) && decide ((readers l (ring l c)).length = (ring l c).length))

/-- what holds of the ring so far -/
structure Way (l : List Pr) (c : Int) (r : List Int) (x : Int) : Prop where
  nd : (r ++ [x]).Nodup
  has : c ∈ r ++ [x]
  to : ∀ y ∈ r ++ [x], Reach l c y
  on : ∀ y ∈ r ++ [x], Reach l y x
  inn : ∀ y ∈ r, ∀ z, (y, z) ∈ l → z ∈ r ++ [x]
  pre : ∀ y ∈ r ++ [x], y ≠ c → ∃ z ∈ r, (z, y) ∈ l
  suc : ∀ y ∈ r, ∃ z, (y, z) ∈ l
  off : ∀ y ∈ r, (y, c) ∉ l
theorem Way.start (l : List Pr) (c : Int) : Way l c [] c := by
  refine ⟨by simp, by simp, fun y hy => ?_, fun y hy => ?_, fun y hy => absurd hy (by simp), fun y hy hc => ?_, fun y hy => absurd hy (by simp), fun y hy => absurd hy (by simp)⟩
  · have e : y = c := by simpa using hy
    subst e; exact .refl _
  · have e : y = c := by simpa using hy
    subst e; exact .refl _
  · have e : y = c := by simpa using hy
    exact absurd e hc
theorem Way.next {l : List Pr} {c : Int} {r : List Int} {x v : Int} (nd : (keys l).Nodup) (h : Way l c r x) (hv : (x, v) ∈ l) (hn : v ∉ r ++ [x]) : Way l c (r ++ [x]) v := by
  have hx : x ∈ r ++ [x] := by simp
  refine ⟨?_, List.mem_append_left _ h.has, fun y hy => ?_, fun y hy => ?_, fun y hy z hz => ?_, fun y hy hc => ?_, fun y hy => ?_, fun y hy hc => ?_⟩
  · refine List.nodup_append.mpr ⟨h.nd, by simp, fun a ha b hb => ?_⟩
    have e : b = v := by simpa using hb
    subst e
    exact fun q => hn (q ▸ ha)
  · rcases List.mem_append.mp hy with q | q
    · exact h.to y q
    · have e : y = v := by simpa using q
      subst e; exact .step (h.to x hx) hv
  · rcases List.mem_append.mp hy with q | q
    · exact .step (h.on y q) hv
    · have e : y = v := by simpa using q
      subst e; exact .refl _
  · rcases List.mem_append.mp hy with q | q
    · exact List.mem_append_left _ (h.inn y q z hz)
    · have e : y = x := by simpa using q
      subst e
      rw [fn_of nd hz hv]; simp
  · rcases List.mem_append.mp hy with q | q
    · obtain ⟨z, h1, h2⟩ := h.pre y q hc
      exact ⟨z, List.mem_append_left _ h1, h2⟩
    · have e : y = v := by simpa using q
      subst e; exact ⟨x, hx, hv⟩
  · rcases List.mem_append.mp hy with q | q
    · exact h.suc y q
    · have e : y = x := by simpa using q
      subst e; exact ⟨v, hv⟩
  · rcases List.mem_append.mp hy with q | q
    · exact h.off y q hc
    · have e : y = x := by simpa using q
      subst e
      have e2 : c = v := fn_of nd hc hv
      exact hn (by rw [← e2]; exact h.has)
theorem Way.short {l : List Pr} {c : Int} {r : List Int} {x : Int} (h : Way l c r x) : r.length ≤ l.length := by
  have := sub_len (a := r) (b := keys l) (List.nodup_append.mp h.nd).1 fun y hy => by
    obtain ⟨z, hz⟩ := h.suc y hy
    exact mem_keys hz
  simpa [keys] using this
/-- the end: closed -/
def Shut (l : List Pr) (r : List Int) (x : Int) : Prop := ∀ v, (x, v) ∈ l → v ∈ r ++ [x]
theorem ringGo_spec {l : List Pr} {c : Int} (nd : (keys l).Nodup) : ∀ (n : Nat) (r : List Int) (x : Int), Way l c r x → l.length + 1 ≤ r.length + n →
    Way l c (ringGo n l r x).1 (ringGo n l r x).2 ∧ Shut l (ringGo n l r x).1 (ringGo n l r x).2
  | 0, r, x, h, hl => by
    have := h.short
    omega
  | n + 1, r, x, h, hl => by
    unfold ringGo
    cases e : look l x with
    | none =>
      refine ⟨h, fun v hv => absurd (mem_keys hv) (look_none.mp e)⟩
    | some v =>
      have hv := (look_some nd).mp e
      by_cases hm : v ∈ r ++ [x]
      · simp only [hm, if_true]
        exact ⟨h, fun w hw => by rw [fn_of nd hw hv]; exact hm⟩
      · simp only [hm, if_false]
        refine ringGo_spec nd n _ _ (h.next nd hv hm) ?_
        rw [List.length_append]
        simp only [List.length_cons, List.length_nil]
        omega
theorem ring_way {l : List Pr} (nd : (keys l).Nodup) (c : Int) : Way l c (ringGo (l.length + 1) l [] c).1 (ringEnd l c) ∧ Shut l (ringGo (l.length + 1) l [] c).1 (ringEnd l c) :=
  ringGo_spec nd _ _ _ (Way.start l c) (by simp)
theorem mem_ring {l : List Pr} (nd : (keys l).Nodup) {c y : Int} : y ∈ ring l c ↔ Reach l c y := by
  obtain ⟨w, s⟩ := ring_way nd c
  constructor
  · exact fun h => w.to y h
  · intro h
    induction h with
    | refl => exact w.has
    | step h1 e ih =>
      rcases List.mem_append.mp ih with q | q
      · exact w.inn _ q _ e
      · have q' := List.mem_singleton.mp q
        rw [q'] at e
        exact s _ e
theorem isRing_iff {l : List Pr} (nd : (keys l).Nodup) {c : Int} (hc : c ∈ keys l) : isRing l c = true ↔ RingP l c := by
  obtain ⟨w, s⟩ := ring_way nd c
  unfold isRing
  rw [Bool.and_eq_true, Bool.and_eq_true, decide_eq_true_eq, decide_eq_true_eq, decide_eq_true_eq, look_some nd]
  have ndR : ((readers l (ring l c)).map (·.1)).Nodup := nd.sublist (List.filter_sublist.map _)
  have lenR : ((readers l (ring l c)).map (·.1)).length = (readers l (ring l c)).length := List.length_map ..
  have inR : ∀ x y, (x, y) ∈ l → y ∈ ring l c → x ∈ (readers l (ring l c)).map (·.1) := fun x y h1 h2 => List.mem_map.mpr ⟨(x, y), List.mem_filter.mpr ⟨h1, decide_eq_true h2⟩, rfl⟩
  constructor
  · rintro ⟨h1, h2, h3⟩
    have back : ∀ y, Reach l c y → Reach l y c := fun y hy => .step (w.on y ((mem_ring nd).mpr hy)) h1
    have sub : ∀ y ∈ ring l c, y ∈ (readers l (ring l c)).map (·.1) := fun y hy => by
      rcases List.mem_append.mp hy with q | q
      · obtain ⟨z, hz⟩ := w.suc y q
        exact inR y z hz (w.inn y q z hz)
      · have e : y = ringEnd l c := List.mem_singleton.mp q
        rw [e]
        exact inR _ c h1 w.has
    obtain ⟨q1, _⟩ := sub_eq w.nd sub (by rw [lenR, h3]; exact Nat.le_refl _)
    exact ⟨hc, back, fun y hy => h2 y ((mem_ring nd).mpr hy), fun x y hxy hy => (mem_ring nd).mp (q1 x (inR x y hxy ((mem_ring nd).mpr hy)))⟩
  · intro h
    have e1 : (ringEnd l c, c) ∈ l := by
      obtain ⟨v, hv, hvc⟩ := h.pred (.refl c)
      rcases List.mem_append.mp ((mem_ring nd).mpr hv) with q | q
      · exact absurd hvc (w.off v q)
      · rw [List.mem_singleton.mp q] at hvc
        exact hvc
    refine ⟨e1, fun y hy => h.least y ((mem_ring nd).mp hy), ?_⟩
    rw [← lenR]
    refine Nat.le_antisymm (sub_len ndR fun x hx => ?_) (sub_len w.nd fun y hy => ?_)
    · obtain ⟨⟨a, b⟩, h1, h2⟩ := List.mem_map.mp hx
      obtain ⟨h3, h4⟩ := List.mem_filter.mp h1
      have h2' : a = x := h2
      subst h2'
      exact (mem_ring nd).mpr (h.lone a b h3 ((mem_ring nd).mp (of_decide_eq_true h4)))
    · obtain ⟨z, hz⟩ := h.succ ((mem_ring nd).mp hy)
      exact inR y z hz ((mem_ring nd).mpr (.step ((mem_ring nd).mp hy) hz))
end Mv

namespace Mv
set_option autoImplicit false
/-! ### the two kinds of steps -/
section
variable {sp t s : Int} {l : List Pr}
/-- a move whose target nobody reads leaves the lone rings as they are -/
theorem ringP_free (g : Good sp l) (ht : (t, s) ∈ l) (hr : t ∉ reads l) (c : Int) : RingP (redir s t (without t l)) c ↔ RingP l c := by
  have mem : ∀ x y, (x, y) ∈ redir s t (without t l) ↔ ∃ z, (x, z) ∈ l ∧ x ≠ t ∧ y = if z = s then t else z := fun x y => by
    rw [mem_redir]
    constructor
    · rintro ⟨z, h1, h2⟩
      obtain ⟨h3, h4⟩ := mem_without.mp h1
      exact ⟨z, h3, h4, h2⟩
    · rintro ⟨z, h1, h2, h3⟩
      exact ⟨z, mem_without.mpr ⟨h1, h2⟩, h3⟩
  have ks : ∀ x, x ∈ keys (redir s t (without t l)) ↔ x ∈ keys l ∧ x ≠ t := fun x => by
    rw [keys_redir, keys_without, List.mem_filter]
    simp
  have nts : t ≠ s := g.ns _ ht
  have noT : ∀ x, (x, t) ∉ l := fun x h => hr (mem_reads h)
  constructor
  · intro h
    -- t is not on the ring: it leads nowhere
    have hct : c ≠ t := ((ks c).mp h.key).2
    have onT : ∀ y, Reach (redir s t (without t l)) c y → y ≠ t := fun y hy e => by
      obtain ⟨z, hz⟩ := h.succ hy
      obtain ⟨_, _, q, _⟩ := (mem y z).mp hz
      exact q e
    have noS : ∀ x, (x, s) ∉ redir s t (without t l) := fun x hx => by
      obtain ⟨z, h1, h2, h3⟩ := (mem x s).mp hx
      by_cases hz : z = s
      · rw [if_pos hz] at h3; exact nts h3.symm
      · rw [if_neg hz] at h3; exact hz h3.symm
    have onS : ∀ y, Reach (redir s t (without t l)) c y → y ≠ s := fun y hy e => by
      obtain ⟨w, _, hw⟩ := h.pred hy
      rw [e] at hw
      exact noS w hw
    have up : ∀ x y, Reach (redir s t (without t l)) c x → (x, y) ∈ l → (x, y) ∈ redir s t (without t l) ∧ y ≠ s := fun x y hx hy => by
      obtain ⟨z, hz⟩ := h.succ hx
      obtain ⟨y', h1, h2, h3⟩ := (mem x z).mp hz
      have e : y' = y := fn_of g.nd h1 hy
      rw [e] at h3
      by_cases hs : y = s
      · rw [if_pos hs] at h3
        exact absurd h3 (onT z (.step hx hz))
      · rw [if_neg hs] at h3
        rw [h3] at hz
        exact ⟨hz, hs⟩
    have dn : ∀ x y, Reach (redir s t (without t l)) c x → (x, y) ∈ redir s t (without t l) → (x, y) ∈ l := fun x y hx hy => by
      obtain ⟨z, h1, h2, h3⟩ := (mem x y).mp hy
      by_cases hs : z = s
      · rw [if_pos hs] at h3
        exact absurd h3 (onT y (.step hx hy))
      · rw [if_neg hs] at h3
        rw [h3]; exact h1
    have R1 : ∀ a b, Reach (redir s t (without t l)) c a → Reach l a b → Reach (redir s t (without t l)) a b := fun a b ha hab => by
      induction hab with
      | refl => exact .refl _
      | step h1 e ih => exact .step ih (up _ _ (ha.trans ih) e).1
    have R2 : ∀ a b, Reach (redir s t (without t l)) c a → Reach (redir s t (without t l)) a b → Reach l a b := fun a b ha hab => by
      induction hab with
      | refl => exact .refl _
      | step h1 e ih => exact .step ih (dn _ _ (ha.trans h1) e)
    refine ⟨((ks c).mp h.key).1, fun y hy => ?_, fun y hy => h.least y (R1 c y (.refl c) hy), fun x y hxy hy => ?_⟩
    · have hy' := R1 c y (.refl c) hy
      exact R2 y c hy' (h.back y hy')
    · have hy' := R1 c y (.refl c) hy
      have hxt : x ≠ t := fun e => by
        rw [e] at hxy
        exact onS y hy' (fn_of g.nd hxy ht)
      have hx' := h.lone x y ((mem x y).mpr ⟨y, hxy, hxt, by rw [if_neg (onS y hy')]⟩) hy'
      exact R2 c x (.refl c) hx'
  · intro h
    have onT : ∀ y, Reach l c y → y ≠ t := fun y hy e => by
      obtain ⟨w, _, hw⟩ := h.pred hy
      rw [e] at hw
      exact noT w hw
    have onS : ∀ y, Reach l c y → y ≠ s := fun y hy e => onT t (h.lone t s ht (e ▸ hy)) rfl
    have up : ∀ x y, Reach l c x → (x, y) ∈ l → (x, y) ∈ redir s t (without t l) := fun x y hx hy =>
      (mem x y).mpr ⟨y, hy, onT x hx, by rw [if_neg (onS y (.step hx hy))]⟩
    have dn : ∀ x y, Reach l c x → (x, y) ∈ redir s t (without t l) → (x, y) ∈ l := fun x y hx hy => by
      obtain ⟨z, h1, h2, h3⟩ := (mem x y).mp hy
      rw [if_neg (onS z (.step hx h1))] at h3
      rw [h3]; exact h1
    have R1 : ∀ a b, Reach l c a → Reach l a b → Reach (redir s t (without t l)) a b := fun a b ha hab => by
      induction hab with
      | refl => exact .refl _
      | step h1 e ih => exact .step ih (up _ _ (ha.trans h1) e)
    have R2 : ∀ a b, Reach l c a → Reach (redir s t (without t l)) a b → Reach l a b := fun a b ha hab => by
      induction hab with
      | refl => exact .refl _
      | step h1 e ih => exact .step ih (dn _ _ (ha.trans ih) e)
    refine ⟨(ks c).mpr ⟨h.key, onT c (.refl c)⟩, fun y hy => ?_, fun y hy => h.least y (R2 c y (.refl c) hy), fun x y hxy hy => ?_⟩
    · have hy' := R2 c y (.refl c) hy
      exact R1 y c hy' (h.back y hy')
    · have hy' := R2 c y (.refl c) hy
      obtain ⟨z, h1, h2, h3⟩ := (mem x y).mp hxy
      have hz : z ≠ s := fun e => by
        rw [if_pos e] at h3
        exact onT y hy' h3
      rw [if_neg hz] at h3
      rw [← h3] at h1
      exact R1 c x (.refl c) (h.lone x y h1 hy')

/-- no target is free: targets and sources are the same, none twice -/
structure Full (l : List Pr) : Prop where
  rk : ∀ v ∈ reads l, v ∈ keys l
  nr : (reads l).Nodup
theorem full_of (g : Good sp l) (h : free l = []) : Full l := by
  have sub : ∀ k ∈ keys l, k ∈ reads l := fun k hk => by
    obtain ⟨v, hv⟩ := of_keys hk
    by_cases q : k ∈ reads l
    · exact q
    · have : (k, v) ∈ free l := mem_free.mpr ⟨hv, q⟩
      rw [h] at this
      cases this
  obtain ⟨a, b⟩ := sub_eq g.nd sub (by simp [keys, reads])
  exact ⟨a, b⟩
theorem Full.cycle (nd : (keys l).Nodup) (f : Full l) {a b : Int} (ha : a ∈ keys l) (h : Reach l a b) : Reach l b a := by
  obtain ⟨w, s⟩ := ring_way nd a
  have hx : ringEnd l a ∈ keys l := by
    by_cases e : ringEnd l a = a
    · rw [e]; exact ha
    · obtain ⟨z, _, hz⟩ := w.pre (ringEnd l a) (by simp) e
      exact f.rk _ (mem_reads hz)
  obtain ⟨v, hv⟩ := of_keys hx
  have hva : v = a := by
    by_cases e : v = a
    · exact e
    · obtain ⟨z, hz1, hz2⟩ := w.pre v (s v hv) e
      have : z = ringEnd l a := inj_of_nodup f.nr hz2 hv
      rw [this] at hz1
      exact absurd rfl ((List.nodup_append.mp w.nd).2.2 _ hz1 _ (List.mem_singleton.mpr rfl))
  rw [hva] at hv
  exact .step (w.on b ((mem_ring nd).mpr h)) hv
theorem least_of : ∀ {r : List Int}, r ≠ [] → ∃ m ∈ r, ∀ y ∈ r, m ≤ y
  | [], h => absurd rfl h
  | [x], _ => ⟨x, List.mem_cons_self, fun y hy => by rw [List.mem_singleton.mp hy]; exact Int.le_refl _⟩
  | x :: y :: r, _ => by
    obtain ⟨m, h1, h2⟩ := least_of (r := y :: r) (List.cons_ne_nil _ _)
    by_cases e : x ≤ m
    · refine ⟨x, List.mem_cons_self, fun z hz => ?_⟩
      rcases List.mem_cons.mp hz with q | q
      · rw [q]; exact Int.le_refl _
      · exact Int.le_trans e (h2 z q)
    · refine ⟨m, List.mem_cons_of_mem _ h1, fun z hz => ?_⟩
      rcases List.mem_cons.mp hz with q | q
      · rw [q]; omega
      · exact h2 z q
theorem Full.ringOf (g : Good sp l) (f : Full l) {a : Int} (ha : a ∈ keys l) : ∃ m, RingP l m ∧ Reach l a m ∧ Reach l m a := by
  have ne : ring l a ≠ [] := fun e => by
    have := (ring_way g.nd a).1.has
    have h2 : a ∈ ring l a := this
    rw [e] at h2
    cases h2
  obtain ⟨m, h1, h2⟩ := least_of ne
  have ram := (mem_ring g.nd).mp h1
  have rma := f.cycle g.nd ha ram
  have km : m ∈ keys l := by
    rcases rma.head with e | ⟨z, hz, _⟩
    · rw [e]; exact ha
    · exact mem_keys hz
  refine ⟨m, ⟨km, fun y hy => f.cycle g.nd km hy, fun y hy => h2 y ((mem_ring g.nd).mpr (ram.trans hy)), fun x y hxy hy => ?_⟩, ram, rma⟩
  obtain ⟨w, hw1, hw2⟩ : ∃ w, Reach l m w ∧ (w, y) ∈ l := by
    have ry := f.cycle g.nd km hy
    rcases ry.head with e | ⟨z, hz, hzm⟩
    · -- y = m
      subst e
      obtain ⟨z, hz⟩ := of_keys km
      have : Reach l z y := f.cycle g.nd km (.one hz)
      rcases this.last with e | ⟨w, h3, h4⟩
      · subst e; exact ⟨z, .refl _, hz⟩
      · exact ⟨w, (Reach.one hz).trans h3, h4⟩
    · rcases (hzm.trans hy).last with e | ⟨w, h3, h4⟩
      · subst e; exact ⟨z, hy, hz⟩
      · exact ⟨w, (Reach.step hy hz).trans h3, h4⟩
  rw [inj_of_nodup f.nr hxy hw2]
  exact hw1
/-- breaking the ring of t: the others stand -/
theorem ringP_break (g : Good sp l) (f : Full l) (ht : t ∈ keys l) (c : Int) : RingP (redir t sp l) c ↔ RingP l c ∧ ¬ Reach l c t := by
  have nst : sp ≠ t := fun e => g.sp (e ▸ ht)
  constructor
  · intro h
    have hk : c ∈ keys l := by have := h.key; rwa [keys_redir] at this
    have onSp : ∀ y, Reach (redir t sp l) c y → y ≠ sp := fun y hy e => by
      obtain ⟨z, hz⟩ := h.succ hy
      have := mem_keys hz
      rw [keys_redir, e] at this
      exact g.sp this
    have onT : ∀ y, Reach (redir t sp l) c y → y ≠ t := fun y hy e => by
      obtain ⟨w, _, hw⟩ := h.pred hy
      obtain ⟨z, h1, h2⟩ := mem_redir.mp hw
      by_cases q : z = t
      · rw [if_pos q, e] at h2; exact nst h2.symm
      · rw [if_neg q, e] at h2; exact q h2.symm
    have up : ∀ x y, Reach (redir t sp l) c x → (x, y) ∈ l → (x, y) ∈ redir t sp l := fun x y hx hy => by
      have h1 : (x, if y = t then sp else y) ∈ redir t sp l := mem_redir.mpr ⟨y, hy, rfl⟩
      by_cases q : y = t
      · rw [if_pos q] at h1
        exact absurd rfl (onSp sp (.step hx h1))
      · rw [if_neg q] at h1
        exact h1
    have dn : ∀ x y, Reach (redir t sp l) c x → (x, y) ∈ redir t sp l → (x, y) ∈ l := fun x y hx hy => by
      obtain ⟨z, h1, h2⟩ := mem_redir.mp hy
      by_cases q : z = t
      · rw [if_pos q] at h2
        exact absurd h2 (onSp y (.step hx hy))
      · rw [if_neg q] at h2
        rw [h2]; exact h1
    have R1 : ∀ a b, Reach (redir t sp l) c a → Reach l a b → Reach (redir t sp l) a b := fun a b ha hab => by
      induction hab with
      | refl => exact .refl _
      | step h1 e ih => exact .step ih (up _ _ (ha.trans ih) e)
    have R2 : ∀ a b, Reach (redir t sp l) c a → Reach (redir t sp l) a b → Reach l a b := fun a b ha hab => by
      induction hab with
      | refl => exact .refl _
      | step h1 e ih => exact .step ih (dn _ _ (ha.trans h1) e)
    refine ⟨⟨hk, fun y hy => ?_, fun y hy => h.least y (R1 c y (.refl c) hy), fun x y hxy hy => ?_⟩, fun hct => onT t (R1 c t (.refl c) hct) rfl⟩
    · have hy' := R1 c y (.refl c) hy
      exact R2 y c hy' (h.back y hy')
    · have hy' := R1 c y (.refl c) hy
      have hx' := h.lone x y (mem_redir.mpr ⟨y, hxy, by rw [if_neg (onT y hy')]⟩) hy'
      exact R2 c x (.refl c) hx'
  · rintro ⟨h, hn⟩
    have onT : ∀ y, Reach l c y → y ≠ t := fun y hy e => hn (e ▸ hy)
    have onSp : ∀ y, Reach l c y → y ≠ sp := fun y hy e => by
      obtain ⟨z, hz⟩ := h.succ hy
      exact g.sp (e ▸ mem_keys hz)
    have up : ∀ x y, Reach l c x → (x, y) ∈ l → (x, y) ∈ redir t sp l := fun x y hx hy =>
      mem_redir.mpr ⟨y, hy, by rw [if_neg (onT y (.step hx hy))]⟩
    have dn : ∀ x y, Reach l c x → (x, y) ∈ redir t sp l → (x, y) ∈ l := fun x y hx hy => by
      obtain ⟨z, h1, h2⟩ := mem_redir.mp hy
      rw [if_neg (onT z (.step hx h1))] at h2
      rw [h2]; exact h1
    have R1 : ∀ a b, Reach l c a → Reach l a b → Reach (redir t sp l) a b := fun a b ha hab => by
      induction hab with
      | refl => exact .refl _
      | step h1 e ih => exact .step ih (up _ _ (ha.trans h1) e)
    have R2 : ∀ a b, Reach l c a → Reach (redir t sp l) a b → Reach l a b := fun a b ha hab => by
      induction hab with
      | refl => exact .refl _
      | step h1 e ih => exact .step ih (dn _ _ (ha.trans ih) e)
    refine ⟨by rw [keys_redir]; exact h.key, fun y hy => ?_, fun y hy => h.least y (R2 c y (.refl c) hy), fun x y hxy hy => ?_⟩
    · have hy' := R2 c y (.refl c) hy
      exact R1 y c hy' (h.back y hy')
    · have hy' := R2 c y (.refl c) hy
      obtain ⟨z, h1, h3⟩ := mem_redir.mp hxy
      have hz : z ≠ t := fun e => by
        rw [if_pos e] at h3
        exact onSp y hy' h3
      rw [if_neg hz] at h3
      rw [← h3] at h1
      exact R1 c x (.refl c) (h.lone x y h1 hy')

/-! ### counting -/
def count (l : List Pr) : Nat := ((keys l).filter (isRing l)).length
theorem Good.free (g : Good sp l) (ht : (t, s) ∈ l) (hr : t ∉ reads l) : Good sp (redir s t (without t l)) := by
  refine ⟨?_, fun p hp => ?_, ?_⟩
  · rw [keys_redir, keys_without]
    exact g.nd.sublist List.filter_sublist
  · obtain ⟨x, y⟩ := p
    obtain ⟨z, h1, h2⟩ := mem_redir.mp hp
    obtain ⟨h3, h4⟩ := mem_without.mp h1
    show x ≠ y
    by_cases q : z = s
    · rw [if_pos q] at h2; rw [h2]; exact h4
    · rw [if_neg q] at h2; rw [h2]; exact g.ns _ h3
  · rw [keys_redir, keys_without]
    exact fun h => g.sp (List.mem_filter.mp h).1
theorem Good.brk (g : Good sp l) : Good sp (redir t sp l) := by
  refine ⟨by rw [keys_redir]; exact g.nd, fun p hp => ?_, by rw [keys_redir]; exact g.sp⟩
  obtain ⟨x, y⟩ := p
  obtain ⟨z, h1, h2⟩ := mem_redir.mp hp
  show x ≠ y
  by_cases q : z = t
  · rw [if_pos q] at h2; rw [h2]
    exact fun e => g.sp (e ▸ mem_keys h1)
  · rw [if_neg q] at h2; rw [h2]; exact g.ns _ h1
theorem count_free (g : Good sp l) (ht : (t, s) ∈ l) (hr : t ∉ reads l) : count (redir s t (without t l)) = count l := by
  have g' := g.free ht hr
  unfold count
  rw [keys_redir, keys_without, List.filter_filter]
  congr 1
  refine List.filter_congr fun c hc => ?_
  have ks : ∀ x, x ∈ keys (redir s t (without t l)) ↔ x ∈ keys l ∧ x ≠ t := fun x => by
    rw [keys_redir, keys_without, List.mem_filter]
    simp
  by_cases e : c = t
  · have no : isRing l c = false := by
      cases q : isRing l c with
      | false => rfl
      | true =>
        obtain ⟨w, _, hw⟩ := ((isRing_iff g.nd hc).mp q).pred (.refl c)
        rw [e] at hw
        exact absurd (mem_reads hw) hr
    rw [no]; simp [e]
  · have iff : isRing (redir s t (without t l)) c = isRing l c := by
      rw [Bool.eq_iff_iff, isRing_iff g'.nd ((ks c).mpr ⟨hc, e⟩), isRing_iff g.nd hc]
      exact ringP_free g ht hr c
    rw [iff]; simp [e]
theorem filter_less : ∀ {ks : List Int} {p : Int → Bool} {c : Int}, ks.Nodup → c ∈ ks → p c = true → (ks.filter p).length = (ks.filter fun k => p k && !decide (k = c)).length + 1
  | [], _, _, _, h, _ => by cases h
  | k :: r, p, c, nd, h, hp => by
    obtain ⟨h1, h2⟩ := List.nodup_cons.mp nd
    by_cases e : k = c
    · subst e
      have same : (r.filter fun j => p j && !decide (j = k)) = r.filter p := List.filter_congr fun j hj => by
        have : j ≠ k := fun q => h1 (q ▸ hj)
        simp [this]
      rw [List.filter_cons, if_pos hp, List.filter_cons, if_neg (by simp), same]
      rfl
    · have hc : c ∈ r := (List.mem_cons.mp h).resolve_left fun q => e q.symm
      have ih := filter_less h2 hc hp
      rw [List.filter_cons, List.filter_cons]
      by_cases q : p k = true
      · rw [if_pos q, if_pos (by simp [q, e]), List.length_cons, List.length_cons, ih]
      · rw [if_neg q, if_neg (by simp [q]), ih]
theorem count_brk (g : Good sp l) (f : Full l) (ht : t ∈ keys l) : count l = count (redir t sp l) + 1 := by
  have g' : Good sp (redir t sp l) := g.brk
  obtain ⟨m, hm, htm, hmt⟩ := f.ringOf g ht
  unfold count
  rw [filter_less g.nd hm.key ((isRing_iff g.nd hm.key).mpr hm), keys_redir]
  congr 2
  refine List.filter_congr fun c hc => ?_
  have hc' : c ∈ keys (redir t sp l) := by rw [keys_redir]; exact hc
  rw [Bool.eq_iff_iff, isRing_iff g'.nd hc', ringP_break g f ht c, Bool.and_eq_true, isRing_iff g.nd hc]
  refine and_congr_right fun h => ?_
  simp only [Bool.not_eq_true', decide_eq_false_iff_not]
  constructor
  · intro q hct
    have r1 : Reach l c m := hct.trans htm
    exact q (Int.le_antisymm (h.least m r1) (hm.least c (h.back m r1)))
  · intro q e
    rw [e] at q
    exact q hmt

/-! ### a step -/
theorem step_free {p : Pr} {r : List Pr} (h : free l = p :: r) : step sp l = (p, redir p.2 p.1 (without p.1 l)) := by
  unfold step
  rw [h]
theorem step_brk {p : Pr} {r : List Pr} (h : free (p :: r) = []) : step sp (p :: r) = ((sp, p.1), redir p.1 sp (p :: r)) := by
  unfold step
  rw [h]
theorem free_head {p : Pr} {r : List Pr} (h : free l = p :: r) : (p.1, p.2) ∈ l ∧ p.1 ∉ reads l := by
  have : p ∈ free l := by rw [h]; exact List.mem_cons_self
  exact mem_free.mp this
theorem len_redir (a b : Int) (l : List Pr) : (redir a b l).length = l.length := List.length_map ..
theorem len_without (nd : (keys l).Nodup) (ht : t ∈ keys l) : (without t l).length + 1 = l.length := by
  have h := filter_less (p := fun _ => true) nd ht rfl
  have e1 : ((keys l).filter fun _ => true).length = l.length := by
    rw [List.filter_eq_self.mpr (fun _ _ => rfl)]
    exact List.length_map ..
  have e2 : (without t l).length = ((keys l).filter fun k => true && !decide (k = t)).length := by
    have := congrArg List.length (keys_without t l)
    rw [show (keys (without t l)).length = (without t l).length from List.length_map ..] at this
    rw [this]
    simp
  omega
theorem free_brk {p : Pr} {r : List Pr} (g : Good sp (p :: r)) : free (redir p.1 sp (p :: r)) ≠ [] := by
  intro h
  have hm : (p.1, if p.2 = p.1 then sp else p.2) ∈ redir p.1 sp (p :: r) := mem_redir.mpr ⟨p.2, List.mem_cons_self, rfl⟩
  have : (p.1, if p.2 = p.1 then sp else p.2) ∈ free (redir p.1 sp (p :: r)) := by
    refine mem_free.mpr ⟨hm, fun q => ?_⟩
    obtain ⟨x, hx⟩ := of_reads q
    obtain ⟨z, h1, h2⟩ := mem_redir.mp hx
    have h2 : p.1 = if z = p.1 then sp else z := h2
    by_cases e : z = p.1
    · rw [if_pos e] at h2
      exact g.sp (h2 ▸ List.mem_cons_self)
    · rw [if_neg e] at h2
      exact e h2.symm
  rw [h] at this
  cases this
theorem step_good {p : Pr} {r : List Pr} (g : Good sp (p :: r)) : Good sp (step sp (p :: r)).2 ∧ mu (step sp (p :: r)).2 < mu (p :: r) := by
  cases h : free (p :: r) with
  | cons q u =>
    obtain ⟨h1, h2⟩ := free_head h
    rw [step_free h]
    refine ⟨g.free h1 h2, ?_⟩
    have := len_without g.nd (mem_keys h1)
    unfold mu
    rw [len_redir, h]
    split <;> simp <;> simp at this <;> omega
  | nil =>
    rw [step_brk h]
    refine ⟨g.brk, ?_⟩
    unfold mu
    rw [len_redir, h, if_neg (free_brk g)]
    simp
theorem ruleGo_len : ∀ (n : Nat) (l : List Pr), Good sp l → mu l ≤ n → (ruleGo n sp l).length = l.length + count l
  | 0, [], _, _ => by rfl
  | 0, p :: r, _, h => by unfold mu at h; simp at h
  | n + 1, [], _, _ => by rfl
  | n + 1, p :: r, g, h => by
    obtain ⟨g', hm⟩ := step_good g
    have ih := ruleGo_len n (step sp (p :: r)).2 g' (by omega)
    show (ruleGo n sp (step sp (p :: r)).2).length + 1 = _
    rw [ih]
    cases hf : free (p :: r) with
    | cons q u =>
      obtain ⟨h1, h2⟩ := free_head hf
      have e := len_without g.nd (mem_keys h1)
      rw [step_free hf]
      simp only
      rw [count_free g h1 h2, len_redir]
      omega
    | nil =>
      rw [step_brk hf]
      simp only
      rw [count_brk g (full_of g hf) (t := p.1) List.mem_cons_self, len_redir]
      omega
theorem rule_len (g : Good sp (nt l)) : (rule sp l).length = (nt l).length + count (nt l) :=
  ruleGo_len _ _ g (by unfold mu; split <;> omega)

/-! ### what the row does -/
def walk : List Pr → (Int → Int) → Int → Int
  | [], f => f
  | p :: r, f => walk r fun x => if x = p.1 then f p.2 else f x
theorem ruleGo_does (goal : Int → Int) : ∀ (n : Nat) (l : List Pr) (f : Int → Int), Good sp l → mu l ≤ n → (∀ d s, (d, s) ∈ l → f s = goal d) → (∀ x, x ≠ sp → x ∉ keys l → f x = goal x) →
    ∀ x, x ≠ sp → walk (ruleGo n sp l) f x = goal x
  | 0, [], f, _, _, _, h2 => fun x hx => h2 x hx (by simp [keys])
  | 0, p :: r, _, _, h, _, _ => by unfold mu at h; simp at h
  | n + 1, [], f, _, _, _, h2 => fun x hx => h2 x hx (by simp [keys])
  | n + 1, p :: r, f, g, h, h1, h2 => by
    obtain ⟨g', hm⟩ := step_good g
    have ih := ruleGo_does goal n (step sp (p :: r)).2 (fun x => if x = (step sp (p :: r)).1.1 then f (step sp (p :: r)).1.2 else f x) g' (by omega)
    show ∀ x, x ≠ sp → walk (ruleGo n sp (step sp (p :: r)).2) _ x = goal x
    refine ih (fun d s hds => ?_) fun x hx hk => ?_
    · cases hf : free (p :: r) with
      | cons q u =>
        obtain ⟨a1, a2⟩ := free_head hf
        rw [step_free hf] at hds ⊢
        simp only at hds ⊢
        obtain ⟨z, b1, b2⟩ := mem_redir.mp hds
        obtain ⟨b3, b4⟩ := mem_without.mp b1
        by_cases e : z = q.2
        · rw [if_pos e] at b2
          rw [if_pos b2, ← e]
          exact h1 d z b3
        · rw [if_neg e] at b2
          have : s ≠ q.1 := fun e2 => a2 (by rw [← e2, b2]; exact mem_reads b3)
          rw [if_neg this, b2]
          exact h1 d z b3
      | nil =>
        have fl := full_of g hf
        rw [step_brk hf] at hds ⊢
        simp only at hds ⊢
        obtain ⟨z, b1, b2⟩ := mem_redir.mp hds
        by_cases e : z = p.1
        · rw [if_pos e] at b2
          rw [if_pos b2, ← e]
          exact h1 d z b1
        · rw [if_neg e] at b2
          have : s ≠ sp := fun e2 => g.sp (by rw [← e2, b2]; exact fl.rk _ (mem_reads b1))
          rw [if_neg this, b2]
          exact h1 d z b1
    · cases hf : free (p :: r) with
      | cons q u =>
        obtain ⟨a1, a2⟩ := free_head hf
        rw [step_free hf] at hk ⊢
        simp only at hk ⊢
        rw [keys_redir, keys_without, List.mem_filter] at hk
        by_cases e : x = q.1
        · rw [if_pos e, e]
          exact h1 q.1 q.2 a1
        · rw [if_neg e]
          exact h2 x hx fun m => hk ⟨m, by simp [e]⟩
      | nil =>
        rw [step_brk hf] at hk ⊢
        simp only at hk ⊢
        rw [keys_redir] at hk
        rw [if_neg hx]
        exact h2 x hx hk
theorem rule_does (g : Good sp (nt l)) (goal : Int → Int) (h1 : ∀ d s, (d, s) ∈ l → goal d = s) (h2 : ∀ x, x ∉ keys l → goal x = x) : ∀ x, x ≠ sp → walk (rule sp l) id x = goal x := by
  refine ruleGo_does goal _ _ id g (by unfold mu; split <;> omega) (fun d s h => (h1 d s (List.mem_filter.mp h).1).symm) fun x hx hk => ?_
  by_cases q : x ∈ keys l
  · obtain ⟨v, hv⟩ := of_keys q
    have hn : x = v := by
      by_cases e : x = v
      · exact e
      · exact absurd (mem_keys (v := v) (List.mem_filter.mpr ⟨hv, by simp [e]⟩)) hk
    show x = goal x
    rw [h1 x v hv, ← hn]
  · exact (h2 x q).symm
end
end Mv

namespace Mv
set_option autoImplicit false
/-! ### the rings in order -/
theorem sorted_one : ∀ {a b : List Int}, a.Perm b → a.Pairwise (· ≤ ·) → b.Pairwise (· ≤ ·) → a = b
  | [], b, p, _, _ => (List.nil_perm.mp p).symm
  | x :: a, [], p, _, _ => absurd p.length_eq (by simp)
  | x :: a, y :: b, p, ha, hb => by
    obtain ⟨h1, h2⟩ := List.pairwise_cons.mp ha
    obtain ⟨h3, h4⟩ := List.pairwise_cons.mp hb
    have hx : x ∈ y :: b := p.mem_iff.mp List.mem_cons_self
    have hy : y ∈ x :: a := p.mem_iff.mpr List.mem_cons_self
    have e : x = y := by
      rcases List.mem_cons.mp hx with q | q
      · exact q
      · rcases List.mem_cons.mp hy with r | r
        · exact r.symm
        · exact Int.le_antisymm (h1 y r) (h3 x q)
    subst e
    rw [sorted_one (List.perm_cons x |>.mp p) h2 h4]
def skeys (l : List Pr) : List Int := (keys l).mergeSort fun a b => decide (a ≤ b)
theorem skeys_perm (l : List Pr) : (skeys l).Perm (keys l) := List.mergeSort_perm _ _
theorem skeys_sorted (l : List Pr) : (skeys l).Pairwise (· ≤ ·) := by
  have h := List.pairwise_mergeSort (le := fun a b : Int => decide (a ≤ b)) (fun a b c h1 h2 => by simp only [decide_eq_true_eq] at *; omega) (fun a b => by simp only [Bool.or_eq_true, decide_eq_true_eq]; omega) (keys l)
  exact h.imp fun h => of_decide_eq_true h
theorem skeys_eq {l : List Pr} {ys : List Int} (p : ys.Perm (keys l)) (s : ys.Pairwise (· ≤ ·)) : ys = skeys l := sorted_one (p.trans (skeys_perm l).symm) s (skeys_sorted l)
def ringsOf (l : List Pr) : List (List Int) := ((skeys l).filter (isRing l)).map (ring l)
theorem ringsOf_len (l : List Pr) : (ringsOf l).length = count l := by
  unfold ringsOf count
  rw [List.length_map]
  exact ((skeys_perm l).filter _).length_eq
theorem rule_rings {sp : Int} {l : List Pr} (g : Good sp (nt l)) : (rule sp l).length = (nt l).length + (ringsOf (nt l)).length := by
  rw [ringsOf_len]
  exact rule_len g
theorem ring_len {l : List Pr} (nd : (keys l).Nodup) (c : Int) : (ring l c).length ≤ l.length + 1 := by
  have := (ring_way nd c).1.short
  show ((ringGo (l.length + 1) l [] c).1 ++ [(ringGo (l.length + 1) l [] c).2]).length ≤ _
  rw [List.length_append]
  simp only [List.length_singleton]
  omega
theorem ringGo_stop {n : Nat} {l : List Pr} {r : List Int} {x : Int} (h : look l x = none ∨ ∃ v, look l x = some v ∧ v ∈ r ++ [x]) : ringGo n l r x = (r, x) := by
  cases n with
  | zero => rfl
  | succ n =>
    unfold ringGo
    rcases h with e | ⟨v, e, hv⟩
    · rw [e]
    · rw [e]; simp only [hv, if_true]
theorem ringGo_go {n : Nat} {l : List Pr} {r : List Int} {x v : Int} (h : look l x = some v) (hv : v ∉ r ++ [x]) : ringGo (n + 1) l r x = ringGo n l (r ++ [x]) v := by
  rw [ringGo, h]
  simp only [hv, if_false]
/-- what a ring needs to be told -/
def Told (l : List Pr) (c : Int) (r : List Int) (x : Int) : Prop := look l x = some c ∧ (∀ y ∈ r, c ≤ y) ∧ (readers l r).length = r.length
theorem isRing_told {l : List Pr} {c : Int} : isRing l c = true ↔ Told l c (ring l c) (ringEnd l c) := by
  unfold isRing Told
  simp only [Bool.and_eq_true, decide_eq_true_eq]
end Mv

namespace Mv
set_option autoImplicit false
set_option maxRecDepth 1000000
set_option maxHeartbeats 4000000
/-! ### the shortest row, by all rows tried: states as numbers -/
/-- what the four places hold: a digit each -/
def dig (c p : Nat) : Nat := c / 4 ^ p % 4
def reg : Nat → Int
  | 0 => 0
  | 1 => 1
  | 2 => 2
  | _ => 9
def dec (c : Nat) : List Int := [reg (dig c 0), reg (dig c 1), reg (dig c 2), reg (dig c 3)]
def putC (c a b : Nat) : Nat := c - dig c a * 4 ^ a + dig c b * 4 ^ a
def memC (m : Nat) : List (Nat × Nat) → Bool
  | [] => false
  | w :: r => Nat.beq w.1 m || memC m r
def addC (d : Nat) (W : List (Nat × Nat)) (m : Nat) : List (Nat × Nat) := if memC m W = true then W else W ++ [(m, d)]
def pairs4 : List (Nat × Nat) := [(0,0),(0,1),(0,2),(0,3),(1,0),(1,1),(1,2),(1,3),(2,0),(2,1),(2,2),(2,3),(3,0),(3,1),(3,2),(3,3)]
def growC (h d : Nat) (l : List (Nat × Nat)) (W : List (Nat × Nat)) : List (Nat × Nat) := l.foldl (fun W m => addC (d + 1) W (putC h m.1 m.2)) W
def expandC (W : List (Nat × Nat)) (h d : Nat) : List (Nat × Nat) := growC h d pairs4 W
def okC (g : List Int) (c : Nat) : Bool := decide ((dec c).getD 0 0 = g.getD 0 0) && (decide ((dec c).getD 1 0 = g.getD 1 0) && decide ((dec c).getD 2 0 = g.getD 2 0))
def bfsC : Nat → List Int → List (Nat × Nat) → Nat → Option Nat
  | 0, _, _, _ => none
  | n + 1, g, W, i => match W[i]? with
    | none => none
    | some w => if okC g w.1 = true then some w.2 else bfsC n g (expandC W w.1 w.2) (i + 1)
def runC : Nat → List (Nat × Nat) → Nat → List (Nat × Nat)
  | 0, W, _ => W
  | n + 1, W, i => match W[i]? with
    | none => W
    | some w => runC n (expandC W w.1 w.2) (i + 1)
def findC (g : List Int) (l : List (Nat × Nat)) : Option Nat := (l.find? fun w => okC g w.1).map (·.2)
theorem add_pre (d : Nat) (W : List (Nat × Nat)) (m : Nat) : W <+: addC d W m := by
  unfold addC
  split
  · exact List.prefix_refl _
  · exact List.prefix_append _ _
theorem grow_pre (h d : Nat) : ∀ (l W : List (Nat × Nat)), W <+: growC h d l W
  | [], W => List.prefix_refl _
  | m :: l, W => (add_pre (d + 1) W (putC h m.1 m.2)).trans (grow_pre h d l _)
theorem run_pre : ∀ (n : Nat) (W : List (Nat × Nat)) (i : Nat), W <+: runC n W i
  | 0, W, _ => List.prefix_refl _
  | n + 1, W, i => by
    unfold runC
    cases W[i]? with
    | none => exact List.prefix_refl _
    | some w => exact (grow_pre w.1 w.2 pairs4 W).trans (run_pre n _ _)
theorem bfs_run (g : List Int) : ∀ (n : Nat) (W : List (Nat × Nat)) (i : Nat), i ≤ W.length → (runC n W i).length ≤ i + n → bfsC (n + 1) g W i = findC g ((runC n W i).drop i)
  | 0, W, i, hi, hl => by
    have e : i = W.length := by
      have : (runC 0 W i) = W := rfl
      rw [this] at hl
      omega
    subst e
    show bfsC 1 g W W.length = findC g (W.drop W.length)
    rw [List.drop_length, bfsC, List.getElem?_eq_none (Nat.le_refl _)]
    rfl
  | n + 1, W, i, hi, hl => by
    unfold bfsC runC at *
    cases e : W[i]? with
    | none =>
      have : W.length ≤ i := List.getElem?_eq_none_iff.mp e
      rw [List.drop_of_length_le this]
      rfl
    | some w =>
      rw [e] at hl
      dsimp only at hl ⊢
      have hlt := (List.getElem?_eq_some_iff.mp e).1
      have pre : W <+: runC n (expandC W w.1 w.2) (i + 1) := (grow_pre w.1 w.2 pairs4 W).trans (run_pre n _ _)
      obtain ⟨t, ht⟩ := pre
      have hF : (runC n (expandC W w.1 w.2) (i + 1))[i]? = some w := by
        rw [← ht, List.getElem?_append_left hlt, e]
      have hlt2 := (List.getElem?_eq_some_iff.mp hF).1
      have eD : (runC n (expandC W w.1 w.2) (i + 1)).drop i = w :: (runC n (expandC W w.1 w.2) (i + 1)).drop (i + 1) := by
        rw [List.drop_eq_getElem_cons hlt2, (List.getElem?_eq_some_iff.mp hF).2]
      rw [eD]
      have hle : i + 1 ≤ (expandC W w.1 w.2).length := by
        have := (grow_pre w.1 w.2 pairs4 W).length_le
        show i + 1 ≤ (growC w.1 w.2 pairs4 W).length
        omega
      have ih := bfs_run g n (expandC W w.1 w.2) (i + 1) hle (by omega)
      unfold findC
      rw [List.find?_cons]
      by_cases hk : okC g w.1 = true
      · rw [if_pos hk, hk]
        rfl
      · rw [if_neg hk, Bool.not_eq_true _ |>.mp hk, ih]
        rfl
/-! the same run with the known states in one number -/
def addM (d : Nat) (S : Nat × List (Nat × Nat)) (m : Nat) : Nat × List (Nat × Nat) := if Nat.testBit S.1 m = true then S else (S.1 ||| 2 ^ m, S.2 ++ [(m, d)])
def growM (h d : Nat) (l : List (Nat × Nat)) (S : Nat × List (Nat × Nat)) : Nat × List (Nat × Nat) := l.foldl (fun S m => addM (d + 1) S (putC h m.1 m.2)) S
def runM : Nat → Nat × List (Nat × Nat) → Nat → Nat × List (Nat × Nat)
  | 0, S, _ => S
  | n + 1, S, i => match S.2[i]? with
    | none => S
    | some w => runM n (growM w.1 w.2 pairs4 S) (i + 1)
def Bits (S : Nat × List (Nat × Nat)) : Prop := ∀ m, Nat.testBit S.1 m = memC m S.2
theorem memC_app (m : Nat) : ∀ (l : List (Nat × Nat)) (w : Nat × Nat), memC m (l ++ [w]) = (memC m l || Nat.beq w.1 m)
  | [], w => by simp [memC]
  | x :: l, w => by
    show (Nat.beq x.1 m || memC m (l ++ [w])) = ((Nat.beq x.1 m || memC m l) || Nat.beq w.1 m)
    rw [memC_app m l w, Bool.or_assoc]
theorem addM_eq {d : Nat} {S : Nat × List (Nat × Nat)} {m : Nat} (b : Bits S) : (addM d S m).2 = addC d S.2 m ∧ Bits (addM d S m) := by
  unfold addM addC
  rw [b m]
  by_cases h : memC m S.2 = true
  · rw [if_pos h, if_pos h]
    exact ⟨rfl, b⟩
  · rw [if_neg h, if_neg h]
    refine ⟨rfl, fun k => ?_⟩
    show Nat.testBit (S.1 ||| 2 ^ m) k = memC k (S.2 ++ [(m, d)])
    rw [Nat.testBit_or, b k, memC_app, Nat.testBit_two_pow]
    congr 1
    show decide (m = k) = Nat.beq m k
    by_cases q : m = k
    · subst q; simp
    · rw [decide_eq_false q]
      cases e : Nat.beq m k with
      | false => rfl
      | true => exact absurd (Nat.eq_of_beq_eq_true e) q
theorem growM_eq (h d : Nat) : ∀ (l : List (Nat × Nat)) (S : Nat × List (Nat × Nat)), Bits S → (growM h d l S).2 = growC h d l S.2 ∧ Bits (growM h d l S)
  | [], S, b => ⟨rfl, b⟩
  | m :: l, S, b => by
    obtain ⟨e, b'⟩ := addM_eq (d := d + 1) (m := putC h m.1 m.2) b
    obtain ⟨e2, b2⟩ := growM_eq h d l _ b'
    refine ⟨?_, b2⟩
    show (growM h d l (addM (d + 1) S (putC h m.1 m.2))).2 = growC h d l (addC (d + 1) S.2 (putC h m.1 m.2))
    rw [e2, e]
theorem runM_eq : ∀ (n : Nat) (S : Nat × List (Nat × Nat)) (i : Nat), Bits S → (runM n S i).2 = runC n S.2 i
  | 0, _, _, _ => rfl
  | n + 1, S, i, b => by
    unfold runM runC
    cases S.2[i]? with
    | none => rfl
    | some w =>
      obtain ⟨e, b'⟩ := growM_eq w.1 w.2 pairs4 S b
      dsimp only
      rw [runM_eq n _ _ b', e]
      rfl
def allC : List (Nat × Nat) := (runM 299 (2 ^ 228, [(228, 0)]) 0).2
theorem allC_eq : runC 299 [(228, 0)] 0 = allC := by
  refine (runM_eq 299 (2 ^ 228, [(228, 0)]) 0 fun m => ?_).symm
  show Nat.testBit (2 ^ 228) m = memC m [(228, 0)]
  rw [Nat.testBit_two_pow]
  show _ = (Nat.beq 228 m || false)
  rw [Bool.or_false]
  by_cases q : 228 = m
  · subst q; rfl
  · rw [decide_eq_false q]
    cases e : Nat.beq 228 m with
    | false => rfl
    | true => exact absurd (Nat.eq_of_beq_eq_true e) q
def goalOf (ps : List Pr) : List Int := ([0, 1, 2, 9] : List Int).map fun x => (look ps x).getD x
def litC : List (Nat × Nat) := [(228, 0), (229, 1), (230, 1), (231, 1), (224, 1), (232, 1), (236, 1), (196, 1), (212, 1), (244, 1), (36, 1), (100, 1), (164, 1), (233, 2), (237, 2), (213, 2), (245, 2), (101, 2), (165, 2), (234, 2),
  (238, 2), (214, 2), (246, 2), (166, 2), (102, 2), (239, 2), (235, 2), (247, 2), (215, 2), (103, 2), (167, 2), (226, 2), (227, 2), (192, 2), (240, 2), (32, 2), (160, 2), (200, 2), (248, 2), (40, 2),
  (168, 2), (204, 2), (252, 2), (44, 2), (172, 2), (197, 2), (199, 2), (4, 2), (68, 2), (208, 2), (220, 2), (20, 2), (84, 2), (52, 2), (116, 2), (37, 2), (38, 2), (96, 2), (104, 2), (132, 2), (148, 2),
  (217, 3), (249, 3), (105, 3), (169, 3), (221, 3), (253, 3), (109, 3), (173, 3), (85, 3), (117, 3), (149, 3), (250, 3), (170, 3), (254, 3), (174, 3), (218, 3), (222, 3), (150, 3), (86, 3), (182, 3),
  (118, 3), (106, 3), (255, 3), (175, 3), (251, 3), (171, 3), (119, 3), (223, 3), (87, 3), (111, 3), (107, 3), (183, 3), (151, 3), (194, 3), (242, 3), (162, 3), (34, 3), (243, 3), (195, 3), (35, 3),
  (163, 3), (0, 3), (48, 3), (128, 3), (202, 3), (203, 3), (8, 3), (136, 3), (56, 3), (184, 3), (42, 3), (207, 3), (12, 3), (60, 3), (47, 3), (46, 3), (140, 3), (188, 3), (193, 3), (205, 3), (69, 3),
  (5, 3), (71, 3), (7, 3), (64, 3), (209, 3), (211, 3), (16, 3), (80, 3), (28, 3), (92, 3), (21, 3), (53, 3), (55, 3), (112, 3), (124, 3), (41, 3), (33, 3), (22, 3), (6, 3), (98, 3), (97, 3), (72, 3),
  (88, 3), (133, 3), (134, 3), (144, 3), (152, 3), (219, 4), (89, 4), (153, 4), (121, 4), (185, 4), (93, 4), (125, 4), (110, 4), (157, 4), (189, 4), (186, 4), (190, 4), (154, 4), (90, 4), (158, 4), (94,
  4), (181, 4), (122, 4), (126, 4), (191, 4), (187, 4), (127, 4), (95, 4), (123, 4), (91, 4), (159, 4), (155, 4), (206, 4), (130, 4), (2, 4), (178, 4), (50, 4), (51, 4), (3, 4), (43, 4), (179, 4), (131,
  4), (138, 4), (10, 4), (139, 4), (11, 4), (58, 4), (59, 4), (176, 4), (15, 4), (63, 4), (62, 4), (14, 4), (143, 4), (142, 4), (241, 4), (65, 4), (1, 4), (77, 4), (13, 4), (79, 4), (67, 4), (23, 4),
  (81, 4), (17, 4), (19, 4), (83, 4), (31, 4), (29, 4), (76, 4), (61, 4), (49, 4), (115, 4), (113, 4), (25, 4), (9, 4), (161, 4), (26, 4), (18, 4), (70, 4), (66, 4), (82, 4), (74, 4), (73, 4), (24, 4),
  (129, 4), (137, 4), (145, 4), (146, 4)]
theorem allC_lit : allC = litC := by decide +kernel
theorem bfs_all (g : List Int) : bfsC 300 g [(228, 0)] 0 = findC g litC := by
  have h := bfs_run g 299 [(228, 0)] 0 (by simp) (by rw [allC_eq, allC_lit]; decide)
  rw [allC_eq, allC_lit] at h
  exact h
/-! all the small shuffles -/
def nine : List Pr := [(0,0),(0,1),(0,2),(1,0),(1,1),(1,2),(2,0),(2,1),(2,2)]
/-- the least number of moves, by what the three places are to hold -/
def tabL : List Nat := [2, 3, 3, 1, 2, 3, 2, 4, 3, 2, 3, 4, 1, 2, 2, 3, 3, 3, 1, 3, 2, 0, 1, 1, 1, 2, 2]
def three : List Int := [0, 1, 2]
def tabOf (a b c : Int) : Nat := tabL.getD (a.toNat + 3 * b.toNat + 9 * c.toNat) 0
theorem tab_ok : (three.all fun a => three.all fun b => three.all fun c => decide (findC [a, b, c, 9] litC = some (tabOf a b c))) = true := by decide +kernel
def chk (ps : List Pr) : Bool := decide (tabOf ((goalOf ps).getD 0 0) ((goalOf ps).getD 1 0) ((goalOf ps).getD 2 0) = (rule 9 ps).length)
def ap (ps : List Pr) : Bool := decide (keys ps).Nodup
theorem chk0 : chk [] = true := by decide +kernel
theorem chk1 : (nine.all fun p => chk [p]) = true := by decide +kernel
theorem chk2 : (nine.all fun p => nine.all fun q => !(ap [p, q]) || chk [p, q]) = true := by decide +kernel
theorem chk3 : (nine.all fun p => nine.all fun q => nine.all fun r => !(ap [p, q, r]) || chk [p, q, r]) = true := by decide +kernel
theorem mem_nine {p : Pr} (h1 : 0 ≤ p.1 ∧ p.1 < 3) (h2 : 0 ≤ p.2 ∧ p.2 < 3) : p ∈ nine := by
  obtain ⟨a, b⟩ := p
  have ha : a = 0 ∨ a = 1 ∨ a = 2 := by omega
  have hb : b = 0 ∨ b = 1 ∨ b = 2 := by omega
  rcases ha with rfl | rfl | rfl <;> rcases hb with rfl | rfl | rfl <;> decide
theorem chk_all {ps : List Pr} (nd : (keys ps).Nodup) (h1 : ∀ p ∈ ps, 0 ≤ p.1 ∧ p.1 < 3) (h2 : ∀ p ∈ ps, 0 ≤ p.2 ∧ p.2 < 3) : chk ps = true := by
  have hn : ∀ p ∈ ps, p ∈ nine := fun p hp => mem_nine (h1 p hp) (h2 p hp)
  have hap : ap ps = true := decide_eq_true nd
  match ps, nd, h1, hn, hap with
  | [], _, _, _, _ => exact chk0
  | [p], _, _, hn, _ => exact List.all_eq_true.mp chk1 p (hn p (by simp))
  | [p, q], _, _, hn, hap =>
    have h := List.all_eq_true.mp (List.all_eq_true.mp chk2 p (hn p (by simp))) q (hn q (by simp))
    rw [hap] at h
    exact h
  | [p, q, r], _, _, hn, hap =>
    have h := List.all_eq_true.mp (List.all_eq_true.mp (List.all_eq_true.mp chk3 p (hn p (by simp))) q (hn q (by simp))) r (hn r (by simp))
    rw [hap] at h
    exact h
  | p :: q :: r :: s :: l, nd, h1, _, _ =>
    exfalso
    have hs := sub_len (b := three) nd fun x hx => by
      obtain ⟨v, hv⟩ := of_keys hx
      have := h1 _ hv
      have : x = 0 ∨ x = 1 ∨ x = 2 := by omega
      rcases this with e | e | e <;> rw [e] <;> decide
    simp [keys, three] at hs
theorem goal_three {ps : List Pr} (nd : (keys ps).Nodup) (h2 : ∀ p ∈ ps, 0 ≤ p.2 ∧ p.2 < 3) {x : Int} (hx : x ∈ three) : (look ps x).getD x ∈ three := by
  cases e : look ps x with
  | none => exact hx
  | some v =>
    have := h2 _ ((look_some nd).mp e)
    have : v = 0 ∨ v = 1 ∨ v = 2 := by omega
    show v ∈ three
    rcases this with e | e | e <;> rw [e] <;> decide
/-- no shorter row is there, for a small shuffle -/
theorem small_ok {ps : List Pr} (nd : (keys ps).Nodup) (h1 : ∀ p ∈ ps, 0 ≤ p.1 ∧ p.1 < 3) (h2 : ∀ p ∈ ps, 0 ≤ p.2 ∧ p.2 < 3) : bfsC 300 (goalOf ps) [(228, 0)] 0 = some (rule 9 ps).length := by
  have hc : tabOf ((look ps 0).getD 0) ((look ps 1).getD 1) ((look ps 2).getD 2) = (rule 9 ps).length := of_decide_eq_true (chk_all nd h1 h2)
  have h9 : look ps 9 = none := look_none.mpr fun h => by
    obtain ⟨v, hv⟩ := of_keys h
    have := h1 _ hv
    omega
  have eg : goalOf ps = [(look ps 0).getD 0, (look ps 1).getD 1, (look ps 2).getD 2, 9] := by
    show [_, _, _, (look ps 9).getD 9] = _
    rw [h9]
    rfl
  rw [bfs_all, eg]
  have h := List.all_eq_true.mp (List.all_eq_true.mp (List.all_eq_true.mp tab_ok _ (goal_three nd h2 (x := 0) (by decide))) _ (goal_three nd h2 (x := 1) (by decide))) _ (goal_three nd h2 (x := 2) (by decide))
  rw [of_decide_eq_true h, hc]
end Mv

namespace Mv
set_option autoImplicit false
set_option maxRecDepth 1000000
set_option maxHeartbeats 4000000
theorem dec_put_all : ((List.range 256).all fun h => (List.range 4).all fun i => (List.range 4).all fun j => decide (dec (putC h i j) = (dec h).take i ++ ([(dec h).getD j 0] ++ (dec h).drop (i + 1))) && decide (putC h i j < 256)) = true := by decide +kernel
theorem dec_put {h i j : Nat} (hh : h < 256) (hi : i < 4) (hj : j < 4) : dec (putC h i j) = (dec h).take i ++ ([(dec h).getD j 0] ++ (dec h).drop (i + 1)) ∧ putC h i j < 256 := by
  have q := List.all_eq_true.mp (List.all_eq_true.mp (List.all_eq_true.mp dec_put_all h (List.mem_range.mpr hh)) i (List.mem_range.mpr hi)) j (List.mem_range.mpr hj)
  rw [Bool.and_eq_true, decide_eq_true_eq, decide_eq_true_eq] at q
  exact q
def ev (x : Int) : Nat := if x = 9 then 3 else x.toNat
def enc (l : List Int) : Nat := ev (l.getD 0 0) + 4 * ev (l.getD 1 0) + 16 * ev (l.getD 2 0) + 64 * ev (l.getD 3 0)
theorem enc_all : ((List.range 256).all fun c => decide (enc (dec c) = c)) = true := by decide +kernel
theorem dec_inj {a b : Nat} (ha : a < 256) (hb : b < 256) (h : dec a = dec b) : a = b := by
  have q1 := of_decide_eq_true (List.all_eq_true.mp enc_all a (List.mem_range.mpr ha))
  have q2 := of_decide_eq_true (List.all_eq_true.mp enc_all b (List.mem_range.mpr hb))
  rw [← q1, h, q2]
/-- the known states: none twice, below 256 -/
structure Known (W : List (Nat × Nat)) : Prop where
  nd : (W.map (·.1)).Nodup
  lt : ∀ w ∈ W, w.1 < 256
theorem memC_iff (m : Nat) : ∀ W : List (Nat × Nat), memC m W = true ↔ m ∈ W.map (·.1)
  | [] => by simp [memC]
  | w :: r => by
    show (Nat.beq w.1 m || memC m r) = true ↔ m ∈ w.1 :: r.map (·.1)
    rw [Bool.or_eq_true, memC_iff m r, List.mem_cons]
    refine or_congr ⟨fun e => (Nat.eq_of_beq_eq_true e).symm, fun e => by rw [e]; exact Nat.beq_refl _⟩ Iff.rfl
theorem Known.push {W : List (Nat × Nat)} {m d : Nat} (k : Known W) (hm : m < 256) (hn : ¬ memC m W = true) : Known (W ++ [(m, d)]) := by
  refine ⟨?_, fun w hw => ?_⟩
  · rw [List.map_append]
    refine List.nodup_append.mpr ⟨k.nd, by simp, fun a ha b hb e => ?_⟩
    have : b = m := by simpa using hb
    subst this; subst e
    exact hn ((memC_iff _ W).mpr ha)
  · rcases List.mem_append.mp hw with q | q
    · exact k.lt w q
    · rw [List.mem_singleton.mp q]; exact hm
theorem grow_take {h d k a b : Nat} {W : List (Nat × Nat)} (e : pairs4[k]? = some (a, b)) : growC h d (pairs4.take (k + 1)) W = addC (d + 1) (growC h d (pairs4.take k) W) (putC h a b) := by
  unfold growC
  rw [List.take_add_one, e, List.foldl_append]
  rfl
theorem pairs4_at {i j : Nat} (hi : i < 4) (hj : j < 4) : pairs4[4 * i + j]? = some (i, j) := by
  match i, hi, j, hj with
  | 0, _, 0, _ => rfl
  | 0, _, 1, _ => rfl
  | 0, _, 2, _ => rfl
  | 0, _, 3, _ => rfl
  | 1, _, 0, _ => rfl
  | 1, _, 1, _ => rfl
  | 1, _, 2, _ => rfl
  | 1, _, 3, _ => rfl
  | 2, _, 0, _ => rfl
  | 2, _, 1, _ => rfl
  | 2, _, 2, _ => rfl
  | 2, _, 3, _ => rfl
  | 3, _, 0, _ => rfl
  | 3, _, 1, _ => rfl
  | 3, _, 2, _ => rfl
  | 3, _, 3, _ => rfl
theorem add_len {d m : Nat} {W : List (Nat × Nat)} : (addC d W m).length ≤ W.length + 1 := by
  unfold addC
  split
  · omega
  · rw [List.length_append]; simp
end Mv

namespace Mv
set_option autoImplicit false
/-- the registers that play a part -/
def Part (sp : Int) (l : List Pr) (x : Int) : Prop := x = sp ∨ x ∈ keys l ∨ x ∈ reads l
theorem step_parts {sp : Int} {p : Pr} {r : List Pr} : Part sp (p :: r) (step sp (p :: r)).1.1 ∧ Part sp (p :: r) (step sp (p :: r)).1.2 ∧ ∀ x, Part sp (step sp (p :: r)).2 x → Part sp (p :: r) x := by
  generalize hl : p :: r = l
  have hne : l ≠ [] := by rw [← hl]; simp
  cases hf : free l with
  | cons q t =>
    rw [step_free hf]
    obtain ⟨h1, _⟩ := free_head hf
    refine ⟨.inr (.inl (mem_keys h1)), .inr (.inr (mem_reads h1)), fun x hx => ?_⟩
    rcases hx with e | e | e
    · exact .inl e
    · rw [keys_redir, keys_without, List.mem_filter] at e
      exact .inr (.inl e.1)
    · obtain ⟨k, hk⟩ := of_reads e
      obtain ⟨z, hz, ez⟩ := mem_redir.mp hk
      obtain ⟨hz, _⟩ := mem_without.mp hz
      rw [ez]
      split
      · exact .inr (.inl (mem_keys h1))
      · exact .inr (.inr (mem_reads hz))
  | nil =>
    subst hl
    rw [step_brk hf]
    refine ⟨.inl rfl, .inr (.inl List.mem_cons_self), fun x hx => ?_⟩
    rcases hx with e | e | e
    · exact .inl e
    · rw [keys_redir] at e
      exact .inr (.inl e)
    · obtain ⟨k, hk⟩ := of_reads e
      obtain ⟨z, hz, ez⟩ := mem_redir.mp hk
      rw [ez]
      split
      · exact .inl rfl
      · exact .inr (.inr (mem_reads hz))
theorem ruleGo_parts {sp : Int} : ∀ (n : Nat) (l : List Pr), ∀ m ∈ ruleGo n sp l, Part sp l m.1 ∧ Part sp l m.2
  | 0, _, m, h => by cases h
  | n + 1, [], m, h => by cases h
  | n + 1, p :: r, m, h => by
    obtain ⟨h1, h2, h3⟩ := step_parts (sp := sp) (p := p) (r := r)
    rcases List.mem_cons.mp h with e | e
    · rw [e]
      exact ⟨h1, h2⟩
    · obtain ⟨q1, q2⟩ := ruleGo_parts n _ m e
      exact ⟨h3 _ q1, h3 _ q2⟩
theorem part_nt {sp : Int} {l : List Pr} {x : Int} (h : Part sp (nt l) x) : Part sp l x := by
  have sub : ∀ {p}, p ∈ nt l → p ∈ l := fun hp => (List.mem_filter.mp hp).1
  rcases h with e | e | e
  · exact .inl e
  · obtain ⟨v, hv⟩ := of_keys e
    exact .inr (.inl (mem_keys (sub hv)))
  · obtain ⟨v, hv⟩ := of_reads e
    exact .inr (.inr (mem_reads (sub hv)))
theorem rule_parts {sp : Int} {l : List Pr} : ∀ m ∈ rule sp l, Part sp l m.1 ∧ Part sp l m.2 := fun m h => by
  obtain ⟨h1, h2⟩ := ruleGo_parts _ _ m h
  exact ⟨part_nt h1, part_nt h2⟩
theorem rings_parts {l : List Pr} (nd : (keys l).Nodup) {r : List Int} (hr : r ∈ ringsOf l) : r.length ≤ l.length + 1 ∧ ∀ y ∈ r, y ∈ keys l ∨ y ∈ reads l := by
  obtain ⟨c, hc, rfl⟩ := List.mem_map.mp hr
  refine ⟨ring_len nd c, fun y hy => ?_⟩
  rcases Reach.last ((mem_ring nd).mp hy) with e | ⟨w, _, e⟩
  · rw [← e]
    exact .inl ((skeys_perm l).mem_iff.mp (List.mem_filter.mp hc).1)
  · exact .inr (mem_reads e)
theorem rings_few (l : List Pr) : (ringsOf l).length ≤ l.length := by
  rw [ringsOf_len]
  unfold count
  refine Nat.le_trans (List.length_filter_le _ _) ?_
  unfold keys
  rw [List.length_map]
  exact Nat.le_refl _
theorem nt_len (l : List Pr) : (nt l).length ≤ l.length := List.length_filter_le _ _
theorem rule_few {sp : Int} {l : List Pr} (g : Good sp (nt l)) : (rule sp l).length ≤ 2 * l.length := by
  have h1 := rule_rings g
  have h2 := rings_few (nt l)
  have h3 := nt_len l
  omega
end Mv

namespace Mv
set_option autoImplicit false
set_option maxRecDepth 1000000
set_option maxHeartbeats 4000000
def shiftBy (b : Int) (ps : List Pr) : List Pr := ps.map fun p => (p.1 + b, p.2 + b)
theorem keys_shift (b : Int) (ps : List Pr) : keys (shiftBy b ps) = (keys ps).map (· + b) := by
  unfold keys shiftBy
  rw [List.map_map, List.map_map]
  rfl
theorem nodup_shift {b : Int} {ps : List Pr} (nd : (keys ps).Nodup) : (keys (shiftBy b ps)).Nodup := by
  rw [keys_shift, List.nodup_iff_pairwise_ne, List.pairwise_map]
  exact (List.nodup_iff_pairwise_ne.mp nd).imp fun h e => h (by omega)
def firstN (n : Nat) : List Int := (List.range n).map fun i => ((i : Nat) : Int)
theorem len_within {M : Nat} {ps : List Pr} (nd : (keys ps).Nodup) (h : ∀ p ∈ ps, 0 ≤ p.1 ∧ p.1 < M) : ps.length ≤ M := by
  have q := sub_len (b := firstN M) nd fun x hx => by
    obtain ⟨v, hv⟩ := of_keys hx
    obtain ⟨h1, h2⟩ := h _ hv
    refine List.mem_map.mpr ⟨x.toNat, List.mem_range.mpr ?_, ?_⟩
    · have h1 : 0 ≤ x := h1
      have h2 : x < M := h2
      omega
    · have h1 : 0 ≤ x := h1
      omega
  unfold keys firstN at q
  rw [List.length_map, List.length_map, List.length_range] at q
  exact q
def wheel : List Pr := (List.range 40).map fun i => (((i : Nat) : Int), (((i : Nat) : Int) + 1) % 40)
theorem wheel_nt : nt wheel = wheel := by decide +kernel
theorem wheel_skeys : skeys wheel = keys wheel := (skeys_eq (List.Perm.refl _) (by decide +kernel)).symm
theorem wheel_ring : ((keys wheel).filter (isRing wheel)).map (ring wheel) = [firstN 40] := by decide +kernel
theorem wheel_rings : ringsOf (nt wheel) = [firstN 40] := by
  rw [wheel_nt]
  unfold ringsOf
  rw [wheel_skeys, wheel_ring]
theorem wheel_nd : (keys wheel).Nodup := by decide +kernel
theorem wheel_good : Good 99 (nt wheel) := by
  rw [wheel_nt]
  exact ⟨wheel_nd, by decide +kernel, by decide +kernel⟩
theorem wheel_rule : (rule 99 wheel).length = 41 := by
  rw [rule_rings wheel_good, wheel_rings, wheel_nt]
  rfl
theorem rule_a : rule 9 [(0, 1), (1, 0), (2, 0)] = [(2, 0), (0, 1), (1, 2)] := by decide +kernel
theorem rule_b : rule 9 [(0, 1), (1, 0)] = [(9, 0), (0, 1), (1, 9)] := by decide +kernel
theorem rule_c : rule 0 [] = [] := by decide +kernel
theorem rule_d : rule 0 [(5, 5)] = [] := by decide +kernel
/-- the registers outside ten in a row -/
def outside (b : Int) (p : Nat) : Bool := !(decide (b ≤ (p : Int)) && decide ((p : Int) < b + 10))
def freeL (b : Int) (j : Nat) : List Int := ((List.range j).filter (outside b)).map fun p => ((p : Nat) : Int)
theorem freeL_t {b : Int} {j : Nat} (e : outside b j = true) : freeL b (j + 1) = freeL b j ++ [((j : Nat) : Int)] := by
  unfold freeL
  rw [List.range_succ, List.filter_append, List.map_append]
  simp [e]
theorem freeL_f {b : Int} {j : Nat} (e : outside b j = false) : freeL b (j + 1) = freeL b j := by
  unfold freeL
  rw [List.range_succ, List.filter_append]
  simp [e]
theorem mem_freeL {b x : Int} (h : x ∈ freeL b 100) : 0 ≤ x ∧ x ≤ 99 ∧ ¬ (b ≤ x ∧ x < b + 10) := by
  obtain ⟨p, hp, rfl⟩ := List.mem_map.mp h
  obtain ⟨h1, h2⟩ := List.mem_filter.mp hp
  have h3 := List.mem_range.mp h1
  refine ⟨by omega, by omega, fun q => ?_⟩
  unfold outside at h2
  rw [decide_eq_true q.1, decide_eq_true q.2] at h2
  cases h2
theorem freeL_pos {b : Int} (h0 : 0 ≤ b) (h1 : b ≤ 90) : 1 ≤ (freeL b 100).length := by
  have some : ∃ p, p ∈ freeL b 100 := by
    by_cases e : b = 0
    · subst e
      exact ⟨99, List.mem_map.mpr ⟨99, List.mem_filter.mpr ⟨List.mem_range.mpr (by decide), by decide⟩, rfl⟩⟩
    · refine ⟨0, List.mem_map.mpr ⟨0, List.mem_filter.mpr ⟨List.mem_range.mpr (by decide), ?_⟩, rfl⟩⟩
      unfold outside
      rw [decide_eq_false (show ¬ (b ≤ ((0 : Nat) : Int)) by omega)]
      rfl
  obtain ⟨p, hp⟩ := some
  exact List.length_pos_of_mem hp
theorem freeL_len (b : Int) (j : Nat) : (freeL b j).length ≤ j := by
  unfold freeL
  rw [List.length_map]
  exact Nat.le_trans (List.length_filter_le _ _) (by rw [List.length_range]; exact Nat.le_refl _)
end Mv

/-! Words of this claim over the hand layer: lists of pairs, comprehensions that leave what stood. -/
namespace Ck
set_option linter.all false
set_option maxRecDepth 100000
set_option maxHeartbeats 4000000
open PySem L2 Mv
def top (i : Nat) : Stmt := PySem.Challenge.pw_cellbills_k50_whole_moves_at_once.main.body.getD i (.Pass ⟨0, 0, 0, 0⟩)

/-! ### heaps -/
theorem same_upd {H : Hp} {p : Addr} {o : HO} (h : H p = none) : Same H (upd H p o) := fun b x e => by
  rw [upd_ne (ne_of_none e h)]
  exact e
theorem Same.sqt {K : PySem.W.Frag} {H H' : Hp} {a : Addr} {xs : List V} (e : Same H H') (h : SqT K H a xs) : SqT K H' a xs := by
  rcases h with (h | ⟨o, h⟩) | h
  · exact .inl (.inl (e _ _ h))
  · exact .inl (.inr ⟨o, e _ _ h⟩)
  · exact .inr h
/-- tuples of two ints -/
def TupsAt (H : Hp) : List Addr → List Pr → Prop := PySem.Paired fun p q => H p = some (.tup [.int q.1, .int q.2])
theorem TupsAt.same {H H' : Hp} (s : Same H H') : ∀ {as : List Addr} {ps : List Pr}, TupsAt H as ps → TupsAt H' as ps
  | _, _, .nil => .nil
  | _, _, .cons h t => .cons (s _ _ h) (TupsAt.same s t)
theorem TupsAt.upd {H : Hp} {D : Addr} {o : HO} {xs : List V} (hD : H D = some (.lst xs)) : ∀ {as : List Addr} {ps : List Pr}, TupsAt H as ps → TupsAt (upd H D o) as ps
  | _, _, .nil => .nil
  | _, _, .cons h t => .cons (by rw [upd_ne (ne_of h hD (by intro z; cases z))]; exact h) (TupsAt.upd hD t)
theorem TupsAt.len {H : Hp} {as : List Addr} {ps : List Pr} (h : TupsAt H as ps) : as.length = ps.length := PySem.Paired.length h
theorem TupsAt.get {H : Hp} : ∀ {as : List Addr} {ps : List Pr} {i : Nat} {x : V}, TupsAt H as ps → (as.map V.ref)[i]? = some x → ∃ t p, x = .ref t ∧ ps[i]? = some p ∧ H t = some (.tup [.int p.1, .int p.2])
  | _, _, i, x, .nil, e => by simp at e
  | _, _, 0, x, .cons h t, e => by simp at e; exact ⟨_, _, e.symm, rfl, h⟩
  | _, _, i + 1, x, .cons h t, e => by
    obtain ⟨a, b, c, d, f⟩ := TupsAt.get (i := i) (x := x) t (by simpa using e)
    exact ⟨a, b, c, by simpa using d, f⟩
theorem TupsAt.app {H : Hp} {t : Addr} {p : Pr} (ht : H t = some (.tup [.int p.1, .int p.2])) : ∀ {as : List Addr} {ps : List Pr}, TupsAt H as ps → TupsAt H (as ++ [t]) (ps ++ [p])
  | _, _, .nil => .cons ht .nil
  | _, _, .cons h r => .cons h (TupsAt.app ht r)
/-- a list of tuples of two ints -/
def PL (H : Hp) (a : Addr) (ps : List Pr) : Prop := ∃ as, H a = some (.lst (as.map V.ref)) ∧ TupsAt H as ps
theorem PL.same {H H' : Hp} {a : Addr} {ps : List Pr} (s : Same H H') (h : PL H a ps) : PL H' a ps :=
  let ⟨as, h1, h2⟩ := h
  ⟨as, s _ _ h1, h2.same s⟩
theorem PL.nil {H : Hp} {a : Addr} (h : H a = some (.lst [])) : PL H a [] := ⟨[], h, .nil⟩
/-- a list of ints -/
def IL (H : Hp) (a : Addr) (ns : List Int) : Prop := H a = some (.lst (ns.map V.int))
theorem IL.same {H H' : Hp} {a : Addr} {ns : List Int} (s : Same H H') (h : IL H a ns) : IL H' a ns := s _ _ h

/-! ### data -/
def prD (p : Pr) : PyData := .tuple [.int p.1, .int p.2]
def plD (ps : List Pr) : PyData := .list (ps.map prD)
def ilD (ns : List Int) : PyData := .list (ns.map PyData.int)
theorem TupsAt.dp {K : PySem.W.Frag} {H : Hp} : ∀ {as : List Addr} {ps : List Pr}, TupsAt H as ps → DpAll K H (as.map V.ref) (ps.map prD)
  | _, _, .nil => .nil
  | _, _, .cons h t => .cons (.tup (.inl (.inl h)) (.cons (.int _) (.cons (.int _) .nil))) (TupsAt.dp t)
theorem PL.dp {K : PySem.W.Frag} {H : Hp} {a : Addr} {ps : List Pr} (h : PL H a ps) : Dp K H (.ref a) (plD ps) :=
  let ⟨_, h1, h2⟩ := h
  .lst (.inl (.inl h1)) h2.dp
theorem ints_dp {K : PySem.W.Frag} {H : Hp} : ∀ ns : List Int, DpAll K H (ns.map V.int) (ns.map PyData.int)
  | [] => .nil
  | _ :: r => .cons (.int _) (ints_dp r)
theorem IL.dp {K : PySem.W.Frag} {H : Hp} {a : Addr} {ns : List Int} (h : IL H a ns) : Dp K H (.ref a) (ilD ns) := .lst (.inl (.inl h)) (ints_dp ns)
theorem lst_dp {K : PySem.W.Frag} {H : Hp} {a : Addr} (h : H a = some (.lst [])) : Dp K H (.ref a) (.list []) := .lst (.inl (.inl h)) .nil
theorem PL.sq {K : PySem.W.Frag} {H : Hp} {a : Addr} {ps : List Pr} (h : PL H a ps) : ∃ as, SqL K H a (as.map V.ref) ∧ TupsAt H as ps :=
  let ⟨as, h1, h2⟩ := h
  ⟨as, .inl (.inl h1), h2⟩
theorem canLay_pl : ∀ ps : List Pr, PyData.canLayAll0 (ps.map prD) = true
  | [] => rfl
  | p :: r => by
    show (PyData.canLay0 (prD p) && PyData.canLayAll0 (r.map prD)) = true
    rw [canLay_pl r]; rfl
theorem depth_pl : ∀ ps : List Pr, PyData.depthAll (ps.map prD) ≤ 2
  | [] => by decide
  | p :: r => by
    have := depth_pl r
    have e : PyData.depthAll ((p :: r).map prD) = max (PyData.depth (prD p)) (PyData.depthAll (r.map prD)) := by simp [PyData.depthAll]
    have e2 : PyData.depth (prD p) ≤ 2 := by simp [prD, PyData.depth, PyData.depthAll]
    omega
theorem shaped_pl (ps : List Pr) : SeqAt.shaped (plD ps) = true := by
  unfold SeqAt.shaped
  rw [Bool.and_eq_true]
  refine ⟨canLay_pl ps, decide_eq_true ?_⟩
  have := depth_pl ps
  show PyData.depth (.list (ps.map prD)) ≤ 64
  simp only [PyData.depth]
  omega
theorem canLay_il : ∀ ns : List Int, PyData.canLayAll0 (ns.map PyData.int) = true
  | [] => rfl
  | p :: r => by
    show (PyData.canLay0 (.int p) && PyData.canLayAll0 (r.map PyData.int)) = true
    rw [canLay_il r]; rfl
theorem depth_il : ∀ ns : List Int, PyData.depthAll (ns.map PyData.int) ≤ 2
  | [] => by decide
  | p :: r => by
    have := depth_il r
    have e : PyData.depthAll ((p :: r).map PyData.int) = max (PyData.depth (PyData.int p)) (PyData.depthAll (r.map PyData.int)) := by simp [PyData.depthAll]
    have e2 : PyData.depth (PyData.int p) ≤ 2 := by simp [PyData.depth]
    omega
theorem shaped_il (ns : List Int) : SeqAt.shaped (ilD ns) = true := by
  unfold SeqAt.shaped
  rw [Bool.and_eq_true]
  refine ⟨canLay_il ns, decide_eq_true ?_⟩
  have := depth_il ns
  show PyData.depth (.list (ns.map PyData.int)) ≤ 64
  simp only [PyData.depth]
  omega
theorem shaped_nil : SeqAt.shaped (.list []) = true := by decide
theorem eqv_pl (ps : List Pr) : PyData.eqv (plD ps) (plD ps) = true := SeqAt.eqv_refl _ (SeqAt.canLay_of_shaped (shaped_pl ps))
theorem eqv_pl_nil (ps : List Pr) : PyData.eqv (plD ps) (.list []) = ps.isEmpty := by
  cases ps <;> rfl
theorem eqv_il_nil (ns : List Int) : PyData.eqv (ilD ns) (.list []) = ns.isEmpty := by
  cases ns <;> rfl

/-! ### comprehensions that only read -/
/-- the new list at D holds ints, F i behind i turns -/
def CI (H1 : Hp) (D : Addr) (F : Nat → List Int) (i : Nat) (H : Hp) : Prop := Same H1 H ∧ IL H D (F i) ∧ (F i).length ≤ i
/-- .. tuples of two ints -/
def CP (H1 : Hp) (D : Addr) (F : Nat → List Pr) (i : Nat) (H : Hp) : Prop := Same H1 H ∧ PL H D (F i) ∧ (F i).length ≤ i
section
variable {K : PySem.W.Frag} {H1 H H4 : Hp} {D : Addr} {i : Nat}
theorem CI.start {F : Nat → List Int} (hD : H1 D = none) (h : F 0 = []) : CI H1 D F 0 (upd H1 D (.lst [])) := ⟨same_upd hD, by unfold IL; rw [h, upd_same]; rfl, by rw [h]; exact Nat.le_refl _⟩
theorem CI.push {F : Nat → List Int} {k : Int} (c : CI H1 D F i H) (hD : H1 D = none) (s : Same H H4) (hi : i < sizeLine) (e : F (i + 1) = F i ++ [k]) :
    ∃ acc, H4 D = some (.lst acc) ∧ acc.length < sizeLine ∧ CI H1 D F (i + 1) (upd H4 D (.lst (acc ++ [.int k]))) := by
  obtain ⟨s1, l, z⟩ := c
  refine ⟨_, s _ _ l, by rw [List.length_map]; omega, fun b o q => ?_, ?_, by rw [e, List.length_append, List.length_singleton]; omega⟩
  · rw [upd_ne (ne_of_none q hD)]
    exact s _ _ (s1 _ _ q)
  · unfold IL
    rw [upd_same, e, List.map_append]
    rfl
theorem CI.skip {F : Nat → List Int} (c : CI H1 D F i H) (s : Same H H4) (e : F (i + 1) = F i) : CI H1 D F (i + 1) H4 := by
  obtain ⟨s1, l, z⟩ := c
  exact ⟨s1.trans s, by rw [e]; exact l.same s, by rw [e]; omega⟩
theorem CP.start {F : Nat → List Pr} (hD : H1 D = none) (h : F 0 = []) : CP H1 D F 0 (upd H1 D (.lst [])) := ⟨same_upd hD, by rw [h]; exact PL.nil upd_same, by rw [h]; exact Nat.le_refl _⟩
theorem CP.push {F : Nat → List Pr} {p : Pr} {t : Addr} (c : CP H1 D F i H) (hD : H1 D = none) (s : Same H H4) (hi : i < sizeLine) (ht : H4 t = some (.tup [.int p.1, .int p.2])) (e : F (i + 1) = F i ++ [p]) :
    ∃ acc, H4 D = some (.lst acc) ∧ acc.length < sizeLine ∧ CP H1 D F (i + 1) (upd H4 D (.lst (acc ++ [.ref t]))) := by
  obtain ⟨s1, ⟨as, l, w⟩, z⟩ := c
  have lD := s _ _ l
  refine ⟨_, lD, by rw [List.length_map, w.len]; omega, fun b o q => ?_, ⟨as ++ [t], ?_, ?_⟩, by rw [e, List.length_append, List.length_singleton]; omega⟩
  · rw [upd_ne (ne_of_none q hD)]
    exact s _ _ (s1 _ _ q)
  · rw [upd_same, List.map_append]
    rfl
  · rw [e]
    exact TupsAt.upd lD (TupsAt.app ht (w.same s))
theorem CP.skip {F : Nat → List Pr} (c : CP H1 D F i H) (s : Same H H4) (e : F (i + 1) = F i) : CP H1 D F (i + 1) H4 := by
  obtain ⟨s1, l, z⟩ := c
  exact ⟨s1.trans s, by rw [e]; exact l.same s, by rw [e]; omega⟩
theorem CI.sql {F : Nat → List Int} {a : Addr} {xs : List V} (c : CI H1 D F i H) (h : SqL K H1 a xs) : SqL K H a xs := c.1.seq h
theorem CP.sql {F : Nat → List Pr} {a : Addr} {xs : List V} (c : CP H1 D F i H) (h : SqL K H1 a xs) : SqL K H a xs := c.1.seq h
end
/-! ### lists by their turns -/
theorem take_succ_map {α β : Type} (f : α → β) {l : List α} {i : Nat} {x : α} (h : l[i]? = some x) : (l.take (i + 1)).map f = (l.take i).map f ++ [f x] := by
  rw [List.take_add_one, h, List.map_append]
  rfl
theorem take_succ_filter_t {α : Type} (f : α → Bool) {l : List α} {i : Nat} {x : α} (h : l[i]? = some x) (hx : f x = true) : (l.take (i + 1)).filter f = (l.take i).filter f ++ [x] := by
  rw [List.take_add_one, h, List.filter_append]
  simp [hx]
theorem take_succ_filter_f {α : Type} (f : α → Bool) {l : List α} {i : Nat} {x : α} (h : l[i]? = some x) (hx : f x = false) : (l.take (i + 1)).filter f = (l.take i).filter f := by
  rw [List.take_add_one, h, List.filter_append]
  simp [hx]
theorem atI0 {x y : V} : atI [x, y] 0 = some x := atI_nat (j := 0) rfl
theorem atI1 {x y : V} : atI [x, y] 1 = some y := atI_nat (j := 1) rfl
end Ck

namespace Ck
set_option linter.all false
set_option maxRecDepth 100000
set_option maxHeartbeats 4000000
open PySem L2 Mv
section
variable {K : PySem.W.Frag} {σ : St} {H : Hp} {Q : VK} {tl : TE} {a : Addr} {ps : List Pr} {ns : List Int} {g : TG} {tt : TT} {te : TE} {vs : List Nat}
/-! ### comprehensions over a list of pairs, over a list of ints -/
theorem rd_lcPP (hs : tl σ H fun x H1 => ∃ b, x = .ref b ∧ (∃ xs, SqL K H1 b xs) ∧ ∀ D, H1 D = none → ∃ W : Nat → Nat → Hp → Prop, (∃ m, W 0 m (upd H1 D (.lst []))) ∧ ∀ i m H, W i m H →
      ((Itl K b).stop i H ∧ Q (.ref D) H) ∨ ((Itl K b).go i H ∧ ∃ Nx : Hp → Prop, (∀ H', Nx H' → ∃ m', m' < m ∧ W (i + 1) m' H') ∧ ∀ x H', (Itl K b).yld i H x H' → g x (wipe σ vs) H' fun σ2 H2 => wipe σ2 vs = wipe σ vs ∧ tt σ2 H2 fun b H3 =>
        if b = true then te σ2 H3 fun y H4 => ∃ acc, H4 D = some (.lst acc) ∧ acc.length < sizeLine ∧ Nx (upd H4 D (.lst (acc ++ [y]))) else Nx H3)) : tLc (iList K tl) g tt te vs σ H Q := hs
/-- pairs to pairs -/
theorem rd_pp {s : Nat} (hs : σ[s]? = some (some (.ref a))) (hP : PL H a ps) (hz : ps.length ≤ 1000) (F : Nat → List Pr) (F0 : F 0 = [])
    (turn : ∀ i t p D H', ps[i]? = some p → H' t = some (.tup [.int p.1, .int p.2]) → H D = none → Same H H' → CP H D F i H' → g (.ref t) (wipe σ vs) H' fun σ2 H2 => wipe σ2 vs = wipe σ vs ∧ tt σ2 H2 fun b H3 =>
      if b = true then te σ2 H3 fun y H4 => ∃ acc, H4 D = some (.lst acc) ∧ acc.length < sizeLine ∧ CP H D F (i + 1) (upd H4 D (.lst (acc ++ [y]))) else CP H D F (i + 1) H3)
    (fin : ∀ D H', H D = none → Same H H' → PL H' D (F ps.length) → Q (.ref D) H') : tLc (iList K (tVar s)) g tt te vs σ H Q := by
  obtain ⟨as, hSq, hT⟩ := hP.sq (K := K)
  refine ⟨.ref a, hs, a, rfl, ⟨_, hSq⟩, fun D hD => lc_list (K := K) (a := a) (xs := as.map V.ref) (CP H D F) (CP.start hD F0) (fun i H _ c => c.sql hSq) (fun i x H' hx c => ?_) (fun H' c => ?_)⟩
  · obtain ⟨t, p, rfl, hp, ht⟩ := hT.get hx
    exact turn i t p D H' hp (c.1 _ _ ht) hD c.1 c
  · rw [List.length_map, hT.len] at c
    exact fin D H' hD c.1 c.2.1
/-- pairs to ints -/
theorem rd_pi {s : Nat} (hs : σ[s]? = some (some (.ref a))) (hP : PL H a ps) (hz : ps.length ≤ 1000) (F : Nat → List Int) (F0 : F 0 = [])
    (turn : ∀ i t p D H', ps[i]? = some p → H' t = some (.tup [.int p.1, .int p.2]) → H D = none → Same H H' → CI H D F i H' → g (.ref t) (wipe σ vs) H' fun σ2 H2 => wipe σ2 vs = wipe σ vs ∧ tt σ2 H2 fun b H3 =>
      if b = true then te σ2 H3 fun y H4 => ∃ acc, H4 D = some (.lst acc) ∧ acc.length < sizeLine ∧ CI H D F (i + 1) (upd H4 D (.lst (acc ++ [y]))) else CI H D F (i + 1) H3)
    (fin : ∀ D H', H D = none → Same H H' → IL H' D (F ps.length) → Q (.ref D) H') : tLc (iList K (tVar s)) g tt te vs σ H Q := by
  obtain ⟨as, hSq, hT⟩ := hP.sq (K := K)
  refine ⟨.ref a, hs, a, rfl, ⟨_, hSq⟩, fun D hD => lc_list (K := K) (a := a) (xs := as.map V.ref) (CI H D F) (CI.start hD F0) (fun i H _ c => c.sql hSq) (fun i x H' hx c => ?_) (fun H' c => ?_)⟩
  · obtain ⟨t, p, rfl, hp, ht⟩ := hT.get hx
    exact turn i t p D H' hp (c.1 _ _ ht) hD c.1 c
  · rw [List.length_map, hT.len] at c
    exact fin D H' hD c.1 c.2.1
theorem ints_get {i : Nat} {x : V} (h : (ns.map V.int)[i]? = some x) : ∃ k, x = .int k ∧ ns[i]? = some k := by
  rw [List.getElem?_map] at h
  cases e : ns[i]? with
  | none => rw [e] at h; cases h
  | some k => rw [e] at h; exact ⟨k, (Option.some.inj h).symm, rfl⟩
/-- ints to ints -/
theorem rd_ii {s : Nat} (hs : σ[s]? = some (some (.ref a))) (hP : IL H a ns) (hz : ns.length ≤ 1000) (F : Nat → List Int) (F0 : F 0 = [])
    (turn : ∀ i k D H', ns[i]? = some k → H D = none → Same H H' → CI H D F i H' → g (.int k) (wipe σ vs) H' fun σ2 H2 => wipe σ2 vs = wipe σ vs ∧ tt σ2 H2 fun b H3 =>
      if b = true then te σ2 H3 fun y H4 => ∃ acc, H4 D = some (.lst acc) ∧ acc.length < sizeLine ∧ CI H D F (i + 1) (upd H4 D (.lst (acc ++ [y]))) else CI H D F (i + 1) H3)
    (fin : ∀ D H', H D = none → Same H H' → IL H' D (F ns.length) → Q (.ref D) H') : tLc (iList K (tVar s)) g tt te vs σ H Q := by
  have hSq : SqL K H a (ns.map V.int) := .inl (.inl hP)
  refine ⟨.ref a, hs, a, rfl, ⟨_, hSq⟩, fun D hD => lc_list (K := K) (a := a) (xs := ns.map V.int) (CI H D F) (CI.start hD F0) (fun i H _ c => c.sql hSq) (fun i x H' hx c => ?_) (fun H' c => ?_)⟩
  · obtain ⟨k, rfl, hk⟩ := ints_get hx
    exact turn i k D H' hk hD c.1 c
  · rw [List.length_map] at c
    exact fin D H' hD c.1 c.2.1
/-- ints to pairs -/
theorem rd_ip {s : Nat} (hs : σ[s]? = some (some (.ref a))) (hP : IL H a ns) (hz : ns.length ≤ 1000) (F : Nat → List Pr) (F0 : F 0 = [])
    (turn : ∀ i k D H', ns[i]? = some k → H D = none → Same H H' → CP H D F i H' → g (.int k) (wipe σ vs) H' fun σ2 H2 => wipe σ2 vs = wipe σ vs ∧ tt σ2 H2 fun b H3 =>
      if b = true then te σ2 H3 fun y H4 => ∃ acc, H4 D = some (.lst acc) ∧ acc.length < sizeLine ∧ CP H D F (i + 1) (upd H4 D (.lst (acc ++ [y]))) else CP H D F (i + 1) H3)
    (fin : ∀ D H', H D = none → Same H H' → PL H' D (F ns.length) → Q (.ref D) H') : tLc (iList K (tVar s)) g tt te vs σ H Q := by
  have hSq : SqL K H a (ns.map V.int) := .inl (.inl hP)
  refine ⟨.ref a, hs, a, rfl, ⟨_, hSq⟩, fun D hD => lc_list (K := K) (a := a) (xs := ns.map V.int) (CP H D F) (CP.start hD F0) (fun i H _ c => c.sql hSq) (fun i x H' hx c => ?_) (fun H' c => ?_)⟩
  · obtain ⟨k, rfl, hk⟩ := ints_get hx
    exact turn i k D H' hk hD c.1 c
  · rw [List.length_map] at c
    exact fin D H' hD c.1 c.2.1
theorem lt_line {i n : Nat} (h : i < n) (hz : n ≤ 1000) : i < sizeLine := Nat.lt_of_lt_of_le h (Nat.le_trans hz (by decide))
theorem idx_lt {α : Type} {l : List α} {i : Nat} {x : α} (h : l[i]? = some x) : i < l.length := (List.getElem?_eq_some_iff.mp h).1

/-! ### the comprehensions that stand more than once -/
theorem wipe_set (j : Nat) (v : V) (hj : j < σ.length) : wipe ((wipe σ [j]).set j (some v)) [j] = wipe σ [j] := by
  show (((σ.set j none).set j (some v)).set j none) = σ.set j none
  rw [List.set_set, List.set_set]
theorem wipe_get (j : Nat) (v : V) (hj : j < σ.length) : ((wipe σ [j]).set j (some v))[j]? = some (some v) := by
  show (((σ.set j none).set j (some v)))[j]? = _
  rw [List.getElem?_set_self (by rw [List.length_set]; exact hj)]
theorem nt_take_t {i : Nat} {p : Pr} (h : ps[i]? = some p) (hp : ¬ p.1 = p.2) : nt (ps.take (i + 1)) = nt (ps.take i) ++ [p] := take_succ_filter_t _ h (by simp [hp])
theorem nt_take_f {i : Nat} {p : Pr} (h : ps[i]? = some p) (hp : p.1 = p.2) : nt (ps.take (i + 1)) = nt (ps.take i) := take_succ_filter_f _ h (by simp [hp])
/-- [item for item in xs if item[0] != item[1]] -/
theorem rd_nt {s j : Nat} (hs : σ[s]? = some (some (.ref a))) (hP : PL H a ps) (hz : ps.length ≤ 1000) (hj : j < σ.length)
    (fin : ∀ D H', H D = none → Same H H' → PL H' D (nt ps) → Q (.ref D) H') :
    tLc (iList K (tVar s)) (gName j) (tTest (tOp rNe (tOp (rIxT K) (tVar j) (tC (.int 0))) (tOp (rIxT K) (tVar j) (tC (.int 1))))) (tVar j) [j] σ H Q := by
  refine rd_pp hs hP hz (fun i => nt (ps.take i)) rfl (fun i t p D H' hp ht hD sm c => ?_) fun D H' hD sm hl => fin D H' hD sm (by rwa [List.take_length] at hl)
  refine ⟨wipe_set j _ hj, .ref t, wipe_get j _ hj, t, _, 0, _, rfl, rfl, .inl (.inl ht), atI0, .ref t, wipe_get j _ hj, t, _, 1, _, rfl, rfl, .inl (.inl ht), atI1, rfl, _, rfl, ?_⟩
  by_cases e : p.1 = p.2
  · rw [e, decide_eq_true rfl]
    exact iteF (c.skip (Same.refl _) (nt_take_f hp e))
  · have : decide (V.int p.1 = V.int p.2) = false := decide_eq_false fun q => e (V.int.inj q)
    rw [this]
    exact iteT ⟨.ref t, wipe_get j _ hj, c.push hD (Same.refl _) (lt_line (idx_lt hp) hz) ht (nt_take_t hp e)⟩
/-- [item[k] for item in xs], k = 0, 1 -/
theorem rd_col {s j : Nat} {k : Int} (f : Pr → Int) (hf : ∀ p : Pr, atI [V.int p.1, V.int p.2] k = some (V.int (f p))) (hs : σ[s]? = some (some (.ref a))) (hP : PL H a ps) (hz : ps.length ≤ 1000) (hj : j < σ.length)
    (fin : ∀ D H', H D = none → Same H H' → IL H' D (ps.map f) → Q (.ref D) H') :
    tLc (iList K (tVar s)) (gName j) tYes (tOp (rIxT K) (tVar j) (tC (.int k))) [j] σ H Q := by
  refine rd_pi hs hP hz (fun i => (ps.take i).map f) rfl (fun i t p D H' hp ht hD sm c => ?_) fun D H' hD sm hl => fin D H' hD sm (by rwa [List.take_length] at hl)
  exact ⟨wipe_set j _ hj, .ref t, wipe_get j _ hj, t, _, k, _, rfl, rfl, .inl (.inl ht), hf p, c.push hD (Same.refl _) (lt_line (idx_lt hp) hz) (take_succ_map f hp)⟩
theorem inV_ints (k : Int) : ∀ ns : List Int, inV (.int k) (ns.map V.int) = decide (k ∈ ns)
  | [] => rfl
  | n :: r => by
    have ih := inV_ints k r
    show (eqV (.int n) (.int k) || inV (.int k) (r.map V.int)) = _
    rw [ih]
    show ((n == k) || _) = _
    by_cases e : n = k
    · simp [e]
    · have : ¬ k = n := fun q => e q.symm
      simp [e, this]
theorem flat_ints : ∀ ns : List Int, (ns.map V.int).all flatV = true
  | [] => rfl
  | n :: r => flat_ints r
theorem wipe_keep {j k : Nat} {v w : V} (hjk : j ≠ k) (h : σ[k]? = some (some w)) : ((wipe σ [j]).set j (some v))[k]? = some (some w) := by
  show (((σ.set j none).set j (some v)))[k]? = _
  rw [List.getElem?_set_ne hjk, List.getElem?_set_ne hjk, h]
/-- [item for item in left if item[0] not in read] -/
theorem rd_free {s j r : Nat} {rd : Addr} (hs : σ[s]? = some (some (.ref a))) (hr : σ[r]? = some (some (.ref rd))) (hP : PL H a ps) (hR : IL H rd (reads ps)) (hz : ps.length ≤ 1000) (hj : j < σ.length) (hjr : j ≠ r)
    (fin : ∀ D H', H D = none → Same H H' → PL H' D (free ps) → Q (.ref D) H') :
    tLc (iList K (tVar s)) (gName j) (tTest (tOp (rIn K true) (tOp (rIxT K) (tVar j) (tC (.int 0))) (tVar r))) (tVar j) [j] σ H Q := by
  refine rd_pp hs hP hz (fun i => (ps.take i).filter fun p => !decide (p.1 ∈ reads ps)) rfl (fun i t p D H' hp ht hD sm c => ?_) fun D H' hD sm hl => fin D H' hD sm (by rwa [List.take_length] at hl)
  refine ⟨wipe_set j _ hj, .ref t, wipe_get j _ hj, t, _, 0, _, rfl, rfl, .inl (.inl ht), atI0, .ref rd, wipe_keep hjr hr, rd, _, rfl, .inl (.inl (.inl (sm _ _ hR))), rfl, flat_ints _, _, rfl, ?_⟩
  rw [inV_ints]
  by_cases e : p.1 ∈ reads ps
  · rw [decide_eq_true e]
    exact iteF (c.skip (Same.refl _) (take_succ_filter_f _ hp (by simp [e])))
  · rw [decide_eq_false e]
    exact iteT ⟨.ref t, wipe_get j _ hj, c.push hD (Same.refl _) (lt_line (idx_lt hp) hz) ht (take_succ_filter_t _ hp (by simp [e]))⟩
theorem PL.ne {H : Hp} {l f : Addr} {ps : List Pr} (h : PL H l ps) (n : H f = none) : l ≠ f := by
  obtain ⟨_, h, _⟩ := h
  exact ne_of_none h n
/-! ### a list that grows -/
/-- all but f is as it was -/
def SameB (f : Addr) (H H' : Hp) : Prop := ∀ b o, b ≠ f → H b = some o → H' b = some o
theorem SameB.tups {f : Addr} {H H' : Hp} {xs : List V} (s : SameB f H H') (hf : H f = some (.lst xs)) : ∀ {as : List Addr} {ps : List Pr}, TupsAt H as ps → TupsAt H' as ps
  | _, _, .nil => .nil
  | _, _, .cons h t => .cons (s _ _ (ne_of h hf (by intro z; cases z)) h) (SameB.tups s hf t)
theorem SameB.pl {f l : Addr} {H H' : Hp} {xs : List V} {ps : List Pr} (s : SameB f H H') (hf : H f = some (.lst xs)) (hn : l ≠ f) (h : PL H l ps) : PL H' l ps :=
  let ⟨as, h1, h2⟩ := h
  ⟨as, s _ _ hn h1, s.tups hf h2⟩
theorem SameB.fresh {f : Addr} {H0 H H' : Hp} (s : SameB f H H') (h : Same H0 H) (n : H0 f = none) : Same H0 H' := fun b o e => s b o (ne_of_none e n) (h b o e)
theorem SameB.upd {f : Addr} {H : Hp} {o : HO} : SameB f H (upd H f o) := fun b u n e => by rw [upd_ne n]; exact e
/-- found.append((x, y)) -/
theorem rd_app {D : Ends} {i : Nat} {fo : Addr} {u v : Int} {tx ty : TE} {acc : List Pr} (hi : σ[i]? = some (some (.ref fo))) (hf : PL H fo acc) (hz : acc.length ≤ 3000)
    (hx : ∀ (H : Hp) (Q : VK), Q (.int u) H → tx σ H Q) (hy : ∀ (H : Hp) (Q : VK), Q (.int v) H → ty σ H Q)
    (fin : ∀ H', SameB fo H H' → PL H' fo (acc ++ [(u, v)]) → D.nx σ H') :
    tDrop (tBM K "list" rAppend (tVar i) (tCons (tTup (tCons tx (tCons ty tNil))) tNil)) D σ H := by
  obtain ⟨bs, lb, tb⟩ := hf
  refine ⟨.ref fo, hi, .inl ⟨rfl, _, .inl (.inl lb)⟩, hx _ _ (hy _ _ ⟨by show 2 ≤ sizeLine; decide, fun t nt => ?_⟩)⟩
  have lb' : (L2.upd H t (.tup [.int u, .int v])) fo = some (.lst (bs.map V.ref)) := same_upd nt _ _ lb
  refine ⟨fo, _, _, rfl, rfl, lb', by rw [List.length_map, tb.len]; exact Nat.lt_of_le_of_lt hz (by decide), fin _ (fun b o n e => ?_) ⟨bs ++ [t], ?_, ?_⟩⟩
  · rw [upd_ne n]
    exact same_upd nt _ _ e
  · rw [upd_same, List.map_append]
    rfl
  · exact TupsAt.upd lb' (TupsAt.app (p := (u, v)) upd_same (tb.same (same_upd nt)))
end
theorem rd_op {r : R2} {ta tb : TE} {σ : St} {H : Hp} {Q : VK} (h : ta σ H fun x H1 => tb σ H1 fun y H2 => r x y H2 Q) : tOp r ta tb σ H Q := h
theorem rd_ret {ta : TE} {D : Ends} {σ : St} {H : Hp} (h : ta σ H D.rt) : tRet ta D σ H := h
theorem rd_lenSet {K : PySem.W.Frag} {ta : TE} {σ : St} {H : Hp} {Q : VK} (h : ta σ H fun x H1 => ∃ (l : Addr) (ns : List Int), x = V.ref l ∧ SqL K H1 l (ns.map V.int) ∧ ns.length < 64 ∧ ns.Nodup ∧ Q (.int ns.length) H1) : tLenSetI K ta σ H Q := h
theorem rd_next {D : Ends} {σ : St} {H : Hp} (h : D.nx σ H) : tNext D σ H := h
theorem rd_asg {te : TE} {i : Nat} {D : Ends} {σ : St} {H : Hp} (h : te σ H fun x H1 => D.nx (σ.set i (some x)) H1) : tAsg te (gName i) D σ H := h
theorem rd_seq {t u : TS} {D : Ends} {σ : St} {H : Hp} (h : t { D with nx := fun σ H => u D σ H } σ H) : tSeq t u D σ H := h
theorem redir_t {l : List Pr} {a b : Int} {i : Nat} {p : Pr} (h : l[i]? = some p) : redir a b (l.take (i + 1)) = redir a b (l.take i) ++ [(p.1, if p.2 = a then b else p.2)] := take_succ_map _ h
theorem without_t {l : List Pr} {t : Int} {i : Nat} {p : Pr} (h : l[i]? = some p) (hp : p.1 ≠ t) : without t (l.take (i + 1)) = without t (l.take i) ++ [p] := take_succ_filter_t _ h (by simp [hp])
theorem without_f {l : List Pr} {t : Int} {i : Nat} {p : Pr} (h : l[i]? = some p) (hp : p.1 = t) : without t (l.take (i + 1)) = without t (l.take i) := take_succ_filter_f _ h (by simp [hp])
theorem redir_app {a b : Int} {l m : List Pr} : redir a b (l ++ m) = redir a b l ++ redir a b m := List.map_append ..
end Ck

namespace Ck
set_option linter.all false
set_option maxRecDepth 100000
set_option maxHeartbeats 4000000
open PySem L2 Mv
abbrev sMovesBy : Stmt := top 10
def nMovesBy : List Str := ["shuffle", "spare", "left", "found", "read", "free", "target", "source", "item", "one", "other"]
theorem scMovesBy : FnScope nMovesBy ["shuffle", "spare"] (defScope sMovesBy) := ⟨rfl, rfl, rfl, by decide +kernel, rfl, by decide +kernel, by decide +kernel⟩
def spMovesBy : Sp := fun vs H Q _ => ∃ (a : Addr) (ps : List Pr) (sp : Int), vs = [.ref a, .int sp] ∧ PL H a ps ∧ ps.length ≤ 1000 ∧ Good sp (nt ps) ∧
  ∀ (H' : Hp) (p : Addr), Same H H' → H p = none → PL H' p (rule sp ps) → Q (.ref p) H'
variable {P : Program} {w : World} {K : PySem.W.Frag} {mg : Str → Option Value} {base : Heap}
theorem ok_movesBy {f : Addr} {fd : FuncData} (F : Fun K "moves_by" "moves_by" sMovesBy f fd) : FnOk P w K mg base CX0 1 f fd ["shuffle", "spare"] spMovesBy := by
  refine F.ok scMovesBy (fun vs H Q E h => ?_) (fun cdv A outer s H vs Q E hr h => ?_)
  · obtain ⟨a, ps, sp, rfl, _⟩ := h
    rfl
  · obtain ⟨a, ps, sp, rfl, hP, hz, hg, q⟩ := h
    refine ⟨_, pss_cons (ps_par (i := 2) (j := 3) rfl scMovesBy.nd rfl rfl (by decide) rfl rfl (pa_cons
        (pe_lc (own := [("item", 8)]) (g := gName 8) rfl scMovesBy.nd (pi_list (pv 0)) (blkOk_by (own := [("item", 8)]) (N := nMovesBy) (sc := defScope sMovesBy) (by decide +kernel)) (fun _ _ _ _ _ => pg_name (i := 8) scMovesBy.nd rfl (Or.inl rfl))
          (fun _ _ _ _ _ => pts_one (pt_cmpR op_ne (pe_ix (r := rIxT K) ix_tup (pv 8) pe_int (fun _ _ => rfl)) (pe_ix (r := rIxT K) ix_tup (pv 8) pe_int (fun _ _ => rfl)) (nomark _))) (fun _ _ _ _ _ => pv 8))
        (pa_cons (pe_lst pa_nil) pa_nil)) (by rfl))
      (pss_cons (ps_while PassesOwn.never (pt_cmpR (op_neD hr.units) (pv 2) (pe_lst pa_nil) (nomark _))
        (pss_cons (ps_set (i := 4) scMovesBy.nd rfl (Or.inr rfl)
          (pe_lc (own := [("item", 8)]) (g := gName 8) rfl scMovesBy.nd (pi_list (pv 2)) (blkOk_by (own := [("item", 8)]) (N := nMovesBy) (sc := defScope sMovesBy) (by decide +kernel)) (fun _ _ _ _ _ => pg_name (i := 8) scMovesBy.nd rfl (Or.inl rfl))
          (fun _ _ _ _ _ => pts_nil) (fun _ _ _ _ _ => pe_ix (r := rIxT K) ix_tup (pv 8) pe_int (fun _ _ => rfl))))
        (pss_cons (ps_setLc (i := 5) (own := [("item", 8)]) (g := gName 8) rfl scMovesBy.nd rfl rfl (sw_true rfl rfl rfl (by decide +kernel)) (pi_list (pv 2)) (blkOk_by (own := [("item", 8)]) (N := nMovesBy) (sc := defScope sMovesBy) (by decide +kernel)) (fun _ _ _ _ _ => pg_name (i := 8) scMovesBy.nd rfl (Or.inl rfl))
          (fun _ _ _ _ _ => pts_one (pt_cmpR (r := rIn K true) op_notIn_seq (pe_ix (r := rIxT K) ix_tup (pv 8) pe_int (fun _ _ => rfl)) (pv 4) (by rfl))) (fun _ _ _ _ _ => pv 8))
        (pss_one (ps_if (pt_cmpR (op_neD hr.units) (pv 5) (pe_lst pa_nil) (nomark _))
          (pss_cons (ps_asg (pe_ix (r := rIxL K) ix_list (pv 5) pe_int (fun _ _ => rfl)) (pg_tup rfl (pgs_cons (pg_name (i := 6) scMovesBy.nd rfl (Or.inr rfl)) (pgs_cons (pg_name (i := 7) scMovesBy.nd rfl (Or.inr rfl)) pgs_nil))))
          (pss_cons (ps_expr (pe_bm PySem.F.plainAttrs_list PySem.F.slot_list_append PySem.F.type_list_append mt_append (pv 3) (pa_cons (pe_tup (pa_cons (pv 6) (pa_cons (pv 7) pa_nil))) pa_nil)))
          (pss_one (ps_setLc (i := 2) (own := [("one", 9), ("other", 10)]) (g := gTup K 2 (gCons (gName 9) (gCons (gName 10) gNil))) rfl scMovesBy.nd rfl rfl (sw_true rfl rfl rfl (by decide +kernel)) (pi_list (pv 2)) (blkOk_by (own := [("one", 9), ("other", 10)]) (N := nMovesBy) (sc := defScope sMovesBy) (by decide +kernel))
            (fun _ _ _ _ _ => pg_tup rfl (pgs_cons (pg_name (i := 9) scMovesBy.nd rfl (Or.inl rfl)) (pgs_cons (pg_name (i := 10) scMovesBy.nd rfl (Or.inl rfl)) pgs_nil)))
            (fun _ _ _ _ _ => pts_one (pt_cmpR op_ne (pv 9) (pv 6) (nomark _)))
            (fun _ _ _ _ _ => pe_tup (pa_cons (pv 9) (pa_cons (pe_ifExp (pt_cmpR op_eq (pv 10) (pv 7) (nomark _)) (pv 6) (pv 10)) pa_nil)))))))
          (pss_cons (ps_set (i := 6) scMovesBy.nd rfl (Or.inr rfl) (pe_ix (r := rIxT K) ix_tup (pe_ix (r := rIxL K) ix_list (pv 2) pe_int (fun _ _ => rfl)) pe_int (fun _ _ => rfl)))
          (pss_cons (ps_expr (pe_bm PySem.F.plainAttrs_list PySem.F.slot_list_append PySem.F.type_list_append mt_append (pv 3) (pa_cons (pe_tup (pa_cons (pv 1) (pa_cons (pv 6) pa_nil))) pa_nil)))
          (pss_one (ps_setLc (i := 2) (own := [("one", 9), ("other", 10)]) (g := gTup K 2 (gCons (gName 9) (gCons (gName 10) gNil))) rfl scMovesBy.nd rfl rfl (sw_true rfl rfl rfl (by decide +kernel)) (pi_list (pv 2)) (blkOk_by (own := [("one", 9), ("other", 10)]) (N := nMovesBy) (sc := defScope sMovesBy) (by decide +kernel))
            (fun _ _ _ _ _ => pg_tup rfl (pgs_cons (pg_name (i := 9) scMovesBy.nd rfl (Or.inl rfl)) (pgs_cons (pg_name (i := 10) scMovesBy.nd rfl (Or.inl rfl)) pgs_nil)))
            (fun _ _ _ _ _ => pts_nil)
            (fun _ _ _ _ _ => pe_tup (pa_cons (pv 9) (pa_cons (pe_ifExp (pt_cmpR op_eq (pv 10) (pv 6) (nomark _)) (pv 1) (pv 10)) pa_nil))))))))))))
      (pss_one (ps_ret (pv 3)))), ?_⟩
    unfold tSeq tPar tCons tAsg
    refine rd_nt (s := 0) rfl hP hz (by show 8 < 11; decide) fun l H1 nl s1 p1 => ⟨Nat.zero_le _, fun fo nf => ⟨_, _, rfl, ?_⟩⟩
    -- while left != []
    let W : Nat → St → Hp → Prop := fun n σ Hc => ∃ (l fo : Addr) (left acc : List Pr) (y4 y5 y6 y7 y8 y9 y10 : Option V), σ = [some (.ref a), some (.int sp), some (.ref l), some (.ref fo), y4, y5, y6, y7, y8, y9, y10] ∧
      Same H Hc ∧ H fo = none ∧ l ≠ fo ∧ PL Hc l left ∧ PL Hc fo acc ∧ acc ++ ruleGo n sp left = rule sp ps ∧ mu left ≤ n ∧ Good sp left ∧ left.length ≤ 1000 ∧ acc.length + n ≤ 3000
    refine ⟨W, ⟨2 * (nt ps).length + 1, l, fo, nt ps, [], _, _, _, _, _, _, _, rfl, s1.trans (same_upd nf), s1.free nf, p1.ne nf, p1.same (same_upd nf), PL.nil upd_same, rfl, ?_, hg, ?_, ?_⟩, ?_⟩
    · unfold mu; split <;> omega
    · exact Nat.le_trans (List.length_filter_le _ _) hz
    · have := Nat.le_trans (List.length_filter_le (fun p : Pr => !decide (p.1 = p.2)) ps) hz
      show 0 + (2 * (List.filter (fun p : Pr => !decide (p.1 = p.2)) ps).length + 1) ≤ 3000
      omega
    · rintro n σ Hc ⟨l, fo, left, acc, y4, y5, y6, y7, y8, y9, y10, rfl, sm, nfo, nlf, pl, pf, eR, hmu, g, hlz, haz⟩
      refine ⟨.ref l, rfl, Nat.zero_le _, fun e ne => ⟨_, _, (pl.same (same_upd ne)).dp, lst_dp upd_same, shaped_pl _, shaped_nil, _, rfl, ?_⟩⟩
      rw [eqv_pl_nil]
      cases left with
      | nil =>
        refine iteF ⟨.ref fo, rfl, ?_⟩
        have e0 : acc = rule sp ps := by
          rw [← eR]
          cases n <;> simp [ruleGo]
        rw [e0] at pf
        exact q _ fo (sm.trans (same_upd ne)) nfo (pf.same (same_upd ne))
      | cons p0 r0 =>
        refine iteT ?_
        have s1 : Same Hc (upd Hc e (.lst [])) := same_upd ne
        have c8 : ∀ {σ : St}, σ.length = 11 → 8 < σ.length := fun h => by omega
        -- read, free
        refine ⟨fun σ' H' => ∃ m, m < n ∧ W m σ' H', fun σ' H' h => h, ?_⟩
        refine rd_col (s := 2) (fun p => p.2) (fun p => atI1) rfl (pl.same s1) hlz (c8 rfl) fun rd H2 nrd s2 hrd => ?_
        dsimp only [gName]
        refine rd_free (s := 2) (r := 4) rfl rfl ((pl.same s1).same s2) hrd hlz (c8 rfl) (by decide) fun fr H3 nfr s3 hfr => ?_
        have sm3 : Same Hc H3 := (s1.trans s2).trans s3
        refine ⟨.ref fr, rfl, Nat.zero_le _, fun e2 ne2 => ⟨_, _, (hfr.same (same_upd ne2)).dp, lst_dp upd_same, shaped_pl _, shaped_nil, _, rfl, ?_⟩⟩
        rw [eqv_pl_nil]
        have sm4 : Same Hc (upd H3 e2 (.lst [])) := sm3.trans (same_upd ne2)
        have hfr4 : PL (upd H3 e2 (.lst [])) fr (free (p0 :: r0)) := hfr.same (same_upd ne2)
        obtain ⟨g', hmu'⟩ := step_good g
        obtain ⟨m, rfl⟩ : ∃ m, n = m + 1 := ⟨n - 1, by omega⟩
        have eR' : (acc ++ [(step sp (p0 :: r0)).1]) ++ ruleGo m sp (step sp (p0 :: r0)).2 = rule sp ps := by
          rw [← eR, List.append_assoc]
          rfl
        generalize upd H3 e2 (.lst []) = H4 at sm4 hfr4 ⊢
        cases hf : free (p0 :: r0) with
        | cons p u =>
          refine iteT ?_
          rw [hf] at hfr4
          obtain ⟨as4, l4, t4⟩ := hfr4
          cases t4 with
          | cons ht4 t4r =>
            rename_i t0 as5
            refine ⟨.ref fr, rfl, fr, _, 0, _, rfl, rfl, .inl (.inl l4), atI_nat (j := 0) rfl, t0, _, rfl, .inl (.inl ht4), rfl, _, _, rfl, _, _, rfl, rfl, ?_⟩
            have pf4 := pf.same sm4
            show tDrop (tBM K "list" rAppend (tVar 3) (tCons (tTup (tCons (tVar 6) (tCons (tVar 7) tNil))) tNil)) _ _ _
            refine rd_app (i := 3) rfl pf4 (by omega) (fun H Q h => ⟨.int p.1, rfl, h⟩) (fun H Q h => ⟨.int p.2, rfl, h⟩) fun H5 sb pf5 => ?_
            obtain ⟨bs, lb, _⟩ := pf4
            have sm5 : Same H H5 := sb.fresh (sm.trans sm4) nfo
            have pl5 : PL H5 l (p0 :: r0) := sb.pl lb nlf (pl.same sm4)
            obtain ⟨cs, lc, _⟩ := id pf5
            dsimp only
            refine rd_pp (s := 2) rfl pl5 hlz (fun i => redir p.2 p.1 (without p.1 ((p0 :: r0).take i))) rfl (fun i t p' D H' hp ht hD sm6 c => ?_) fun D H' hD sm6 hl => ?_
            · refine ⟨t, _, rfl, .inl (.inl ht), rfl, _, _, rfl, _, _, rfl, rfl, rfl, .int p'.1, rfl, .int p.1, rfl, rfl, _, rfl, ?_⟩
              by_cases e : p'.1 = p.1
              · rw [e, decide_eq_true rfl]
                exact iteF (c.skip (Same.refl _) (by rw [without_f hp e]))
              · rw [decide_eq_false fun z => e (V.int.inj z)]
                refine iteT ⟨.int p'.1, rfl, .int p'.2, rfl, .int p.2, rfl, rfl, _, rfl, ?_⟩
                by_cases e2 : p'.2 = p.2
                · rw [e2, decide_eq_true rfl]
                  exact iteT ⟨.int p.1, rfl, by show 2 ≤ sizeLine; decide, fun t' nt' => c.push hD (same_upd nt') (lt_line (idx_lt hp) hlz) (p := (p'.1, p.1)) upd_same (by rw [without_t hp e, redir_app]; show _ ++ [(p'.1, if p'.2 = p.2 then p.1 else p'.2)] = _; rw [if_pos e2])⟩
                · rw [decide_eq_false fun z => e2 (V.int.inj z)]
                  exact iteF ⟨.int p'.2, rfl, by show 2 ≤ sizeLine; decide, fun t' nt' => c.push hD (same_upd nt') (lt_line (idx_lt hp) hlz) (p := (p'.1, p'.2)) upd_same (by rw [without_t hp e, redir_app]; show _ ++ [(p'.1, if p'.2 = p.2 then p.1 else p'.2)] = _; rw [if_neg e2])⟩
            · rw [List.take_length] at hl
              rw [step_free hf] at eR' g' hmu'
              exact ⟨m, Nat.lt_succ_self m, D, fo, _, _, _, _, _, _, _, _, _, rfl, sm5.trans sm6, nfo, fun z => ne_of_none lc hD z.symm, hl, pf5.same sm6, eR', Nat.le_of_lt_succ (Nat.lt_of_lt_of_le hmu' hmu), g',
                by rw [len_redir]; exact Nat.le_trans (List.length_filter_le _ _) hlz, by rw [List.length_append]; simp only [List.length_singleton]; omega⟩
        | nil =>
          refine iteF ?_
          obtain ⟨ts, ll, tl⟩ := id (pl.same sm4)
          cases tl with
          | cons ht4 t4r =>
            rename_i t0 as5
            refine ⟨.ref l, rfl, l, _, 0, _, rfl, rfl, .inl (.inl ll), atI_nat (j := 0) rfl, t0, _, 0, _, rfl, rfl, .inl (.inl ht4), atI0, ?_⟩
            have pf4 := pf.same sm4
            show tDrop (tBM K "list" rAppend (tVar 3) (tCons (tTup (tCons (tVar 1) (tCons (tVar 6) tNil))) tNil)) _ _ _
            refine rd_app (i := 3) rfl pf4 (by omega) (fun H Q h => ⟨.int sp, rfl, h⟩) (fun H Q h => ⟨.int p0.1, rfl, h⟩) fun H5 sb pf5 => ?_
            obtain ⟨bs, lb, _⟩ := pf4
            have sm5 : Same H H5 := sb.fresh (sm.trans sm4) nfo
            have pl5 : PL H5 l (p0 :: r0) := sb.pl lb nlf (pl.same sm4)
            obtain ⟨cs, lc, _⟩ := id pf5
            dsimp only
            refine rd_pp (s := 2) rfl pl5 hlz (fun i => redir p0.1 sp ((p0 :: r0).take i)) rfl (fun i t p' D H' hp ht hD sm6 c => ?_) fun D H' hD sm6 hl => ?_
            · refine ⟨t, _, rfl, .inl (.inl ht), rfl, _, _, rfl, _, _, rfl, rfl, rfl, .int p'.1, rfl, .int p'.2, rfl, .int p0.1, rfl, rfl, _, rfl, ?_⟩
              by_cases e2 : p'.2 = p0.1
              · rw [e2, decide_eq_true rfl]
                exact iteT ⟨.int sp, rfl, by show 2 ≤ sizeLine; decide, fun t' nt' => c.push hD (same_upd nt') (lt_line (idx_lt hp) hlz) (p := (p'.1, sp)) upd_same (by rw [redir_t hp, if_pos e2])⟩
              · rw [decide_eq_false fun z => e2 (V.int.inj z)]
                exact iteF ⟨.int p'.2, rfl, by show 2 ≤ sizeLine; decide, fun t' nt' => c.push hD (same_upd nt') (lt_line (idx_lt hp) hlz) (p := (p'.1, p'.2)) upd_same (by rw [redir_t hp, if_neg e2])⟩
            · rw [List.take_length] at hl
              rw [step_brk hf] at eR' g' hmu'
              exact ⟨m, Nat.lt_succ_self m, D, fo, _, _, _, _, _, _, _, _, _, rfl, sm5.trans sm6, nfo, fun z => ne_of_none lc hD z.symm, hl, pf5.same sm6, eR', Nat.le_of_lt_succ (Nat.lt_of_lt_of_le hmu' hmu), g',
                by rw [len_redir]; exact hlz, by rw [List.length_append]; simp only [List.length_singleton]; omega⟩
end Ck

namespace Ck
set_option linter.all false
set_option maxRecDepth 100000
set_option maxHeartbeats 4000000
open PySem L2 Mv
abbrev sLRule : Stmt := top 24
def nLRule : List Str := ["_law_shuffle_here", "_law_spare", "_law_left", "_law_found", "_law_read", "_law_free", "_law_one", "_law_other", "_law_pair"]
theorem scLRule : FnScope nLRule ["_law_shuffle_here", "_law_spare"] (defScope sLRule) := ⟨rfl, rfl, rfl, by decide +kernel, rfl, by decide +kernel, by decide +kernel⟩
def spLRule : Sp := fun vs H Q _ => ∃ (a : Addr) (ps : List Pr) (sp : Int), vs = [.ref a, .int sp] ∧ PL H a ps ∧ ps.length ≤ 1000 ∧ Good sp (nt ps) ∧
  ∀ (H' : Hp) (p : Addr), Same H H' → H p = none → PL H' p (rule sp ps) → Q (.ref p) H'
variable {P : Program} {w : World} {K : PySem.W.Frag} {mg : Str → Option Value} {base : Heap}
theorem ok_lRule {f : Addr} {fd : FuncData} (F : Fun K "_law_rule" "_law_rule" sLRule f fd) : FnOk P w K mg base CX0 1 f fd ["_law_shuffle_here", "_law_spare"] spLRule := by
  refine F.ok scLRule (fun vs H Q E h => ?_) (fun cdv A outer s H vs Q E hr h => ?_)
  · obtain ⟨a, ps, sp, rfl, _⟩ := h
    rfl
  · obtain ⟨a, ps, sp, rfl, hP, hz, hg, q⟩ := h
    refine ⟨_, pss_cons (ps_par (i := 2) (j := 3) rfl scLRule.nd rfl rfl (by decide) rfl rfl (pa_cons
        (pe_lc (own := [("_law_pair", 8)]) (g := gName 8) rfl scLRule.nd (pi_list (pv 0)) (blkOk_by (own := [("_law_pair", 8)]) (N := nLRule) (sc := defScope sLRule) (by decide +kernel)) (fun _ _ _ _ _ => pg_name (i := 8) scLRule.nd rfl (Or.inl rfl))
          (fun _ _ _ _ _ => pts_one (pt_cmpR op_ne (pe_ix (r := rIxT K) ix_tup (pv 8) pe_int (fun _ _ => rfl)) (pe_ix (r := rIxT K) ix_tup (pv 8) pe_int (fun _ _ => rfl)) (nomark _))) (fun _ _ _ _ _ => pv 8))
        (pa_cons (pe_lst pa_nil) pa_nil)) (by rfl))
      (pss_cons (ps_while PassesOwn.never (pt_cmpR (r := rNeD K) (op_neD hr.units) (pv 2) (pe_lst pa_nil) (nomark _))
        (pss_cons (ps_set (i := 4) scLRule.nd rfl (Or.inr rfl)
          (pe_lc (own := [("_law_pair", 8)]) (g := gName 8) rfl scLRule.nd (pi_list (pv 2)) (blkOk_by (own := [("_law_pair", 8)]) (N := nLRule) (sc := defScope sLRule) (by decide +kernel)) (fun _ _ _ _ _ => pg_name (i := 8) scLRule.nd rfl (Or.inl rfl))
          (fun _ _ _ _ _ => pts_nil) (fun _ _ _ _ _ => pe_ix (r := rIxT K) ix_tup (pv 8) pe_int (fun _ _ => rfl))))
        (pss_cons (ps_set (i := 5) scLRule.nd rfl (Or.inr rfl)
          (pe_lc (own := [("_law_pair", 8)]) (g := gName 8) rfl scLRule.nd (pi_list (pv 2)) (blkOk_by (own := [("_law_pair", 8)]) (N := nLRule) (sc := defScope sLRule) (by decide +kernel)) (fun _ _ _ _ _ => pg_name (i := 8) scLRule.nd rfl (Or.inl rfl))
          (fun _ _ _ _ _ => pts_one (pt_cmpR (r := rIn K true) op_notIn_seq (pe_ix (r := rIxT K) ix_tup (pv 8) pe_int (fun _ _ => rfl)) (pv 4) (by rfl))) (fun _ _ _ _ _ => pv 8)))
        (pss_cons (ps_asg (pe_ifExp (pt_cmpR (r := rNeD K) (op_neD hr.units) (pv 5) (pe_lst pa_nil) (nomark _)) (pe_ix (r := rIxL K) ix_list (pv 5) pe_int (fun _ _ => rfl))
            (pe_tup (pa_cons (pv 1) (pa_cons (pe_ix (r := rIxT K) ix_tup (pe_ix (r := rIxL K) ix_list (pv 2) pe_int (fun _ _ => rfl)) pe_int (fun _ _ => rfl)) pa_nil))))
            (pg_tup rfl (pgs_cons (pg_name (i := 6) scLRule.nd rfl (Or.inr rfl)) (pgs_cons (pg_name (i := 7) scLRule.nd rfl (Or.inr rfl)) pgs_nil))))
        (pss_cons (ps_expr (pe_bm PySem.F.plainAttrs_list PySem.F.slot_list_append PySem.F.type_list_append mt_append (pv 3) (pa_cons (pe_tup (pa_cons (pv 6) (pa_cons (pv 7) pa_nil))) pa_nil)))
        (pss_one (ps_setLc (i := 2) (own := [("_law_pair", 8)]) (g := gName 8) rfl scLRule.nd rfl rfl (sw_true rfl rfl rfl (by decide +kernel)) (pi_list (pv 2)) (blkOk_by (own := [("_law_pair", 8)]) (N := nLRule) (sc := defScope sLRule) (by decide +kernel))
            (fun _ _ _ _ _ => pg_name (i := 8) scLRule.nd rfl (Or.inl rfl))
            (fun _ _ _ _ _ => pts_one (PW.pt (pw_or (pt_cmpR (r := rEqD K) (op_eqD hr.units) (pv 5) (pe_lst pa_nil) (nomark _)) (pw_or1 (pt_cmpR op_ne (pe_ix (r := rIxT K) ix_tup (pv 8) pe_int (fun _ _ => rfl)) (pv 6) (nomark _))))))
            (fun _ _ _ _ _ => pe_tup (pa_cons (pe_ix (r := rIxT K) ix_tup (pv 8) pe_int (fun _ _ => rfl)) (pa_cons (pe_ifExp (pt_cmpR op_eq (pe_ix (r := rIxT K) ix_tup (pv 8) pe_int (fun _ _ => rfl)) (pv 7) (nomark _)) (pv 6) (pe_ix (r := rIxT K) ix_tup (pv 8) pe_int (fun _ _ => rfl))) pa_nil))))))))))
      (pss_one (ps_ret (pv 3)))), ?_⟩
    unfold tSeq tPar tCons tAsg
    refine rd_nt (s := 0) rfl hP hz (by show 8 < 9; decide) fun l H1 nl s1 p1 => ⟨Nat.zero_le _, fun fo nf => ⟨_, _, rfl, ?_⟩⟩
    -- while left != []
    let W : Nat → St → Hp → Prop := fun n σ Hc => ∃ (l fo : Addr) (left acc : List Pr) (y4 y5 y6 y7 y8 : Option V), σ = [some (.ref a), some (.int sp), some (.ref l), some (.ref fo), y4, y5, y6, y7, y8] ∧
      Same H Hc ∧ H fo = none ∧ l ≠ fo ∧ PL Hc l left ∧ PL Hc fo acc ∧ acc ++ ruleGo n sp left = rule sp ps ∧ mu left ≤ n ∧ Good sp left ∧ left.length ≤ 1000 ∧ acc.length + n ≤ 3000
    refine ⟨W, ⟨2 * (nt ps).length + 1, l, fo, nt ps, [], _, _, _, _, _, rfl, s1.trans (same_upd nf), s1.free nf, p1.ne nf, p1.same (same_upd nf), PL.nil upd_same, rfl, ?_, hg, ?_, ?_⟩, ?_⟩
    · unfold mu; split <;> omega
    · exact Nat.le_trans (List.length_filter_le _ _) hz
    · have := Nat.le_trans (List.length_filter_le (fun p : Pr => !decide (p.1 = p.2)) ps) hz
      show 0 + (2 * (List.filter (fun p : Pr => !decide (p.1 = p.2)) ps).length + 1) ≤ 3000
      omega
    · rintro n σ Hc ⟨l, fo, left, acc, y4, y5, y6, y7, y8, rfl, sm, nfo, nlf, pl, pf, eR, hmu, g, hlz, haz⟩
      refine ⟨.ref l, rfl, Nat.zero_le _, fun e ne => ⟨_, _, (pl.same (same_upd ne)).dp, lst_dp upd_same, shaped_pl _, shaped_nil, _, rfl, ?_⟩⟩
      rw [eqv_pl_nil]
      cases left with
      | nil =>
        refine iteF ⟨.ref fo, rfl, ?_⟩
        have e0 : acc = rule sp ps := by
          rw [← eR]
          cases n <;> simp [ruleGo]
        rw [e0] at pf
        exact q _ fo (sm.trans (same_upd ne)) nfo (pf.same (same_upd ne))
      | cons p0 r0 =>
        refine iteT ?_
        have s1 : Same Hc (upd Hc e (.lst [])) := same_upd ne
        have c8 : ∀ {σ : St}, σ.length = 9 → 8 < σ.length := fun h => by omega
        -- read, free
        refine ⟨fun σ' H' => ∃ m, m < n ∧ W m σ' H', fun σ' H' h => h, ?_⟩
        refine rd_col (s := 2) (fun p => p.2) (fun p => atI1) rfl (pl.same s1) hlz (c8 rfl) fun rd H2 nrd s2 hrd => ?_
        dsimp only [gName]
        refine rd_free (s := 2) (r := 4) rfl rfl ((pl.same s1).same s2) hrd hlz (c8 rfl) (by decide) fun fr H3 nfr s3 hfr => ?_
        have sm3 : Same Hc H3 := (s1.trans s2).trans s3
        refine ⟨.ref fr, rfl, Nat.zero_le _, fun e2 ne2 => ⟨_, _, (hfr.same (same_upd ne2)).dp, lst_dp upd_same, shaped_pl _, shaped_nil, _, rfl, ?_⟩⟩
        rw [eqv_pl_nil]
        have sm4 : Same Hc (upd H3 e2 (.lst [])) := sm3.trans (same_upd ne2)
        have hfr4 : PL (upd H3 e2 (.lst [])) fr (free (p0 :: r0)) := hfr.same (same_upd ne2)
        have nfr4 : Hc fr = none := (s1.trans s2).free nfr
        obtain ⟨g', hmu'⟩ := step_good g
        obtain ⟨m, rfl⟩ : ∃ m, n = m + 1 := ⟨n - 1, by omega⟩
        have eR' : (acc ++ [(step sp (p0 :: r0)).1]) ++ ruleGo m sp (step sp (p0 :: r0)).2 = rule sp ps := by
          rw [← eR, List.append_assoc]
          rfl
        generalize upd H3 e2 (.lst []) = H4 at sm4 hfr4 ⊢
        -- what follows, from the pair told
        have rest : ∀ (u v : Int) (H4 : Hp), Same Hc H4 → PL H4 fr (free (p0 :: r0)) → (acc ++ [(u, v)]) ++ ruleGo m sp (if free (p0 :: r0) = [] then redir v u (p0 :: r0) else redir v u (without u (p0 :: r0))) = rule sp ps →
            Good sp (if free (p0 :: r0) = [] then redir v u (p0 :: r0) else redir v u (without u (p0 :: r0))) → mu (if free (p0 :: r0) = [] then redir v u (p0 :: r0) else redir v u (without u (p0 :: r0))) ≤ m →
            tSeq (tDrop (tBM K "list" rAppend (tVar 3) (tCons (tTup (tCons (tVar 6) (tCons (tVar 7) tNil))) tNil)))
              (tAsg (tLc (iList K (tVar 2)) (gName 8) (tOr (tTest (tOp (rEqD K) (tVar 5) (tLst tNil))) (tTest (tOp rNe (tOp (rIxT K) (tVar 8) (tC (.int 0))) (tVar 6))))
                (tTup (tCons (tOp (rIxT K) (tVar 8) (tC (.int 0))) (tCons (tIf (tTest (tOp rEq (tOp (rIxT K) (tVar 8) (tC (.int 1))) (tVar 7))) (tVar 6) (tOp (rIxT K) (tVar 8) (tC (.int 1)))) tNil))) [8]) (gName 2))
              { nx := fun σ' H' => ∃ m', m' < m + 1 ∧ W m' σ' H', rt := Q, bk := tRet (tVar 3) { nx := fun x H' => Q V.non H', rt := Q }, ct := fun σ' H' => ∃ m', m' < m + 1 ∧ W m' σ' H' }
              [some (.ref a), some (.int sp), some (.ref l), some (.ref fo), some (.ref rd), some (.ref fr), some (.int u), some (.int v), y8] H4 := by
          intro u v H4 sm4 hfr4 eR2 g2 m2
          have pf4 := pf.same sm4
          unfold tSeq
          refine rd_app (i := 3) (u := u) (v := v) rfl pf4 (by omega) (fun H Q h => ⟨.int u, rfl, h⟩) (fun H Q h => ⟨.int v, rfl, h⟩) fun H5 sb pf5 => ?_
          obtain ⟨bs, lb, _⟩ := pf4
          have sm5 : Same H H5 := sb.fresh (sm.trans sm4) nfo
          have pl5 : PL H5 l (p0 :: r0) := sb.pl lb nlf (pl.same sm4)
          have nff : fr ≠ fo := fun z => by
            obtain ⟨_, z2, _⟩ := pf
            rw [← z, nfr4] at z2
            cases z2
          have fr5 : PL H5 fr (free (p0 :: r0)) := sb.pl lb nff hfr4
          obtain ⟨cs, lc, _⟩ := id pf5
          unfold tAsg
          dsimp only
          refine rd_pp (s := 2) rfl pl5 hlz (fun i => if free (p0 :: r0) = [] then redir v u ((p0 :: r0).take i) else redir v u (without u ((p0 :: r0).take i))) (by split <;> rfl) (fun i t p' D H' hp ht hD sm6 c => ?_) fun D H' hD sm6 hl => ?_
          · refine ⟨rfl, .ref fr, rfl, Nat.zero_le _, fun e3 ne3 => ⟨_, _, ((fr5.same sm6).same (same_upd ne3)).dp, lst_dp upd_same, shaped_pl _, shaped_nil, _, rfl, ?_⟩⟩
            rw [eqv_pl_nil]
            have sm7 : Same H' (upd H' e3 (.lst [])) := same_upd ne3
            have elt : ∀ (H6 : Hp) (e4 : (if free (p0 :: r0) = [] then redir v u ((p0 :: r0).take (i + 1)) else redir v u (without u ((p0 :: r0).take (i + 1)))) = (if free (p0 :: r0) = [] then redir v u ((p0 :: r0).take i) else redir v u (without u ((p0 :: r0).take i))) ++ [(p'.1, if p'.2 = v then u else p'.2)]),
                Same H' H6 → tTup (tCons (tOp (rIxT K) (tVar 8) (tC (.int 0))) (tCons (tIf (tTest (tOp rEq (tOp (rIxT K) (tVar 8) (tC (.int 1))) (tVar 7))) (tVar 6) (tOp (rIxT K) (tVar 8) (tC (.int 1)))) tNil))
                  [some (.ref a), some (.int sp), some (.ref l), some (.ref fo), some (.ref rd), some (.ref fr), some (.int u), some (.int v), some (.ref t)] H6 fun y H4 =>
                  ∃ acc, H4 D = some (.lst acc) ∧ acc.length < sizeLine ∧ CP H5 D (fun i => if free (p0 :: r0) = [] then redir v u ((p0 :: r0).take i) else redir v u (without u ((p0 :: r0).take i))) (i + 1) (upd H4 D (.lst (acc ++ [y]))) := by
              intro H6 e4 sm8
              have ht6 := sm8 _ _ ht
              refine ⟨.ref t, rfl, t, _, 0, _, rfl, rfl, .inl (.inl ht6), atI0, .ref t, rfl, t, _, 1, _, rfl, rfl, .inl (.inl ht6), atI1, .int v, rfl, rfl, _, rfl, ?_⟩
              by_cases e2 : p'.2 = v
              · rw [if_pos e2] at e4
                rw [e2, decide_eq_true rfl]
                exact iteT ⟨.int u, rfl, by show 2 ≤ sizeLine; decide, fun t' nt' => c.push hD (sm8.trans (same_upd nt')) (lt_line (idx_lt hp) hlz) (p := (p'.1, u)) upd_same e4⟩
              · rw [if_neg e2] at e4
                rw [decide_eq_false fun z => e2 (V.int.inj z)]
                exact iteF ⟨.ref t, rfl, t, _, 1, _, rfl, rfl, .inl (.inl ht6), atI1, by show 2 ≤ sizeLine; decide, fun t' nt' => c.push hD (sm8.trans (same_upd nt')) (lt_line (idx_lt hp) hlz) (p := (p'.1, p'.2)) upd_same e4⟩
            by_cases hf : free (p0 :: r0) = []
            · have he : (free (p0 :: r0)).isEmpty = true := by rw [hf]; rfl
              rw [he]
              refine iteT (elt _ ?_ sm7)
              rw [if_pos hf, if_pos hf]
              exact redir_t hp
            · have he : (free (p0 :: r0)).isEmpty = false := by
                cases q : free (p0 :: r0) with
                | nil => exact absurd q hf
                | cons _ _ => rfl
              rw [he]
              refine iteF ⟨.ref t, rfl, t, _, 0, _, rfl, rfl, .inl (.inl (sm7 _ _ ht)), atI0, .int u, rfl, rfl, _, rfl, ?_⟩
              by_cases e : p'.1 = u
              · rw [e, decide_eq_true rfl]
                refine iteF (c.skip sm7 ?_)
                show (if free (p0 :: r0) = [] then _ else _) = (if free (p0 :: r0) = [] then _ else _)
                rw [if_neg hf, if_neg hf, without_f hp e]
              · rw [decide_eq_false fun z => e (V.int.inj z)]
                refine iteT (elt _ ?_ sm7)
                rw [if_neg hf, if_neg hf, without_t hp e, redir_app]
                rfl
          · rw [List.take_length] at hl
            refine ⟨m, Nat.lt_succ_self m, D, fo, _, _, _, _, _, _, _, rfl, sm5.trans sm6, nfo, fun z => ne_of_none lc hD z.symm, hl, pf5.same sm6, eR2, m2, g2, ?_, ?_⟩
            · split
              · rw [len_redir]; exact hlz
              · rw [len_redir]; exact Nat.le_trans (List.length_filter_le _ _) hlz
            · rw [List.length_append]; simp only [List.length_singleton]; omega
        cases hf : free (p0 :: r0) with
        | cons p u =>
          refine iteT ?_
          have hne : ¬ free (p0 :: r0) = [] := by rw [hf]; exact List.cons_ne_nil _ _
          have hfr5 := hfr4
          rw [hf] at hfr5
          obtain ⟨as4, l4, t4⟩ := hfr5
          cases t4 with
          | cons ht4 t4r =>
            rename_i t0 as5
            refine ⟨.ref fr, rfl, fr, _, 0, _, rfl, rfl, .inl (.inl l4), atI_nat (j := 0) rfl, t0, _, rfl, .inl (.inl ht4), rfl, _, _, rfl, _, _, rfl, rfl, ?_⟩
            rw [step_free hf] at eR' g' hmu'
            exact rest p.1 p.2 H4 sm4 hfr4 (by rw [if_neg hne]; exact eR') (by rw [if_neg hne]; exact g') (by rw [if_neg hne]; exact Nat.le_of_lt_succ (Nat.lt_of_lt_of_le hmu' hmu))
        | nil =>
          refine iteF ?_
          obtain ⟨ts, ll, tl⟩ := id (pl.same sm4)
          cases tl with
          | cons ht4 t4r =>
            rename_i t0 as5
            refine ⟨.int sp, rfl, .ref l, rfl, l, _, 0, _, rfl, rfl, .inl (.inl ll), atI_nat (j := 0) rfl, t0, _, 0, _, rfl, rfl, .inl (.inl ht4), atI0, by show 2 ≤ sizeLine; decide, fun t nt => ?_⟩
            refine ⟨t, _, rfl, .inl (.inl upd_same), rfl, _, _, rfl, _, _, rfl, rfl, ?_⟩
            rw [step_brk hf] at eR' g' hmu'
            exact rest sp p0.1 _ (sm4.trans (same_upd nt)) (hfr4.same (same_upd nt)) (by rw [if_pos hf]; exact eR') (by rw [if_pos hf]; exact g') (by rw [if_pos hf]; exact Nat.le_of_lt_succ (Nat.lt_of_lt_of_le hmu' hmu))
end Ck

namespace Ck
set_option linter.all false
set_option maxRecDepth 100000
set_option maxHeartbeats 4000000
open PySem L2 Mv
/-- what the module's names hold -/
structure Txt (mg : Str → Option Value) : Prop where
  int : mg "int" = none
  bool : mg "bool" = none
  isi : mg "isinstance" = none
  list : mg "list" = none
  tuple : mg "tuple" = none
  len : mg "len" = none
  set : mg "set" = none
  dict : mg "dict" = none
  sorted : mg "sorted" = none
  min : mg "min" = none
  max : mg "max" = none
  sum : mg "sum" = none
  range : mg "range" = none
  repr : mg "repr" = none
  zip : mg "zip" = none
  reg : ∃ t, mg "MOST_REGISTER" = some (.int 99 t)
  shf : ∃ t, mg "MOST_SHUFFLE" = some (.int 40 t)
abbrev sIsReg : Stmt := top 7
def nIsReg : List Str := ["value"]
theorem scIsReg : FnScope nIsReg ["value"] (defScope sIsReg) := ⟨rfl, rfl, rfl, by decide +kernel, rfl, by decide +kernel, by decide +kernel⟩
def spIsReg : Sp := fun vs H Q _ => ∃ i : Int, vs = [.int i] ∧ 0 ≤ i ∧ i ≤ 99 ∧ Q (.bl true) H
variable {P : Program} {w : World} {K : PySem.W.Frag} {mg : Str → Option Value} {base : Heap}
theorem ok_isReg {f : Addr} {fd : FuncData} (F : Fun K "is_register" "is_register" sIsReg f fd) (T : Txt mg) : FnOk P w K mg base CX0 1 f fd ["value"] spIsReg := by
  refine F.ok scIsReg (fun vs H Q E h => ?_) (fun cdv A outer s H vs Q E hr h => ?_)
  · obtain ⟨i, rfl, _⟩ := h
    rfl
  · obtain ⟨i, rfl, h0, h1, q⟩ := h
    obtain ⟨tr, hreg⟩ := T.reg
    refine ⟨_, pss_one (ps_ret (pe_and (pe_callB call_isi (by rfl) T.isi (by decide +kernel) (pa_cons (pv 0) (pa_cons (pe_bltn (v := .ty "int") (by rfl) T.int (by decide +kernel) rfl) pa_nil)))
      (pe_and (pe_not (pe_callB call_isi (by rfl) T.isi (by decide +kernel) (pa_cons (pv 0) (pa_cons (pe_bltn (v := .ty "bool") (by rfl) T.bool (by decide +kernel) rfl) pa_nil))))
      (pe_one (pe_chain op_le op_le pe_int (pv 0) (pe_glob (v := .int 99) (by rfl) hreg ⟨_, rfl⟩)))))), ?_⟩
    refine ⟨.int i, rfl, _, _, _, _, true, rfl, .ty _, .base (.int i), kit_ty (by decide +kernel), true, rfl, iteT ?_⟩
    refine ⟨.int i, rfl, _, _, _, _, false, rfl, .ty _, .base (.int i), kit_ty (by decide +kernel), _, rfl, true, rfl, iteT ?_⟩
    refine ⟨.int i, rfl, 0, i, rfl, rfl, true, congrArg V.bl (decide_eq_true h0), iteT ⟨i, 99, rfl, rfl, ?_⟩⟩
    show Q (V.bl (decide (i ≤ 99))) H
    rw [decide_eq_true h1]
    exact q
/-! ### is_move_row -/
/-- all of a pair are registers -/
def Regs (ps : List Pr) : Prop := ∀ p ∈ ps, 0 ≤ p.1 ∧ p.1 ≤ 99 ∧ 0 ≤ p.2 ∧ p.2 ≤ 99
abbrev sIsRow : Stmt := top 8
def nIsRow : List Str := ["value", "item", "part"]
theorem scIsRow : FnScope nIsRow ["value"] (defScope sIsRow) := ⟨rfl, rfl, rfl, by decide +kernel, rfl, by decide +kernel, by decide +kernel⟩
def spIsRow : Sp := fun vs H Q _ => ∃ (a : Addr) (ps : List Pr), vs = [.ref a] ∧ PL H a ps ∧ Regs ps ∧ ∀ H', Same H H' → Q (.bl true) H'
theorem ok_isRow {f fR : Addr} {fd fdR : FuncData} (F : Fun K "is_move_row" "is_move_row" sIsRow f fd) (FR : Fun K "is_register" "is_register" sIsReg fR fdR) (bR : Binds K fdR ["value"] []) (gR : mg "is_register" = some (.ref fR)) (T : Txt mg) :
    FnOk P w K mg base CX0 2 f fd ["value"] spIsRow := by
  have GR : FnOk P w K mg base CX0 1 fR fdR ["value"] spIsReg := ok_isReg FR T
  refine F.ok scIsRow (fun vs H Q E h => ?_) (fun cdv A outer s H vs Q E hr h => ?_)
  · obtain ⟨a, ps, rfl, _⟩ := h
    rfl
  · obtain ⟨a, ps, rfl, hP, hR, q⟩ := h
    refine ⟨_, pss_cons (ps_if (pt_not (pt_val (pe_callB call_isi (by rfl) T.isi (by decide +kernel) (pa_cons (pv 0) (pa_cons (pe_bltn (v := .ty "list") (by rfl) T.list (by decide +kernel) rfl) pa_nil))))) (pss_one (ps_ret pe_bl)) pss_nil)
      (pss_cons (ps_for PassesOwn.never rfl (pi_list (pv 0)) (pg_name (i := 1) scIsRow.nd rfl (Or.inl rfl))
        (pss_one (ps_if (PW.pt (pw_or (pt_not (pt_val (pe_callB call_isi (by rfl) T.isi (by decide +kernel) (pa_cons (pv 1) (pa_cons (pe_bltn (v := .ty "tuple") (by rfl) T.tuple (by decide +kernel) rfl) pa_nil)))))
          (pw_or (pt_cmpR op_ne (pe_callB call_len_seq (by rfl) T.len PySem.boot_len (pa_cons (pv 1) pa_nil)) pe_int (nomark _))
          (pw_or1 (pt_cmpR (r := rNeD K) (op_neD hr.units) (pe_lc (own := [("part", 2)]) (g := gName 2) rfl scIsRow.nd (pi_tup (pv 1)) (blkOk_by (own := [("part", 2)]) (N := nIsRow) (sc := defScope sIsRow) (by decide +kernel))
              (fun _ _ _ _ _ => pg_name (i := 2) scIsRow.nd rfl (Or.inl rfl)) (fun _ _ _ _ _ => pts_one (pt_not (pt_val (pe_call GR hr (by rfl) gR FR.kp bR .nil pass0 (pa_cons (pv 2) pa_nil))))) (fun _ _ _ _ _ => pv 2))
            (pe_lst pa_nil) (nomark _)))))) (pss_one (ps_ret pe_bl)) pss_nil)))
      (pss_one (ps_ret pe_bl))), ?_⟩
    obtain ⟨as, hA, hT⟩ := id hP
    refine ⟨.ref a, rfl, _, _, _, _, true, rfl, .ty _, .base (.lst hA), kit_ty (by decide +kernel), true, rfl, iteF ?_⟩
    have hSq : SqL K H a (as.map V.ref) := .inl (.inl hA)
    refine ⟨.ref a, rfl, a, rfl, ⟨_, hSq⟩, for_list (K := K) (a := a) (xs := as.map V.ref) (fun i σ H' => ∃ y1 y2, σ = [some (.ref a), y1, y2] ∧ Same H H') ⟨none, none, rfl, Same.refl _⟩ (fun i σ H' _ ⟨_, _, _, sm⟩ => sm.seq hSq) ?_ ?_⟩
    · rintro i x σ H' hx ⟨y1, y2, rfl, sm⟩
      obtain ⟨t, p, rfl, hp, ht⟩ := hT.get hx
      have ht' := sm _ _ ht
      obtain ⟨r1, r2, r3, r4⟩ := hR p (List.mem_of_getElem? hp)
      refine ⟨.ref t, rfl, _, _, _, _, true, rfl, .ty _, .base (.tup ht'), kit_ty (by decide +kernel), true, rfl, iteF ?_⟩
      refine ⟨.ref t, rfl, t, _, rfl, .inr (.inl (.inl ht')), rfl, _, rfl, ?_⟩
      refine iteF ?_
      refine ⟨.ref t, rfl, t, rfl, ⟨_, .inl (.inl ht')⟩, fun D hD => lc_tup (K := K) (a := t) (xs := [V.int p.1, V.int p.2]) (fun i H2 => Same H' H2 ∧ H2 D = some (.lst [])) ⟨same_upd hD, upd_same⟩ (fun i H2 _ ⟨s2, _⟩ => .inl (.inl (s2 _ _ ht'))) (fun i x H2 hx ⟨s2, d2⟩ => ?_) (fun H2 ⟨s2, d2⟩ => ?_)⟩
      · obtain ⟨k, rfl, k0, k1⟩ : ∃ k : Int, x = .int k ∧ 0 ≤ k ∧ k ≤ 99 := by
          match i, hx with
          | 0, hx => exact ⟨p.1, (Option.some.inj hx).symm, r1, r2⟩
          | 1, hx => exact ⟨p.2, (Option.some.inj hx).symm, r3, r4⟩
        exact ⟨rfl, .int k, rfl, k, rfl, k0, k1, true, rfl, iteF ⟨s2, d2⟩⟩
      · refine ⟨Nat.zero_le _, fun e ne => ⟨.list [], .list [], lst_dp (same_upd ne _ _ d2), lst_dp upd_same, shaped_nil, shaped_nil, _, rfl, iteF ⟨_, _, rfl, (sm.trans s2).trans (same_upd ne)⟩⟩⟩
    · rintro σ H' ⟨y1, y2, rfl, sm⟩
      exact q H' sm
end Ck

namespace Ck
set_option linter.all false
set_option maxRecDepth 100000
set_option maxHeartbeats 4000000
open PySem L2 Mv
/-- a shuffle that is_shuffle_by takes -/
structure Shf (ps : List Pr) : Prop where
  regs : Regs ps
  len : ps.length ≤ 40
  nd : (keys ps).Nodup
/-- .. and a spare register -/
structure Spr (sp : Int) (ps : List Pr) : Prop where
  lo : 0 ≤ sp
  hi : sp ≤ 99
  nk : sp ∉ keys ps
  nr : sp ∉ reads ps
theorem nt_sub {ps : List Pr} {p : Pr} (h : p ∈ nt ps) : p ∈ ps ∧ p.1 ≠ p.2 := by
  obtain ⟨h1, h2⟩ := List.mem_filter.mp h
  exact ⟨h1, by simpa using h2⟩
theorem keys_nt {ps : List Pr} {k : Int} (h : k ∈ keys (nt ps)) : k ∈ keys ps := by
  obtain ⟨v, hv⟩ := of_keys h
  exact mem_keys (nt_sub hv).1
theorem nd_nt {ps : List Pr} (h : (keys ps).Nodup) : (keys (nt ps)).Nodup := h.sublist (List.filter_sublist.map _)
theorem good_of {sp : Int} {ps : List Pr} (s : Shf ps) (r : Spr sp ps) : Good sp (nt ps) := ⟨nd_nt s.nd, fun p hp => (nt_sub hp).2, fun h => r.nk (keys_nt h)⟩
variable {P : Program} {w : World} {K : PySem.W.Frag} {mg : Str → Option Value} {base : Heap}
/-! ### is_shuffle_by -/
abbrev sIsShf : Stmt := top 9
def nIsShf : List Str := ["value", "item"]
theorem scIsShf : FnScope nIsShf ["value"] (defScope sIsShf) := ⟨rfl, rfl, rfl, by decide +kernel, rfl, by decide +kernel, by decide +kernel⟩
def spIsShf : Sp := fun vs H Q _ => ∃ (a : Addr) (ps : List Pr), vs = [.ref a] ∧ PL H a ps ∧ Shf ps ∧ ∀ H', Same H H' → Q (.bl true) H'
theorem ok_isShf {f fR : Addr} {fd fdR : FuncData} (F : Fun K "is_shuffle_by" "is_shuffle_by" sIsShf f fd) (GR : FnOk P w K mg base CX0 2 fR fdR ["value"] spIsRow) (bR : Binds K fdR ["value"] []) (kR : PySem.W.keepIn K (.ref fR) = true) (gR : mg "is_move_row" = some (.ref fR)) (T : Txt mg) :
    FnOk P w K mg base CX0 3 f fd ["value"] spIsShf := by
  refine F.ok scIsShf (fun vs H Q E h => ?_) (fun cdv A outer s H vs Q E hr h => ?_)
  · obtain ⟨a, ps, rfl, _⟩ := h
    rfl
  · obtain ⟨a, ps, rfl, hP, hS, q⟩ := h
    obtain ⟨tr, hshf⟩ := T.shf
    refine ⟨_, pss_cons (ps_if (PW.pt (pw_or (pt_not (pt_val (pe_call GR hr (by rfl) gR kR bR .nil pass0 (pa_cons (pv 0) pa_nil))))
        (pw_or1 (pt_cmpR op_gt (pe_callB call_len_seq (by rfl) T.len PySem.boot_len (pa_cons (pv 0) pa_nil)) (pe_glob (v := .int 40) (by rfl) hshf ⟨_, rfl⟩) (nomark _))))) (pss_one (ps_ret pe_bl)) pss_nil)
      (pss_one (ps_ret (pe_cmpR op_eq (pe_lenSetI rfl (by rfl) T.len (by rfl) T.set
        (pe_lc (own := [("item", 1)]) (g := gName 1) rfl scIsShf.nd (pi_list (pv 0)) (blkOk_by (own := [("item", 1)]) (N := nIsShf) (sc := defScope sIsShf) (by decide +kernel)) (fun _ _ _ _ _ => pg_name (i := 1) scIsShf.nd rfl (Or.inl rfl))
          (fun _ _ _ _ _ => pts_nil) (fun _ _ _ _ _ => pe_ix (r := rIxT K) ix_tup (pv 1) pe_int (fun _ _ => rfl))))
        (pe_callB call_len_seq (by rfl) T.len PySem.boot_len (pa_cons (pv 0) pa_nil)) (nomark _)))), ?_⟩
    refine ⟨.ref a, rfl, a, ps, rfl, hP, hS.regs, fun H1 s1 => ⟨true, rfl, iteF ?_⟩⟩
    obtain ⟨as, hA, hT⟩ := hP.same s1
    refine ⟨.ref a, rfl, a, _, rfl, .inl (.inl (.inl hA)), _, _, rfl, rfl, _, rfl, ?_⟩
    have hl := hS.len
    have le : ¬ ((40 : Int) < (((as.map V.ref).length : Nat) : Int)) := by
      rw [List.length_map, hT.len]
      omega
    rw [decide_eq_false le]
    refine iteF ?_
    refine rd_next ?_
    dsimp only
    refine rd_ret (rd_op (rd_lenSet ?_))
    refine rd_col (s := 0) (fun p => p.1) (fun p => atI0) rfl (hP.same s1) (by omega) (by show 1 < 2; decide) fun D H2 nD s2 hD => ?_
    refine ⟨D, keys ps, rfl, .inl (.inl hD), by simp only [keys, List.length_map]; omega, hS.nd, .ref a, rfl, a, _, rfl, .inl (.inl (.inl (s2 _ _ hA))), rfl, ?_⟩
    have e : decide (V.int ((keys ps).length : Nat) = V.int ((as.map V.ref).length : Nat)) = true := by
      rw [List.length_map, hT.len, keys, List.length_map]
      exact decide_eq_true rfl
    rw [e]
    exact q _ (s1.trans s2)
/-! ### check_shuffle -/
abbrev sChkS : Stmt := top 12
def nChkS : List Str := ["shuffle"]
theorem scChkS : FnScope nChkS ["shuffle"] (defScope sChkS) := ⟨rfl, rfl, rfl, by decide +kernel, rfl, by decide +kernel, by decide +kernel⟩
def spChkS : Sp := fun vs H Q _ => ∃ (a : Addr) (ps : List Pr), vs = [.ref a] ∧ PL H a ps ∧ Shf ps ∧ ∀ H', Same H H' → Q .non H'
theorem ok_chkS {f fR : Addr} {fd fdR : FuncData} (F : Fun K "check_shuffle" "check_shuffle" sChkS f fd) (GR : FnOk P w K mg base CX0 3 fR fdR ["value"] spIsShf) (bR : Binds K fdR ["value"] []) (kR : PySem.W.keepIn K (.ref fR) = true) (gR : mg "is_shuffle_by" = some (.ref fR)) :
    FnOk P w K mg base CX0 4 f fd ["shuffle"] spChkS := by
  refine F.ok scChkS (fun vs H Q E h => ?_) (fun cdv A outer s H vs Q E hr h => ?_)
  · obtain ⟨a, ps, rfl, _⟩ := h
    rfl
  · obtain ⟨a, ps, rfl, hP, hS, q⟩ := h
    refine ⟨_, pss_one (ps_if (pt_not (pt_val (pe_call GR hr (by rfl) gR kR bR .nil pass0 (pa_cons (pv 0) pa_nil)))) (pss_one ps_never) pss_nil), ?_⟩
    exact ⟨.ref a, rfl, a, ps, rfl, hP, hS, fun H1 s1 => ⟨true, rfl, iteF (q _ s1)⟩⟩
/-! ### check_spare -/
def parts (ps : List Pr) : List Int := ps.flatMap fun p => [p.1, p.2]
theorem mem_parts {ps : List Pr} {k : Int} : k ∈ parts ps ↔ k ∈ keys ps ∨ k ∈ reads ps := by
  unfold parts keys reads
  rw [List.mem_flatMap, List.mem_map, List.mem_map]
  constructor
  · rintro ⟨p, h1, h2⟩
    rcases List.mem_cons.mp h2 with e | h2
    · exact .inl ⟨p, h1, e.symm⟩
    · exact .inr ⟨p, h1, (List.mem_singleton.mp h2).symm⟩
  · rintro (⟨p, h1, h2⟩ | ⟨p, h1, h2⟩)
    · exact ⟨p, h1, by simp [h2]⟩
    · exact ⟨p, h1, by simp [h2]⟩
abbrev sChkP : Stmt := top 13
def nChkP : List Str := ["shuffle", "spare", "item", "part"]
theorem scChkP : FnScope nChkP ["shuffle", "spare"] (defScope sChkP) := ⟨rfl, rfl, rfl, by decide +kernel, rfl, by decide +kernel, by decide +kernel⟩
def spChkP : Sp := fun vs H Q _ => ∃ (a : Addr) (ps : List Pr) (sp : Int), vs = [.ref a, .int sp] ∧ PL H a ps ∧ Shf ps ∧ Spr sp ps ∧ ∀ H', Same H H' → Q .non H'
theorem ok_chkP {f fR : Addr} {fd fdR : FuncData} (F : Fun K "check_spare" "check_spare" sChkP f fd) (GR : FnOk P w K mg base CX0 1 fR fdR ["value"] spIsReg) (bR : Binds K fdR ["value"] []) (kR : PySem.W.keepIn K (.ref fR) = true) (gR : mg "is_register" = some (.ref fR)) :
    FnOk P w K mg base CX0 2 f fd ["shuffle", "spare"] spChkP := by
  refine F.ok scChkP (fun vs H Q E h => ?_) (fun cdv A outer s H vs Q E hr h => ?_)
  · obtain ⟨a, ps, sp, rfl, _⟩ := h
    rfl
  · obtain ⟨a, ps, sp, rfl, hP, hS, hp, q⟩ := h
    refine ⟨_, pss_one (ps_if (PW.pt (pw_or (pt_not (pt_val (pe_call GR hr (by rfl) gR kR bR .nil pass0 (pa_cons (pv 1) pa_nil))))
      (pw_or1 (pt_cmpR (r := rIn K false) op_in_seq (pv 1) (pe_lc2 (own := [("item", 2), ("part", 3)]) (g := gName 2) (wi1 := iTup K (tVar 2)) (g1 := gName 3) (vs1 := [3]) rfl scChkP.nd (pi_list (pv 0))
          (blkOk_by (own := [("item", 2), ("part", 3)]) (N := nChkP) (sc := defScope sChkP) (by decide +kernel)) (by decide)
          (fun _ _ _ _ _ => pg_name (i := 2) scChkP.nd rfl (Or.inl rfl)) (fun _ _ _ _ _ => pts_nil) (fun _ _ _ _ _ => pi_tup (pv 2)) (fun _ _ _ _ _ => pg_name (i := 3) scChkP.nd rfl (Or.inl rfl)) (fun _ _ _ _ _ => pts_nil) (fun _ _ _ _ _ => pv 3)) (by rfl)))))
      (pss_one ps_never) pss_nil), ?_⟩
    obtain ⟨as, hA, hT⟩ := id hP
    have hz := hS.len
    refine ⟨.int sp, rfl, sp, rfl, hp.lo, hp.hi, true, rfl, iteF ⟨.int sp, rfl, .ref a, rfl, a, rfl, ⟨_, .inl (.inl hA)⟩, fun D hD => ?_⟩⟩
    refine ⟨fun i m H' => m = ps.length - i ∧ i ≤ ps.length ∧ Same H H' ∧ IL H' D (parts (ps.take i)), ⟨ps.length, rfl, Nat.zero_le _, same_upd hD, upd_same⟩, ?_⟩
    rintro i m H' ⟨rfl, hi, sm, hl⟩
    have hSq : SqL K H' a (as.map V.ref) := .inl (.inl (sm _ _ hA))
    by_cases hlt : i < ps.length
    · refine .inr ⟨⟨_, _, hSq, List.getElem?_eq_getElem (by rw [List.length_map, hT.len]; exact hlt)⟩, fun H2 => Same H H2 ∧ IL H2 D (parts (ps.take (i + 1))), fun H2 ⟨s2, l2⟩ => ⟨_, by omega, rfl, hlt, s2, l2⟩, ?_⟩
      rintro x H2 ⟨rfl, hy⟩
      obtain ⟨t, p, rfl, hpi, ht⟩ := hT.get (hy _ hSq)
      have ht2 := sm _ _ ht
      have eF : parts (ps.take (i + 1)) = parts (ps.take i) ++ [p.1, p.2] := by
        unfold parts
        rw [List.take_add_one, hpi, List.flatMap_append]
        simp
      have lenF : (parts (ps.take i)).length ≤ 80 := by
        unfold parts
        rw [List.length_flatMap]
        have : ∀ l : List Pr, (l.map fun p : Pr => [p.1, p.2].length).sum = 2 * l.length := fun l => by
          induction l with
          | nil => rfl
          | cons x l ih =>
            show 2 + (l.map fun p : Pr => [p.1, p.2].length).sum = 2 * (l.length + 1)
            rw [ih]; omega
        rw [this, List.length_take]
        omega
      refine ⟨rfl, .ref t, rfl, t, rfl, ⟨_, .inl (.inl ht2)⟩, fun j k H3 => k = 2 - j ∧ j ≤ 2 ∧ Same H H3 ∧ IL H3 D (parts (ps.take i) ++ [p.1, p.2].take j), ⟨2, rfl, Nat.zero_le _, sm, by rw [List.take_zero, List.append_nil]; exact hl⟩, ?_⟩
      rintro j k H3 ⟨rfl, hj, s3, l3⟩
      have hSt : SqT K H3 t [V.int p.1, V.int p.2] := .inl (.inl (s3 _ _ ht))
      have push : ∀ (c : Int), parts (ps.take i) ++ [p.1, p.2].take (j + 1) = (parts (ps.take i) ++ [p.1, p.2].take j) ++ [c] → j + 1 ≤ 2 →
          ∃ acc, H3 D = some (.lst acc) ∧ acc.length < sizeLine ∧ (Same H (upd H3 D (.lst (acc ++ [.int c]))) ∧ IL (upd H3 D (.lst (acc ++ [.int c]))) D (parts (ps.take i) ++ [p.1, p.2].take (j + 1))) := fun c ec h2 => by
        refine ⟨_, l3, ?_, fun b o e => ?_, ?_⟩
        · rw [List.length_map, List.length_append, List.length_take]
          refine Nat.lt_of_le_of_lt (m := 82) (by simp only [List.length_cons, List.length_nil]; omega) (by decide)
        · rw [upd_ne (ne_of_none e hD)]
          exact s3 _ _ e
        · unfold IL
          rw [upd_same, ec, List.map_append (l₁ := parts (ps.take i) ++ [p.1, p.2].take j)]
          rfl
      by_cases hj2 : j < 2
      · have hget : [V.int p.1, V.int p.2][j]? = some (.int ([p.1, p.2][j]'hj2)) := by
          match j, hj2 with
          | 0, _ => rfl
          | 1, _ => rfl
        refine .inr ⟨⟨_, _, hSt, hget⟩, fun H4 => Same H H4 ∧ IL H4 D (parts (ps.take i) ++ [p.1, p.2].take (j + 1)), fun H4 ⟨s4, l4⟩ => ⟨_, by omega, rfl, hj2, s4, l4⟩, ?_⟩
        rintro x H4 ⟨rfl, hy2⟩
        have ex : x = .int ([p.1, p.2][j]'hj2) := Option.some.inj ((hy2 _ hSt).symm.trans hget)
        subst ex
        refine ⟨rfl, .int ([p.1, p.2][j]'hj2), rfl, push _ ?_ hj2⟩
        rw [List.append_assoc]
        congr 1
        match j, hj2 with
        | 0, _ => rfl
        | 1, _ => rfl
      · have e2 : j = 2 := by omega
        subst e2
        exact .inl ⟨⟨_, hSt, Nat.le_refl _⟩, s3, by rw [eF]; exact l3⟩
    · have e : i = ps.length := by omega
      subst e
      rw [List.take_length] at hl
      refine .inl ⟨⟨_, hSq, by rw [List.length_map, hT.len]; exact Nat.le_refl _⟩, D, _, rfl, .inl (.inl (.inl hl)), rfl, flat_ints _, _, rfl, ?_⟩
      rw [inV_ints]
      have : sp ∉ parts ps := fun h => (mem_parts.mp h).elim hp.nk hp.nr
      rw [decide_eq_false this]
      exact iteF (q _ sm)
/-! ### moves -/
abbrev sMoves : Stmt := top 14
def nMoves : List Str := ["shuffle", "spare"]
theorem scMoves : FnScope nMoves ["shuffle", "spare"] (defScope sMoves) := ⟨rfl, rfl, rfl, by decide +kernel, rfl, by decide +kernel, by decide +kernel⟩
def spMoves : Sp := fun vs H Q _ => ∃ (a : Addr) (ps : List Pr) (sp : Int), vs = [.ref a, .int sp] ∧ PL H a ps ∧ Shf ps ∧ Spr sp ps ∧
  ∀ (H' : Hp) (p : Addr), Same H H' → H p = none → PL H' p (rule sp ps) → Q (.ref p) H'
theorem ok_moves {f fS fP fM : Addr} {fd fdS fdP fdM : FuncData} (F : Fun K "moves" "moves" sMoves f fd)
    (GS : FnOk P w K mg base CX0 4 fS fdS ["shuffle"] spChkS) (bS : Binds K fdS ["shuffle"] []) (kS : PySem.W.keepIn K (.ref fS) = true) (gS : mg "check_shuffle" = some (.ref fS))
    (GP : FnOk P w K mg base CX0 2 fP fdP ["shuffle", "spare"] spChkP) (bP : Binds K fdP ["shuffle", "spare"] []) (kP : PySem.W.keepIn K (.ref fP) = true) (gP : mg "check_spare" = some (.ref fP))
    (GM : FnOk P w K mg base CX0 1 fM fdM ["shuffle", "spare"] spMovesBy) (bM : Binds K fdM ["shuffle", "spare"] []) (kM : PySem.W.keepIn K (.ref fM) = true) (gM : mg "moves_by" = some (.ref fM)) :
    FnOk P w K mg base CX0 5 f fd ["shuffle", "spare"] spMoves := by
  refine F.ok scMoves (fun vs H Q E h => ?_) (fun cdv A outer s H vs Q E hr h => ?_)
  · obtain ⟨a, ps, sp, rfl, _⟩ := h
    rfl
  · obtain ⟨a, ps, sp, rfl, hP, hS, hp, q⟩ := h
    refine ⟨_, pss_cons (ps_expr (pe_call GS hr (by rfl) gS kS bS .nil pass0 (pa_cons (pv 0) pa_nil)))
      (pss_cons (ps_expr (pe_call GP (hr.mono (by decide)) (by rfl) gP kP bP .nil pass0 (pa_cons (pv 0) (pa_cons (pv 1) pa_nil))))
      (pss_one (ps_ret (pe_call GM (hr.mono (by decide)) (by rfl) gM kM bM .nil pass0 (pa_cons (pv 0) (pa_cons (pv 1) pa_nil)))))), ?_⟩
    refine ⟨.ref a, rfl, a, ps, rfl, hP, hS, fun H1 s1 => ?_⟩
    refine ⟨.ref a, rfl, .int sp, rfl, a, ps, sp, rfl, hP.same s1, hS, hp, fun H2 s2 => ?_⟩
    refine ⟨.ref a, rfl, .int sp, rfl, a, ps, sp, rfl, (hP.same s1).same s2, Nat.le_trans hS.len (by decide), good_of hS hp, fun H3 p s3 np hp3 => ?_⟩
    exact q H3 p ((s1.trans s2).trans s3) ((s1.trans s2).free np) hp3
end Ck

namespace Ck
set_option linter.all false
set_option maxRecDepth 100000
set_option maxHeartbeats 4000000
open PySem L2 Mv
theorem rd_par {i j : Nat} {ta : TA} {D : Ends} {σ : St} {H : Hp} (h : ta σ H fun vs H1 => ∃ v w, vs = [v, w] ∧ D.nx ((σ.set i (some v)).set j (some w)) H1) : tPar i j ta D σ H := h
theorem rd_cons {ta : TE} {tr : TA} {σ : St} {H : Hp} {Q : List V → Hp → Prop} (h : ta σ H fun x H1 => tr σ H1 fun xs H2 => Q (x :: xs) H2) : tCons ta tr σ H Q := h
theorem rd_asgG {te : TE} {g : TG} {D : Ends} {σ : St} {H : Hp} (h : te σ H fun x H1 => g x σ H1 D.nx) : tAsg te g D σ H := h
theorem rd_tup {t : TA} {σ : St} {H : Hp} {Q : VK} (h : t σ H fun xs H1 => xs.length ≤ sizeLine ∧ ∀ p, H1 p = none → Q (.ref p) (upd H1 p (.tup xs))) : tTup t σ H Q := h
theorem rd_cb {r : List V → Hp → VK → Prop} {t : TA} {σ : St} {H : Hp} {Q : VK} (h : t σ H fun vs H1 => r vs H1 Q) : tCB r t σ H Q := h
/-! ### a dict of ints to ints -/
def kvsOf (l : List Pr) : List (Key × V) := l.map fun p => (Sum.inl p.1, V.int p.2)
theorem valV_kvs (l : List Pr) (k : Int) : valV (kvsOf l) (Sum.inl k) = (look l k).map V.int := by
  induction l with
  | nil => rfl
  | cons p r ih =>
    unfold valV kvsOf look at *
    rw [List.map_cons, List.find?_cons, List.find?_cons]
    by_cases e : p.1 = k
    · have e1 : decide ((Sum.inl p.1 : Key) = Sum.inl k) = true := decide_eq_true (by rw [e])
      simp only [e1, decide_eq_true e]
      rfl
    · have e1 : decide ((Sum.inl p.1 : Key) = Sum.inl k) = false := decide_eq_false fun q => e (Sum.inl.inj q)
      simp only [e1, decide_eq_false e]
      exact ih
theorem merge_kvs : ∀ (l acc : List Pr), (keys (acc ++ l)).Nodup → mergeK (kvsOf acc) (kvsOf l) = kvsOf (acc ++ l)
  | [], acc, _ => by rw [List.append_nil]; rfl
  | p :: r, acc, nd => by
    have no : ((kvsOf acc).any fun kv => decide (kv.1 = (Sum.inl p.1 : Key))) = false := by
      rw [List.any_eq_false]
      intro kv hkv
      obtain ⟨q, hq, rfl⟩ := List.mem_map.mp hkv
      have nd2 : (keys acc ++ (p.1 :: keys r)).Nodup := by
        have e : keys (acc ++ p :: r) = keys acc ++ (p.1 :: keys r) := by simp [keys]
        rw [← e]; exact nd
      have : q.1 ≠ p.1 := (List.nodup_append.mp nd2).2.2 _ (List.mem_map.mpr ⟨q, hq, rfl⟩) _ List.mem_cons_self
      simp only [decide_eq_true_eq]
      exact fun z => this (Sum.inl.inj z)
    have e2 : putK (kvsOf acc) (Sum.inl p.1 : Key) (V.int p.2) = kvsOf (acc ++ [p]) := by
      unfold putK
      rw [no]
      simp [kvsOf]
    have e3 : acc ++ p :: r = (acc ++ [p]) ++ r := by simp
    rw [e3] at nd ⊢
    rw [← merge_kvs r (acc ++ [p]) nd, ← e2]
    rfl
theorem merge_nil {l : List Pr} (nd : (keys l).Nodup) : mergeK [] (kvsOf l) = kvsOf l := merge_kvs l [] nd
theorem kvs_get {l : List Pr} {i : Nat} {k : Key} {v : V} (h : (kvsOf l)[i]? = some (k, v)) : ∃ p, l[i]? = some p ∧ k = Sum.inl p.1 ∧ v = .int p.2 := by
  unfold kvsOf at h
  rw [List.getElem?_map] at h
  cases e : l[i]? with
  | none => rw [e] at h; cases h
  | some p =>
    rw [e] at h
    have h2 := Option.some.inj h
    exact ⟨p, rfl, (congrArg Prod.fst h2).symm, (congrArg Prod.snd h2).symm⟩
theorem tups_paired {K : PySem.W.Frag} {H : Hp} : ∀ {as : List Addr} {l : List Pr}, TupsAt H as l → PySem.Paired (fun p (kv : Key × V) => SqT K H p [kV kv.1, kv.2]) as (kvsOf l)
  | _, _, .nil => .nil
  | _, _, .cons h t => .cons (.inl (.inl h)) (tups_paired t)
theorem kvs_keys (l : List Pr) : (kvsOf l).map (·.1) = (keys l).map Sum.inl := by
  simp [kvsOf, keys]
theorem kvs_len (l : List Pr) : (kvsOf l).length = l.length := List.length_map ..
section
variable {K : PySem.W.Frag} {σ : St} {H : Hp} {Q : VK} {a : Addr} {ps : List Pr}
/-- dict([(..), ..]) -/
theorem rd_dict {ta : TE} (h : ta σ H fun x H1 => ∃ a ps, x = .ref a ∧ PL H1 a ps ∧ (keys ps).Nodup ∧ ∀ p, H1 p = none → Q (.ref p) (upd H1 p (.dK (kvsOf ps)))) (mono : ∀ Q Q' : VK, (∀ x H, Q x H → Q' x H) → ta σ H Q → ta σ H Q') :
    tCB (fun xs H Q => ∃ (a : Addr) (ps : List Addr) (kvs : List (Key × V)), xs = [.ref a] ∧ SqL K H a (ps.map V.ref) ∧ PySem.Paired (fun p kv => SqT K H p [kV kv.1, kv.2]) ps kvs ∧ ∀ p, H p = none → Q (.ref p) (upd H p (.dK (mergeK [] kvs)))) (tCons ta tNil) σ H Q := by
  refine mono _ _ (fun x H1 ⟨a, ps, e, h1, nd, h2⟩ => ?_) h
  subst e
  obtain ⟨as, hA, hT⟩ := h1
  refine ⟨a, as, kvsOf ps, rfl, .inl (.inl hA), tups_paired hT, fun p np => ?_⟩
  rw [merge_nil nd]
  exact h2 p np
theorem dict_at {H1 : Hp} (h1 : PL H1 a ps) (nd : (keys ps).Nodup) (h2 : ∀ p, H1 p = none → Q (.ref p) (upd H1 p (.dK (kvsOf ps)))) :
    ∃ (b : Addr) (qs : List Addr) (kvs : List (Key × V)), [V.ref a] = [.ref b] ∧ SqL K H1 b (qs.map V.ref) ∧ PySem.Paired (fun p kv => SqT K H1 p [kV kv.1, kv.2]) qs kvs ∧ ∀ p, H1 p = none → Q (.ref p) (upd H1 p (.dK (mergeK [] kvs))) := by
  obtain ⟨as, hA, hT⟩ := h1
  refine ⟨a, as, kvsOf ps, rfl, .inl (.inl hA), tups_paired hT, fun p np => ?_⟩
  rw [merge_nil nd]
  exact h2 p np
end
/-! ### comprehensions over a locked dict -/
section
variable {d : Addr} {o : Obj} {kvs : List (Key × V)} {g : TG} {tt : TT} {te : TE} {vs : List Nat} {σ : St} {H1 : Hp} {D : Addr} {Qd : Hp → Prop}
theorem lc_items (Pv : Nat → Hp → Prop) (h0 : Pv 0 (upd H1 D (.lst []))) (hl : ∀ i H, Pv i H → H d = some (.frz o (.dK kvs)))
    (hs : ∀ i k v T H, kvs[i]? = some (k, v) → H T = none → Pv i H → g (.ref T) (wipe σ vs) (upd H T (.tup [kV k, v])) fun σ2 H2 => wipe σ2 vs = wipe σ vs ∧ tt σ2 H2 fun b H3 =>
      if b = true then te σ2 H3 fun y H4 => ∃ acc, H4 D = some (.lst acc) ∧ acc.length < sizeLine ∧ Pv (i + 1) (upd H4 D (.lst (acc ++ [y]))) else Pv (i + 1) H3) (hd : ∀ H, Pv kvs.length H → Qd H) :
    ∃ W : Nat → Nat → Hp → Prop, (∃ m, W 0 m (upd H1 D (.lst []))) ∧ ∀ i m H, W i m H →
      ((Iti d o kvs).stop i H ∧ Qd H) ∨ ((Iti d o kvs).go i H ∧ ∃ Nx : Hp → Prop, (∀ H', Nx H' → ∃ m', m' < m ∧ W (i + 1) m' H') ∧ ∀ x H', (Iti d o kvs).yld i H x H' → g x (wipe σ vs) H' fun σ2 H2 => wipe σ2 vs = wipe σ vs ∧ tt σ2 H2 fun b H3 =>
        if b = true then te σ2 H3 fun y H4 => ∃ acc, H4 D = some (.lst acc) ∧ acc.length < sizeLine ∧ Nx (upd H4 D (.lst (acc ++ [y]))) else Nx H3) := by
  refine ⟨fun i m H => m = kvs.length - i ∧ i ≤ kvs.length ∧ Pv i H, ⟨kvs.length, rfl, Nat.zero_le _, h0⟩, ?_⟩
  rintro i m H ⟨rfl, hi, p⟩
  by_cases hlt : i < kvs.length
  · refine .inr ⟨⟨hl i H p, hlt⟩, Pv (i + 1), fun H' p' => ⟨kvs.length - (i + 1), by omega, rfl, hlt, p'⟩, ?_⟩
    rintro x H' ⟨T, k, v, e1, rfl, e2, rfl⟩
    exact hs i k v T H e1 e2 p
  · have e : i = kvs.length := by omega
    subst e
    exact .inl ⟨⟨hl _ H p, Nat.le_refl _⟩, hd H p⟩
theorem lc_keys (Pv : Nat → Hp → Prop) (h0 : Pv 0 (upd H1 D (.lst []))) (hl : ∀ i H, Pv i H → H d = some (.frz o (.dK kvs)))
    (hs : ∀ i k v H, kvs[i]? = some (k, v) → Pv i H → g (kV k) (wipe σ vs) H fun σ2 H2 => wipe σ2 vs = wipe σ vs ∧ tt σ2 H2 fun b H3 =>
      if b = true then te σ2 H3 fun y H4 => ∃ acc, H4 D = some (.lst acc) ∧ acc.length < sizeLine ∧ Pv (i + 1) (upd H4 D (.lst (acc ++ [y]))) else Pv (i + 1) H3) (hd : ∀ H, Pv kvs.length H → Qd H) :
    ∃ W : Nat → Nat → Hp → Prop, (∃ m, W 0 m (upd H1 D (.lst []))) ∧ ∀ i m H, W i m H →
      ((Itk d o kvs).stop i H ∧ Qd H) ∨ ((Itk d o kvs).go i H ∧ ∃ Nx : Hp → Prop, (∀ H', Nx H' → ∃ m', m' < m ∧ W (i + 1) m' H') ∧ ∀ x H', (Itk d o kvs).yld i H x H' → g x (wipe σ vs) H' fun σ2 H2 => wipe σ2 vs = wipe σ vs ∧ tt σ2 H2 fun b H3 =>
        if b = true then te σ2 H3 fun y H4 => ∃ acc, H4 D = some (.lst acc) ∧ acc.length < sizeLine ∧ Nx (upd H4 D (.lst (acc ++ [y]))) else Nx H3) := by
  refine ⟨fun i m H => m = kvs.length - i ∧ i ≤ kvs.length ∧ Pv i H, ⟨kvs.length, rfl, Nat.zero_le _, h0⟩, ?_⟩
  rintro i m H ⟨rfl, hi, p⟩
  by_cases hlt : i < kvs.length
  · refine .inr ⟨⟨hl i H p, hlt⟩, Pv (i + 1), fun H' p' => ⟨kvs.length - (i + 1), by omega, rfl, hlt, p'⟩, ?_⟩
    rintro x H' ⟨rfl, k, v, e1, rfl⟩
    exact hs i k v _ e1 p
  · have e : i = kvs.length := by omega
    subst e
    exact .inl ⟨⟨hl _ H p, Nat.le_refl _⟩, hd H p⟩
end
/-! ### lists of lists of ints -/
/-- at p a list of lists of ints, each new since H0 -/
def RL (H0 H : Hp) (p : Addr) (rs : List (List Int)) : Prop := ∃ as : List Addr, H p = some (.lst (as.map V.ref)) ∧ PySem.Paired (fun b ns => IL H b ns ∧ H0 b = none ∧ b ≠ p) as rs
theorem RL.nil {H0 H : Hp} {p : Addr} (h : H p = some (.lst [])) : RL H0 H p [] := ⟨[], h, .nil⟩
theorem RL.len {H0 H : Hp} {p : Addr} {rs : List (List Int)} (h : RL H0 H p rs) : ∃ as : List Addr, H p = some (.lst (as.map V.ref)) ∧ as.length = rs.length :=
  let ⟨as, h1, h2⟩ := h
  ⟨as, h1, PySem.Paired.length h2⟩
theorem pairedRL_same {H0 H H' : Hp} {p : Addr} (s : ∀ b o, b ≠ p → H b = some o → H' b = some o) : ∀ {as : List Addr} {rs : List (List Int)}, PySem.Paired (fun b ns => IL H b ns ∧ H0 b = none ∧ b ≠ p) as rs → PySem.Paired (fun b ns => IL H' b ns ∧ H0 b = none ∧ b ≠ p) as rs
  | _, _, .nil => .nil
  | _, _, .cons ⟨h1, h2, h3⟩ t => .cons ⟨s _ _ h3 h1, h2, h3⟩ (pairedRL_same s t)
theorem paired_app {α β : Type} {R : α → β → Prop} {x : α} {y : β} (h : R x y) : ∀ {as : List α} {bs : List β}, PySem.Paired R as bs → PySem.Paired R (as ++ [x]) (bs ++ [y])
  | _, _, .nil => .cons h .nil
  | _, _, .cons h1 t => .cons h1 (paired_app h t)
theorem RL.same {H0 H H' : Hp} {p : Addr} {rs : List (List Int)} (s : Same H H') (h : RL H0 H p rs) : RL H0 H' p rs :=
  let ⟨as, h1, h2⟩ := h
  ⟨as, s _ _ h1, pairedRL_same (fun b o _ => s b o) h2⟩
theorem RL.push {H0 H : Hp} {p rg : Addr} {rs : List (List Int)} {r : List Int} (h : RL H0 H p rs) (hr : IL H rg r) (n0 : H0 rg = none) (ne : rg ≠ p) : ∃ as : List Addr, H p = some (.lst (as.map V.ref)) ∧ as.length = rs.length ∧
    RL H0 (upd H p (.lst (as.map V.ref ++ [.ref rg]))) p (rs ++ [r]) := by
  obtain ⟨as, h1, h2⟩ := h
  refine ⟨as, h1, PySem.Paired.length h2, as ++ [rg], by rw [upd_same, List.map_append]; rfl, ?_⟩
  have s : ∀ b o, b ≠ p → H b = some o → upd H p (.lst (as.map V.ref ++ [.ref rg])) b = some o := fun b o n e => by rw [upd_ne n]; exact e
  exact paired_app ⟨s _ _ ne hr, n0, ne⟩ (pairedRL_same s h2)
/-- behind a lock -/
theorem unlock_same {H H' : Hp} {d : Addr} {u : HO} (h : H d = some u) (s : SameB d H H') : Same H (upd H' d u) := fun b o e => by
  by_cases q : b = d
  · rw [q] at e ⊢
    rw [upd_same, ← h, e]
  · rw [upd_ne q]
    exact s b o q e
end Ck

namespace Ck
set_option linter.all false
set_option maxRecDepth 100000
set_option maxHeartbeats 4000000
open PySem L2 Mv
theorem atI_end (xs : List Int) (x : Int) : atI ((xs ++ [x]).map V.int) (-1) = some (V.int x) := by
  rw [List.map_append]
  exact atI_last _ _
/-- [1] told.get(x, start) / told[x] -/
theorem dget_at {H : Hp} {d : Addr} {l : List Pr} (h : Rd H d (.dK (kvsOf l))) (x : Int) : DGet H d (.int x) ((look l x).map V.int) :=
  .inl ⟨_, Sum.inl x, h, rfl, (valV_kvs l x).symm⟩
abbrev sRingsBy : Stmt := top 11
def nRingsBy : List Str := ["shuffle", "told", "found", "start", "ring", "readers", "item", "one", "other"]
theorem scRingsBy : FnScope nRingsBy ["shuffle"] (defScope sRingsBy) := ⟨rfl, rfl, rfl, by decide +kernel, rfl, by decide +kernel, by decide +kernel⟩
def spRingsBy : Sp := fun vs H Q _ => ∃ (a : Addr) (ps : List Pr), vs = [.ref a] ∧ PL H a ps ∧ ps.length ≤ 40 ∧ (keys ps).Nodup ∧
  ∀ (H' : Hp) (p : Addr), Same H H' → H p = none → RL H H' p (ringsOf (nt ps)) → Q (.ref p) H'
variable {P : Program} {w : World} {K : PySem.W.Frag} {mg : Str → Option Value} {base : Heap}
theorem ok_ringsBy {f : Addr} {fd : FuncData} (F : Fun K "rings_by" "rings_by" sRingsBy f fd) (T : Txt mg) : FnOk P w K mg base CX0 1 f fd ["shuffle"] spRingsBy := by
  refine F.ok scRingsBy (fun vs H Q E h => ?_) (fun cdv A outer s H vs Q E hr h => ?_)
  · obtain ⟨a, ps, rfl, _⟩ := h
    rfl
  · obtain ⟨a, ps, rfl, hP, hz, hnd, q⟩ := h
    refine ⟨_, pss_cons (ps_par (i := 1) (j := 2) rfl scRingsBy.nd rfl rfl (by decide) rfl rfl (pa_cons (pe_callTy (call_dictP rfl) (by rfl) T.dict (by decide +kernel) (pa_cons
        (pe_lc (own := [("item", 6)]) (g := gName 6) rfl scRingsBy.nd (pi_list (pv 0)) (blkOk_by (own := [("item", 6)]) (N := nRingsBy) (sc := defScope sRingsBy) (by decide +kernel)) (fun _ _ _ _ _ => pg_name (i := 6) scRingsBy.nd rfl (Or.inl rfl))
          (fun _ _ _ _ _ => pts_one (pt_cmpR op_ne (pe_ix (r := rIxT K) ix_tup (pv 6) pe_int (fun _ _ => rfl)) (pe_ix (r := rIxT K) ix_tup (pv 6) pe_int (fun _ _ => rfl)) (nomark _))) (fun _ _ _ _ _ => pv 6)) pa_nil))
        (pa_cons (pe_lst pa_nil) pa_nil)) (by rfl))
      (pss_cons (ps_for PassesOwn.never rfl (pi_list (pe_callB (call_sortedDI rfl) (by rfl) T.sorted (by decide +kernel) (pa_cons (pv 1) pa_nil))) (pg_name (i := 3) scRingsBy.nd rfl (Or.inl rfl))
        (pss_cons (ps_set (i := 4) scRingsBy.nd rfl (Or.inr rfl) (pe_lst (pa_cons (pv 3) pa_nil)))
        (pss_cons (ps_while PassesOwn.never (pt_cmpR (r := rIn K true) op_notIn_seq (pe_dget2 (hu_of hr) (pv 1) (pe_ix (r := rIxL K) ix_list (pv 4) (pe_un un_neg pe_int) (fun _ _ => rfl)) (pv 3) ⟨rfl, rfl, rfl, rfl⟩) (pv 4) (by rfl))
          (pss_one (ps_expr (pe_bm PySem.F.plainAttrs_list PySem.F.slot_list_append PySem.F.type_list_append mt_append (pv 4) (pa_cons (pe_dget (hu_of hr) (pv 1) (pe_ix (r := rIxL K) ix_list (pv 4) (pe_un un_neg pe_int) (fun _ _ => rfl)) (fun _ _ => rfl)) pa_nil)))))
        (pss_cons (ps_lock (ps_setLc (i := 5) (own := [("one", 7), ("other", 8)]) (g := gTup K 2 (gCons (gName 7) (gCons (gName 8) gNil))) rfl scRingsBy.nd rfl rfl (sw_true rfl rfl rfl (by decide +kernel)) (pi_items (pv 1)) (blkOk_by (own := [("one", 7), ("other", 8)]) (N := nRingsBy) (sc := defScope sRingsBy) (by decide +kernel))
            (fun _ _ _ _ _ => pg_tup rfl (pgs_cons (pg_name (i := 7) scRingsBy.nd rfl (Or.inl rfl)) (pgs_cons (pg_name (i := 8) scRingsBy.nd rfl (Or.inl rfl)) pgs_nil)))
            (fun _ _ _ _ _ => pts_one (pt_cmpR (r := rIn K false) op_in_seq (pv 8) (pv 4) (by rfl))) (fun _ _ _ _ _ => pv 7)))
        (pss_one (ps_if (PW.pt (pw_and (pt_cmpR op_eq (pe_dget1 (hu_of hr) (pv 1) (pe_ix (r := rIxL K) ix_list (pv 4) (pe_un un_neg pe_int) (fun _ _ => rfl)) ⟨rfl, rfl, rfl, rfl⟩) (pv 3) (nomark _))
          (pw_and (pt_cmpR op_eq (pv 3) (pe_callB (cr_min rfl) (by rfl) T.min (by decide +kernel) (pa_cons (pv 4) pa_nil)) (nomark _))
          (pw_and1 (pt_cmpR op_eq (pe_callB call_len_seq (by rfl) T.len PySem.boot_len (pa_cons (pv 5) pa_nil)) (pe_callB call_len_seq (by rfl) T.len PySem.boot_len (pa_cons (pv 4) pa_nil)) (nomark _))))))
          (pss_one (ps_expr (pe_bm PySem.F.plainAttrs_list PySem.F.slot_list_append PySem.F.type_list_append mt_append (pv 2) (pa_cons (pv 4) pa_nil)))) pss_nil))))))
      (pss_one (ps_ret (pv 2)))), ?_⟩
    have nd := nd_nt hnd
    have hlz : (nt ps).length ≤ 40 := Nat.le_trans (List.length_filter_le _ _) hz
    refine rd_seq (rd_par (rd_cons (rd_cb (rd_cons ?_))))
    refine rd_nt (s := 0) rfl hP (by omega) (by show 6 < 9; decide) fun D H1 nD s1 p1 => ?_
    obtain ⟨as1, hA1, hT1⟩ := id p1
    refine ⟨D, as1, kvsOf (nt ps), rfl, .inl (.inl hA1), tups_paired hT1, fun d ndd => ⟨Nat.zero_le _, fun fo nf => ⟨_, _, rfl, ?_⟩⟩⟩
    rw [merge_nil nd] at nf ⊢
    generalize hl : nt ps = l at *
    have sd : Same H (upd (upd H1 d (.dK (kvsOf l))) fo (.lst [])) := (s1.trans (same_upd ndd)).trans (same_upd nf)
    have dd : (upd (upd H1 d (.dK (kvsOf l))) fo (.lst [])) d = some (.dK (kvsOf l)) := same_upd nf _ _ upd_same
    have nfo : H fo = none := (s1.trans (same_upd ndd)).free nf
    have ff : RL H (upd (upd H1 d (.dK (kvsOf l))) fo (.lst [])) fo [] := RL.nil upd_same
    generalize upd (upd H1 d (.dK (kvsOf l))) fo (.lst []) = H2 at sd dd ff ⊢
    refine ⟨.ref d, rfl, d, _, _, rfl, .inl dd, kvs_keys l, by rw [keys, List.length_map]; omega, fun ys S perm sorted nS => ?_⟩
    have eys := skeys_eq perm sorted
    subst eys
    have sS : Same H2 (upd H2 S (.lst ((skeys l).map V.int))) := same_upd nS
    have nfoS : fo ≠ S := by
      obtain ⟨_, h, _⟩ := ff
      exact ne_of_none h nS
    refine ⟨S, rfl, ⟨_, .inl (.inl upd_same)⟩, for_list (K := K) (a := S) (xs := (skeys l).map V.int) (fun i σ Hc => ∃ y3 y4 y5 y6 y7 y8, σ = [some (.ref a), some (.ref d), some (.ref fo), y3, y4, y5, y6, y7, y8] ∧ Same H Hc ∧ Hc d = some (.dK (kvsOf l)) ∧ Hc S = some (.lst ((skeys l).map V.int)) ∧
      RL H Hc fo ((((skeys l).take i).filter (isRing l)).map (ring l))) ⟨_, _, _, _, _, _, rfl, sd.trans sS, sS _ _ dd, upd_same, ff.same sS⟩ (fun i σ Hc _ ⟨_, _, _, _, _, _, _, _, _, h, _⟩ => .inl (.inl h)) ?_ ?_⟩
    · rintro i x σ Hc hx ⟨y3, y4, y5, y6, y7, y8, rfl, sm, hd, hSc, hR⟩
      obtain ⟨c, rfl, hc⟩ := ints_get hx
      -- ring = [start]
      refine ⟨.int c, rfl, by show 1 ≤ sizeLine; decide, fun rg nrg => ?_⟩
      -- while
      let W : Nat → St → Hp → Prop := fun n σ Hx => ∃ (r : List Int) (x : Int), σ = [some (.ref a), some (.ref d), some (.ref fo), some (.int c), some (.ref rg), y5, y6, y7, y8] ∧ Same Hc Hx ∧ IL Hx rg (r ++ [x]) ∧
        ringGo n l r x = ringGo (l.length + 1) l [] c ∧ Way l c r x ∧ l.length + 1 ≤ r.length + n
      refine ⟨W, ⟨l.length + 1, [], c, rfl, same_upd nrg, upd_same, rfl, Way.start l c, by simp⟩, ?_⟩
      rintro n σ Hx ⟨r, x, rfl, smx, hrg, eG, way, hn⟩
      have hdx := smx _ _ hd
      have hq := dget_at (.inl hdx) x
      have rgl : SqL K Hx rg ((r ++ [x]).map V.int) := .inl (.inl hrg)
      have kr : c ∈ keys l := (skeys_perm l).mem_iff.mp (List.mem_of_getElem? hc)
      rcases (show (∃ v, look l x = some v ∧ v ∉ r ++ [x]) ∨ (look l x = none ∨ ∃ v, look l x = some v ∧ v ∈ r ++ [x]) by
        cases e : look l x with
        | none => exact .inr (.inl rfl)
        | some v =>
          by_cases h : v ∈ r ++ [x]
          · exact .inr (.inr ⟨v, rfl, h⟩)
          · exact .inl ⟨v, rfl, h⟩) with ⟨v, ev, hv⟩ | hstop
      · -- one more
        have hxv := (look_some nd).mp ev
        have way' := way.next nd hxv hv
        have hsh := way'.short
        rw [List.length_append] at hsh
        simp only [List.length_singleton] at hsh
        obtain ⟨m, rfl⟩ : ∃ m, n = m + 1 := ⟨n - 1, by omega⟩
        rw [ev] at hq
        refine ⟨.ref d, rfl, d, rfl, .inl ⟨_, .inl hdx⟩, .ref rg, rfl, 1, rfl, rg, _, -1, _, rfl, rfl, rgl, atI_end r x, .int c, rfl, _, hq, .ref rg, rfl, rg, _, rfl, .inl rgl, rfl, flat_ints _, _, rfl, ?_⟩
        have e1 : inV (.int v) ((r ++ [x]).map V.int) = false := by rw [inV_ints]; exact decide_eq_false hv
        refine (show (if (!inV (.int v) ((r ++ [x]).map V.int)) = true then _ else _) from ?_)
        rw [e1]
        refine iteT ⟨fun σ' H' => ∃ m', m' < m + 1 ∧ W m' σ' H', fun σ' H' h => h, ?_⟩
        refine ⟨.ref rg, rfl, .inl ⟨rfl, _, rgl⟩, .ref d, rfl, .ref rg, rfl, 1, rfl, rg, _, -1, _, rfl, rfl, rgl, atI_end r x, d, _, rfl, hq, rg, _, _, rfl, rfl, hrg, ?_, ?_⟩
        · rw [List.length_map, List.length_append]
          refine Nat.lt_of_le_of_lt (m := 1000) ?_ (by decide)
          simp only [List.length_singleton]
          omega
        · refine ⟨m, Nat.lt_succ_self m, r ++ [x], v, rfl, SameB.upd.fresh smx nrg, ?_, ?_, way', ?_⟩
          · unfold IL
            rw [upd_same, List.map_append (l₁ := r ++ [x])]
            rfl
          · rw [← eG, ringGo_go ev hv]
          · rw [List.length_append]
            simp only [List.length_singleton]
            omega
      · -- the ring is told
        rw [ringGo_stop hstop] at eG
        have eR : ring l c = r ++ [x] := by
          unfold ring
          rw [← eG]
        have eE : ringEnd l c = x := by
          unfold ringEnd
          rw [← eG]
        have e1 : ∃ z, (Option.map V.int (look l x)).getD (.int c) = .int z ∧ z ∈ r ++ [x] := by
          rcases hstop with e | ⟨v, e, hv⟩
          · exact ⟨c, by rw [e]; rfl, way.has⟩
          · exact ⟨v, by rw [e]; rfl, hv⟩
        obtain ⟨z, ez, hz2⟩ := e1
        refine ⟨.ref d, rfl, d, rfl, .inl ⟨_, .inl hdx⟩, .ref rg, rfl, 1, rfl, rg, _, -1, _, rfl, rfl, rgl, atI_end r x, .int c, rfl, _, hq, .ref rg, rfl, rg, _, rfl, .inl rgl, by rw [ez]; rfl, flat_ints _, _, rfl, ?_⟩
        rw [ez]
        refine (show (if (!inV (.int z) ((r ++ [x]).map V.int)) = true then _ else _) from ?_)
        rw [inV_ints, decide_eq_true hz2]
        refine iteF ?_
        -- readers
        have nrd : rg ≠ d := ne_of hrg hdx (by intro z; cases z)
        refine ⟨d, _, hdx, True.intro, fun od => ?_⟩
        refine rd_asg ?_
        refine ⟨.ref d, rfl, d, od, kvsOf l, rfl, upd_same, fun D5 nD5 => ?_⟩
        have nDd : D5 ≠ d := fun z => by rw [z, upd_same] at nD5; cases nD5
        have nDx : Hx D5 = none := by rw [upd_ne nDd] at nD5; exact nD5
        refine lc_items (fun i H' => SameB d Hx H' ∧ H' d = some (.frz od (.dK (kvsOf l))) ∧ IL H' D5 (((l.take i).filter fun p => decide (p.2 ∈ r ++ [x])).map (·.1)))
          ⟨fun b o n e => by rw [upd_ne (ne_of_none e nDx), upd_ne n]; exact e, by rw [upd_ne nDd.symm, upd_same], upd_same⟩ (fun i H' h => h.2.1) (fun i k v T H' hk nT ⟨sb, hf, hI⟩ => ?_) (fun H' ⟨sb, hf, hI⟩ => ?_)
        · obtain ⟨p, hp, rfl, rfl⟩ := kvs_get hk
          have hrT : upd H' T (.tup [V.int p.1, V.int p.2]) rg = some (.lst ((r ++ [x]).map V.int)) := same_upd nT _ _ (sb _ _ nrd hrg)
          refine ⟨T, _, rfl, .inl (.inl upd_same), rfl, _, _, rfl, _, _, rfl, rfl, rfl, .int p.2, rfl, .ref rg, rfl, rg, _, rfl, .inl (.inl (.inl hrT)), rfl, flat_ints _, _, rfl, ?_⟩
          refine (show (if inV (.int p.2) ((r ++ [x]).map V.int) = true then _ else _) from ?_)
          rw [inV_ints]
          have hf' : upd H' T (.tup [V.int p.1, V.int p.2]) d = some (.frz od (.dK (kvsOf l))) := same_upd nT _ _ hf
          have sb' : SameB d Hx (upd H' T (.tup [V.int p.1, V.int p.2])) := fun b o n e => same_upd nT _ _ (sb b o n e)
          have hI' := hI.same (same_upd (o := .tup [V.int p.1, V.int p.2]) nT)
          by_cases e : p.2 ∈ r ++ [x]
          · rw [decide_eq_true e]
            refine iteT ⟨.int p.1, rfl, _, hI', ?_, fun b o n e => ?_, ?_, ?_⟩
            · rw [List.length_map, List.length_map]
              refine Nat.lt_of_le_of_lt (m := 1000) ?_ (by decide)
              have h1 := List.length_filter_le (fun p : Pr => decide (p.2 ∈ r ++ [x])) (l.take i)
              rw [List.length_take] at h1
              omega
            · rw [upd_ne (ne_of_none e nDx)]
              exact sb' b o n e
            · rw [upd_ne nDd.symm]
              exact hf'
            · unfold IL
              rw [upd_same, take_succ_filter_t _ hp (decide_eq_true e), List.map_append, List.map_append]
              rfl
          · rw [decide_eq_false e]
            refine iteF ⟨sb', hf', ?_⟩
            rw [take_succ_filter_f _ hp (decide_eq_false e)]
            exact hI'
        · rw [kvs_len, List.take_length] at hI
          refine ⟨hf, ?_⟩
          have sm9 : Same Hx (upd H' d (.dK (kvsOf l))) := unlock_same hdx sb
          have hd9 : (upd H' d (.dK (kvsOf l))) d = some (.dK (kvsOf l)) := upd_same
          have hI9 : IL (upd H' d (.dK (kvsOf l))) D5 ((readers l (r ++ [x])).map (·.1)) := by
            unfold IL
            rw [upd_ne nDd]
            exact hI
          generalize upd H' d (.dK (kvsOf l)) = H9 at sm9 hd9 hI9 ⊢
          have hr9 : IL H9 rg (r ++ [x]) := sm9 _ _ hrg
          have smc : Same Hc H9 := smx.trans sm9
          have rgl9 : SqL K H9 rg ((r ++ [x]).map V.int) := .inl (.inl hr9)
          have hR9 := hR.same smc
          have skip : isRing l c = false → RL H H9 fo ((((skeys l).take (i + 1)).filter (isRing l)).map (ring l)) := fun e => by
            rw [take_succ_filter_f _ hc e]
            exact hR9
          have told := isRing_told (l := l) (c := c)
          rw [eR, eE] at told
          have isF : ¬ Told l c (r ++ [x]) x → isRing l c = false := fun h => by
            cases q : isRing l c with
            | false => rfl
            | true => exact absurd (told.mp q) h
          have hS9 := smc _ _ hSc
          have q9 := dget_at (.inl hd9) x
          by_cases hA : look l x = some c
          · rw [hA] at q9
            refine ⟨.ref d, rfl, d, rfl, .inl ⟨_, .inl hd9⟩, .ref rg, rfl, 1, rfl, rg, _, -1, _, rfl, rfl, rgl9, atI_end r x, _, q9, .int c, rfl, rfl, _, rfl, ?_⟩
            refine (show (if decide (V.int c = V.int c) = true then _ else _) from ?_)
            rw [decide_eq_true rfl]
            refine iteT ⟨.int c, rfl, .ref rg, rfl, rg, r ++ [x], rfl, rgl9, by simp, fun m hm hle => ⟨rfl, _, rfl, ?_⟩⟩
            by_cases hB : c = m
            · refine (show (if decide (V.int c = V.int m) = true then _ else _) from ?_)
              rw [decide_eq_true (congrArg V.int hB)]
              refine iteT ⟨.ref D5, rfl, D5, _, rfl, .inl (.inl (.inl hI9)), .ref rg, rfl, rg, _, rfl, .inl rgl9, rfl, _, rfl, ?_⟩
              rw [List.length_map, List.length_map, List.length_map]
              by_cases hC : (readers l (r ++ [x])).length = (r ++ [x]).length
              · have eT : isRing l c = true := told.mpr ⟨hA, fun y hy => by rw [hB]; exact hle y hy, hC⟩
                rw [hC, decide_eq_true rfl]
                obtain ⟨as, hfo, hlen, hpush⟩ := hR9.push hr9 (sm.free nrg) (fun z => by
                  obtain ⟨_, h, _⟩ := hR
                  rw [← z, nrg] at h
                  cases h)
                refine iteT ⟨.ref fo, rfl, .inl ⟨rfl, _, .inl (.inl hfo)⟩, .ref rg, rfl, fo, _, _, rfl, rfl, hfo, ?_, _, _, _, _, _, _, rfl, SameB.upd.fresh (sm.trans smc) nfo, ?_, ?_, ?_⟩
                · rw [List.length_map, hlen, List.length_map]
                  refine Nat.lt_of_le_of_lt (m := 1000) ?_ (by decide)
                  have h1 := List.length_filter_le (isRing l) ((skeys l).take i)
                  have h2 : (skeys l).length = l.length := by rw [(skeys_perm l).length_eq]; exact List.length_map ..
                  rw [List.length_take] at h1
                  omega
                · rw [upd_ne (ne_of hd9 hfo (by intro z; cases z))]
                  exact hd9
                · rw [upd_ne nfoS.symm]
                  exact hS9
                · rw [take_succ_filter_t _ hc eT, List.map_append]
                  rw [← eR] at hpush
                  exact hpush
              · rw [decide_eq_false fun z => hC (by have := V.int.inj z; omega)]
                exact iteF ⟨_, _, _, _, _, _, rfl, sm.trans smc, hd9, hS9, skip (isF fun h => hC h.2.2)⟩
            · refine (show (if decide (V.int c = V.int m) = true then _ else _) from ?_)
              rw [decide_eq_false fun z => hB (V.int.inj z)]
              exact iteF ⟨_, _, _, _, _, _, rfl, sm.trans smc, hd9, hS9, skip (isF fun h => hB (Int.le_antisymm (h.2.1 m hm) (hle c way.has)))⟩
          · have e5 : scal ((Option.map V.int (look l x)).getD .non) (.int c) = true ∧ decide ((Option.map V.int (look l x)).getD .non = .int c) = false := by
              cases e : look l x with
              | none => exact ⟨rfl, rfl⟩
              | some v => exact ⟨rfl, decide_eq_false fun z => hA (by rw [e]; exact congrArg some (V.int.inj z))⟩
            refine ⟨.ref d, rfl, d, rfl, .inl ⟨_, .inl hd9⟩, .ref rg, rfl, 1, rfl, rg, _, -1, _, rfl, rfl, rgl9, atI_end r x, _, q9, .int c, rfl, e5.1, _, rfl, ?_⟩
            rw [e5.2]
            exact iteF ⟨_, _, _, _, _, _, rfl, sm.trans smc, hd9, hS9, skip (isF fun h => hA h.1)⟩
    · rintro σ Hc ⟨y3, y4, y5, y6, y7, y8, rfl, sm, hd, hSc, hR⟩
      rw [List.length_map, List.take_length] at hR
      exact ⟨.ref fo, rfl, q Hc fo sm nfo hR⟩
end Ck

namespace Ck
set_option linter.all false
set_option maxRecDepth 100000
set_option maxHeartbeats 4000000
open PySem L2 Mv
theorem RL.older {H0 H1 H : Hp} {p : Addr} {rs : List (List Int)} (s : Same H0 H1) (h : RL H1 H p rs) : RL H0 H p rs := by
  obtain ⟨as, h1, h2⟩ := h
  refine ⟨as, h1, ?_⟩
  clear h1
  induction h2 with
  | nil => exact .nil
  | cons x _ ih => exact .cons ⟨x.1, s.free x.2.1, x.2.2⟩ ih
variable {P : Program} {w : World} {K : PySem.W.Frag} {mg : Str → Option Value} {base : Heap}
/-! ### rings -/
abbrev sRings : Stmt := top 15
def nRings : List Str := ["shuffle"]
theorem scRings : FnScope nRings ["shuffle"] (defScope sRings) := ⟨rfl, rfl, rfl, by decide +kernel, rfl, by decide +kernel, by decide +kernel⟩
def spRings : Sp := fun vs H Q _ => ∃ (a : Addr) (ps : List Pr), vs = [.ref a] ∧ PL H a ps ∧ Shf ps ∧
  ∀ (H' : Hp) (p : Addr), Same H H' → H p = none → RL H H' p (ringsOf (nt ps)) → Q (.ref p) H'
theorem ok_rings {f fS fR : Addr} {fd fdS fdR : FuncData} (F : Fun K "rings" "rings" sRings f fd)
    (GS : FnOk P w K mg base CX0 4 fS fdS ["shuffle"] spChkS) (bS : Binds K fdS ["shuffle"] []) (kS : PySem.W.keepIn K (.ref fS) = true) (gS : mg "check_shuffle" = some (.ref fS))
    (GR : FnOk P w K mg base CX0 1 fR fdR ["shuffle"] spRingsBy) (bR : Binds K fdR ["shuffle"] []) (kR : PySem.W.keepIn K (.ref fR) = true) (gR : mg "rings_by" = some (.ref fR)) :
    FnOk P w K mg base CX0 5 f fd ["shuffle"] spRings := by
  refine F.ok scRings (fun vs H Q E h => ?_) (fun cdv A outer s H vs Q E hr h => ?_)
  · obtain ⟨a, ps, rfl, _⟩ := h
    rfl
  · obtain ⟨a, ps, rfl, hP, hS, q⟩ := h
    refine ⟨_, pss_cons (ps_expr (pe_call GS hr (by rfl) gS kS bS .nil pass0 (pa_cons (pv 0) pa_nil)))
      (pss_one (ps_ret (pe_call GR (hr.mono (by decide)) (by rfl) gR kR bR .nil pass0 (pa_cons (pv 0) pa_nil)))), ?_⟩
    refine ⟨.ref a, rfl, a, ps, rfl, hP, hS, fun H1 s1 => ?_⟩
    refine ⟨.ref a, rfl, a, ps, rfl, hP.same s1, hS.len, hS.nd, fun H2 p s2 np hR => ?_⟩
    exact q H2 p (s1.trans s2) (s1.free np) (hR.older s1)
/-! ### fewest_moves -/
abbrev sFew : Stmt := top 16
def nFew : List Str := ["shuffle", "item"]
theorem scFew : FnScope nFew ["shuffle"] (defScope sFew) := ⟨rfl, rfl, rfl, by decide +kernel, rfl, by decide +kernel, by decide +kernel⟩
def spFew : Sp := fun vs H Q _ => ∃ (a : Addr) (ps : List Pr), vs = [.ref a] ∧ PL H a ps ∧ Shf ps ∧
  ∀ (H' : Hp), Same H H' → Q (.int (((nt ps).length : Nat) + ((ringsOf (nt ps)).length : Nat))) H'
theorem ok_few {f fS fR : Addr} {fd fdS fdR : FuncData} (F : Fun K "fewest_moves" "fewest_moves" sFew f fd) (T : Txt mg)
    (GS : FnOk P w K mg base CX0 4 fS fdS ["shuffle"] spChkS) (bS : Binds K fdS ["shuffle"] []) (kS : PySem.W.keepIn K (.ref fS) = true) (gS : mg "check_shuffle" = some (.ref fS))
    (GR : FnOk P w K mg base CX0 1 fR fdR ["shuffle"] spRingsBy) (bR : Binds K fdR ["shuffle"] []) (kR : PySem.W.keepIn K (.ref fR) = true) (gR : mg "rings_by" = some (.ref fR)) :
    FnOk P w K mg base CX0 5 f fd ["shuffle"] spFew := by
  refine F.ok scFew (fun vs H Q E h => ?_) (fun cdv A outer s H vs Q E hr h => ?_)
  · obtain ⟨a, ps, rfl, _⟩ := h
    rfl
  · obtain ⟨a, ps, rfl, hP, hS, q⟩ := h
    refine ⟨_, pss_cons (ps_expr (pe_call GS hr (by rfl) gS kS bS .nil pass0 (pa_cons (pv 0) pa_nil)))
      (pss_one (ps_ret (pe_op op_add (pe_callB call_len_seq (by rfl) T.len PySem.boot_len (pa_cons
          (pe_lc (own := [("item", 1)]) (g := gName 1) rfl scFew.nd (pi_list (pv 0)) (blkOk_by (own := [("item", 1)]) (N := nFew) (sc := defScope sFew) (by decide +kernel)) (fun _ _ _ _ _ => pg_name (i := 1) scFew.nd rfl (Or.inl rfl))
            (fun _ _ _ _ _ => pts_one (pt_cmpR op_ne (pe_ix (r := rIxT K) ix_tup (pv 1) pe_int (fun _ _ => rfl)) (pe_ix (r := rIxT K) ix_tup (pv 1) pe_int (fun _ _ => rfl)) (nomark _))) (fun _ _ _ _ _ => pv 1)) pa_nil))
        (pe_callB call_len_seq (by rfl) T.len PySem.boot_len (pa_cons (pe_call GR (hr.mono (by decide)) (by rfl) gR kR bR .nil pass0 (pa_cons (pv 0) pa_nil)) pa_nil))))), ?_⟩
    refine ⟨.ref a, rfl, a, ps, rfl, hP, hS, fun H1 s1 => ?_⟩
    dsimp only
    refine rd_ret (rd_op (rd_cb (rd_cons ?_)))
    have hz := hS.len
    refine rd_nt (s := 0) rfl (hP.same s1) (by omega) (by show 1 < 2; decide) fun D H2 nD s2 p2 => ?_
    obtain ⟨bs, hb, tb⟩ := id p2
    refine ⟨D, _, rfl, .inl (.inl (.inl hb)), ?_⟩
    refine ⟨.ref a, rfl, a, ps, rfl, (hP.same s1).same s2, hS.len, hS.nd, fun H3 p s3 np hR => ?_⟩
    obtain ⟨cs, hc, hcl⟩ := hR.len
    refine ⟨p, _, rfl, .inl (.inl (.inl hc)), _, _, rfl, rfl, ?_⟩
    have := q H3 ((s1.trans s2).trans s3)
    rw [List.length_map, List.length_map, hcl, tb.len]
    exact this
end Ck

namespace Ck
set_option linter.all false
set_option maxRecDepth 100000
set_option maxHeartbeats 4000000
open PySem L2 Mv
theorem atI_len (xs : List Int) (x : Int) : atI ((xs ++ [x]).map V.int) ((((xs ++ [x]).map V.int).length : Int) - 1) = some (V.int x) := by
  have e : ((((xs ++ [x]).map V.int).length : Int) - 1) = ((xs.length : Nat) : Int) := by
    rw [List.length_map, List.length_append]
    simp only [List.length_singleton]
    omega
  rw [e]
  refine atI_nat (j := xs.length) ?_
  simp
abbrev sLRings : Stmt := top 25
def nLRings : List Str := ["_law_shuffle_here", "_law_told", "_law_found", "_law_start", "_law_ring", "_law_readers", "_law_pair", "_law_one"]
theorem scLRings : FnScope nLRings ["_law_shuffle_here"] (defScope sLRings) := ⟨rfl, rfl, rfl, by decide +kernel, rfl, by decide +kernel, by decide +kernel⟩
def spLRings : Sp := fun vs H Q _ => ∃ (a : Addr) (ps : List Pr), vs = [.ref a] ∧ PL H a ps ∧ ps.length ≤ 40 ∧ (keys ps).Nodup ∧
  ∀ (H' : Hp) (p : Addr), Same H H' → H p = none → RL H H' p (ringsOf (nt ps)) → Q (.ref p) H'
variable {P : Program} {w : World} {K : PySem.W.Frag} {mg : Str → Option Value} {base : Heap}
theorem ok_lRings {f : Addr} {fd : FuncData} (F : Fun K "_law_rings" "_law_rings" sLRings f fd) (T : Txt mg) : FnOk P w K mg base CX0 1 f fd ["_law_shuffle_here"] spLRings := by
  refine F.ok scLRings (fun vs H Q E h => ?_) (fun cdv A outer s H vs Q E hr h => ?_)
  · obtain ⟨a, ps, rfl, _⟩ := h
    rfl
  · obtain ⟨a, ps, rfl, hP, hz, hnd, q⟩ := h
    refine ⟨_, pss_cons (ps_asg (pe_tup (pa_cons (pe_callTy (call_dictP rfl) (by rfl) T.dict (by decide +kernel) (pa_cons
        (pe_lc (own := [("_law_pair", 6)]) (g := gName 6) rfl scLRings.nd (pi_list (pv 0)) (blkOk_by (own := [("_law_pair", 6)]) (N := nLRings) (sc := defScope sLRings) (by decide +kernel)) (fun _ _ _ _ _ => pg_name (i := 6) scLRings.nd rfl (Or.inl rfl))
          (fun _ _ _ _ _ => pts_one (pt_cmpR op_ne (pe_ix (r := rIxT K) ix_tup (pv 6) pe_int (fun _ _ => rfl)) (pe_ix (r := rIxT K) ix_tup (pv 6) pe_int (fun _ _ => rfl)) (nomark _))) (fun _ _ _ _ _ => pv 6)) pa_nil))
        (pa_cons (pe_lst pa_nil) pa_nil))) (pg_tup rfl (pgs_cons (pg_name (i := 1) scLRings.nd rfl (Or.inr rfl)) (pgs_cons (pg_name (i := 2) scLRings.nd rfl (Or.inl rfl)) pgs_nil))))
      (pss_cons (ps_for PassesOwn.never rfl (pi_list (pe_callB (call_sortedDI rfl) (by rfl) T.sorted (by decide +kernel) (pa_cons (pv 1) pa_nil))) (pg_name (i := 3) scLRings.nd rfl (Or.inl rfl))
        (pss_cons (ps_set (i := 4) scLRings.nd rfl (Or.inr rfl) (pe_lst (pa_cons (pv 3) pa_nil)))
        (pss_cons (ps_while PassesOwn.never (PW.pt (pw_and (pt_cmpR op_notN (pe_dget1 (hu_of hr) (pv 1) (pe_ix (r := rIxL K) ix_list (pv 4) (pe_op op_sub (pe_callB call_len_seq (by rfl) T.len PySem.boot_len (pa_cons (pv 4) pa_nil)) pe_int) (fun _ _ => rfl)) ⟨rfl, rfl, rfl, rfl⟩) pe_non (nomark _))
            (pw_and1 (pt_cmpR (r := rIn K true) op_notIn_seq (pe_dget (hu_of hr) (pv 1) (pe_ix (r := rIxL K) ix_list (pv 4) (pe_op op_sub (pe_callB call_len_seq (by rfl) T.len PySem.boot_len (pa_cons (pv 4) pa_nil)) pe_int) (fun _ _ => rfl)) (fun _ _ => rfl)) (pv 4) (by rfl)))))
          (pss_one (ps_expr (pe_bm PySem.F.plainAttrs_list PySem.F.slot_list_append PySem.F.type_list_append mt_append (pv 4) (pa_cons (pe_dget (hu_of hr) (pv 1) (pe_ix (r := rIxL K) ix_list (pv 4) (pe_op op_sub (pe_callB call_len_seq (by rfl) T.len PySem.boot_len (pa_cons (pv 4) pa_nil)) pe_int) (fun _ _ => rfl)) (fun _ _ => rfl)) pa_nil)))))
        (pss_cons (ps_lock (ps_setLc (i := 5) (own := [("_law_one", 7)]) (g := gName 7) rfl scLRings.nd rfl rfl (sw_true rfl rfl rfl (by decide +kernel)) (pi_keys (pv 1)) (blkOk_by (own := [("_law_one", 7)]) (N := nLRings) (sc := defScope sLRings) (by decide +kernel))
            (fun _ _ _ _ _ => pg_name (i := 7) scLRings.nd rfl (Or.inl rfl))
            (fun _ _ _ _ _ => pts_one (pt_cmpR (r := rIn K false) op_in_seq (pe_dget (hu_of hr) (pv 1) (pv 7) (fun _ _ => rfl)) (pv 4) (by rfl))) (fun _ _ _ _ _ => pv 7)))
        (pss_one (ps_if (PW.pt (pw_and (pt_cmpR op_eq (pe_dget1 (hu_of hr) (pv 1) (pe_ix (r := rIxL K) ix_list (pv 4) (pe_op op_sub (pe_callB call_len_seq (by rfl) T.len PySem.boot_len (pa_cons (pv 4) pa_nil)) pe_int) (fun _ _ => rfl)) ⟨rfl, rfl, rfl, rfl⟩) (pv 3) (nomark _))
          (pw_and (pt_cmpR op_eq (pe_callB (cr_min rfl) (by rfl) T.min (by decide +kernel) (pa_cons (pv 4) pa_nil)) (pv 3) (nomark _))
          (pw_and1 (pt_cmpR op_eq (pe_callB call_len_seq (by rfl) T.len PySem.boot_len (pa_cons (pv 5) pa_nil)) (pe_callB call_len_seq (by rfl) T.len PySem.boot_len (pa_cons (pv 4) pa_nil)) (nomark _))))))
          (pss_one (ps_expr (pe_bm PySem.F.plainAttrs_list PySem.F.slot_list_append PySem.F.type_list_append mt_append (pv 2) (pa_cons (pv 4) pa_nil)))) pss_nil))))))
      (pss_one (ps_ret (pv 2)))), ?_⟩
    have nd := nd_nt hnd
    have hlz : (nt ps).length ≤ 40 := Nat.le_trans (List.length_filter_le _ _) hz
    refine rd_seq (rd_asgG (rd_tup (rd_cons (rd_cb (rd_cons ?_)))))
    refine rd_nt (s := 0) rfl hP (by omega) (by show 6 < 8; decide) fun D H1 nD s1 p1 => ?_
    obtain ⟨as1, hA1, hT1⟩ := id p1
    refine ⟨D, as1, kvsOf (nt ps), rfl, .inl (.inl hA1), tups_paired hT1, fun d ndd => ⟨Nat.zero_le _, fun fo nf => ⟨by show 2 ≤ sizeLine; decide, fun tt ntt => ⟨tt, _, rfl, .inl (.inl upd_same), rfl, _, _, rfl, _, _, rfl, rfl, ?_⟩⟩⟩⟩
    rw [merge_nil nd] at nf ntt ⊢
    generalize hl : nt ps = l at *
    have sd := ((s1.trans (same_upd (o := .dK (kvsOf l)) ndd)).trans (same_upd (o := .lst []) nf)).trans (same_upd (o := .tup [.ref d, .ref fo]) ntt)
    have dd : (upd (upd (upd H1 d (.dK (kvsOf l))) fo (.lst [])) tt (.tup [.ref d, .ref fo])) d = some (.dK (kvsOf l)) := same_upd ntt _ _ (same_upd nf _ _ upd_same)
    have nfo : H fo = none := (s1.trans (same_upd ndd)).free nf
    have ff : RL H (upd (upd (upd H1 d (.dK (kvsOf l))) fo (.lst [])) tt (.tup [.ref d, .ref fo])) fo [] := RL.nil (same_upd ntt _ _ upd_same)
    generalize upd (upd (upd H1 d (.dK (kvsOf l))) fo (.lst [])) tt (.tup [.ref d, .ref fo]) = H2 at sd dd ff ⊢
    refine ⟨.ref d, rfl, d, _, _, rfl, .inl dd, kvs_keys l, by rw [keys, List.length_map]; omega, fun ys S perm sorted nS => ?_⟩
    have eys := skeys_eq perm sorted
    subst eys
    have sS : Same H2 (upd H2 S (.lst ((skeys l).map V.int))) := same_upd nS
    have nfoS : fo ≠ S := by
      obtain ⟨_, h, _⟩ := ff
      exact ne_of_none h nS
    refine ⟨S, rfl, ⟨_, .inl (.inl upd_same)⟩, for_list (K := K) (a := S) (xs := (skeys l).map V.int) (fun i σ Hc => ∃ y3 y4 y5 y6 y7, σ = [some (.ref a), some (.ref d), some (.ref fo), y3, y4, y5, y6, y7] ∧ Same H Hc ∧ Hc d = some (.dK (kvsOf l)) ∧ Hc S = some (.lst ((skeys l).map V.int)) ∧
      RL H Hc fo ((((skeys l).take i).filter (isRing l)).map (ring l))) ⟨_, _, _, _, _, rfl, sd.trans sS, sS _ _ dd, upd_same, ff.same sS⟩ (fun i σ Hc _ ⟨_, _, _, _, _, _, _, _, h, _⟩ => .inl (.inl h)) ?_ ?_⟩
    · rintro i x σ Hc hx ⟨y3, y4, y5, y6, y7, rfl, sm, hd, hSc, hR⟩
      obtain ⟨c, rfl, hc⟩ := ints_get hx
      -- ring = [start]
      refine ⟨.int c, rfl, by show 1 ≤ sizeLine; decide, fun rg nrg => ?_⟩
      -- while
      let W : Nat → St → Hp → Prop := fun n σ Hx => ∃ (r : List Int) (x : Int), σ = [some (.ref a), some (.ref d), some (.ref fo), some (.int c), some (.ref rg), y5, y6, y7] ∧ Same Hc Hx ∧ IL Hx rg (r ++ [x]) ∧
        ringGo n l r x = ringGo (l.length + 1) l [] c ∧ Way l c r x ∧ l.length + 1 ≤ r.length + n
      refine ⟨W, ⟨l.length + 1, [], c, rfl, same_upd nrg, upd_same, rfl, Way.start l c, by simp⟩, ?_⟩
      rintro n σ Hx ⟨r, x, rfl, smx, hrg, eG, way, hn⟩
      have hdx := smx _ _ hd
      have hq := dget_at (.inl hdx) x
      have rgl : SqL K Hx rg ((r ++ [x]).map V.int) := .inl (.inl hrg)
      have kr : c ∈ keys l := (skeys_perm l).mem_iff.mp (List.mem_of_getElem? hc)
      rcases (show (∃ v, look l x = some v ∧ v ∉ r ++ [x]) ∨ (look l x = none ∨ ∃ v, look l x = some v ∧ v ∈ r ++ [x]) by
        cases e : look l x with
        | none => exact .inr (.inl rfl)
        | some v =>
          by_cases h : v ∈ r ++ [x]
          · exact .inr (.inr ⟨v, rfl, h⟩)
          · exact .inl ⟨v, rfl, h⟩) with ⟨v, ev, hv⟩ | hstop
      · -- one more
        have hxv := (look_some nd).mp ev
        have way' := way.next nd hxv hv
        have hsh := way'.short
        rw [List.length_append] at hsh
        simp only [List.length_singleton] at hsh
        obtain ⟨m, rfl⟩ : ∃ m, n = m + 1 := ⟨n - 1, by omega⟩
        rw [ev] at hq
        refine ⟨.ref d, rfl, d, rfl, .inl ⟨_, .inl hdx⟩, .ref rg, rfl, .ref rg, rfl, rg, _, rfl, .inl rgl, _, 1, rfl, rfl, rg, _, _, _, rfl, rfl, rgl, atI_len r x, _, hq, rfl, _, rfl, iteT ⟨.ref d, rfl, .ref rg, rfl, .ref rg, rfl, rg, _, rfl, .inl rgl, _, 1, rfl, rfl, rg, _, _, _, rfl, rfl, rgl, atI_len r x, d, _, rfl, hq, .ref rg, rfl, rg, _, rfl, .inl rgl, rfl, flat_ints _, _, rfl, ?_⟩⟩
        have e1 : inV (.int v) ((r ++ [x]).map V.int) = false := by rw [inV_ints]; exact decide_eq_false hv
        refine (show (if (!inV (.int v) ((r ++ [x]).map V.int)) = true then _ else _) from ?_)
        rw [e1]
        refine iteT ⟨fun σ' H' => ∃ m', m' < m + 1 ∧ W m' σ' H', fun σ' H' h => h, ?_⟩
        refine ⟨.ref rg, rfl, .inl ⟨rfl, _, rgl⟩, .ref d, rfl, .ref rg, rfl, .ref rg, rfl, rg, _, rfl, .inl rgl, _, 1, rfl, rfl, rg, _, _, _, rfl, rfl, rgl, atI_len r x, d, _, rfl, hq, rg, _, _, rfl, rfl, hrg, ?_, ?_⟩
        · rw [List.length_map, List.length_append]
          refine Nat.lt_of_le_of_lt (m := 1000) ?_ (by decide)
          simp only [List.length_singleton]
          omega
        · refine ⟨m, Nat.lt_succ_self m, r ++ [x], v, rfl, SameB.upd.fresh smx nrg, ?_, ?_, way', ?_⟩
          · unfold IL
            rw [upd_same, List.map_append (l₁ := r ++ [x])]
            rfl
          · rw [← eG, ringGo_go ev hv]
          · rw [List.length_append]
            simp only [List.length_singleton]
            omega
      · -- the ring is told
        rw [ringGo_stop hstop] at eG
        have eR : ring l c = r ++ [x] := by
          unfold ring
          rw [← eG]
        have eE : ringEnd l c = x := by
          unfold ringEnd
          rw [← eG]
        rcases hstop with e | ⟨v, e, hv⟩ <;> (rw [e] at hq; first
          | refine ⟨.ref d, rfl, d, rfl, .inl ⟨_, .inl hdx⟩, .ref rg, rfl, .ref rg, rfl, rg, _, rfl, .inl rgl, _, 1, rfl, rfl, rg, _, _, _, rfl, rfl, rgl, atI_len r x, _, hq, rfl, _, rfl, iteF ?_⟩
          | refine ⟨.ref d, rfl, d, rfl, .inl ⟨_, .inl hdx⟩, .ref rg, rfl, .ref rg, rfl, rg, _, rfl, .inl rgl, _, 1, rfl, rfl, rg, _, _, _, rfl, rfl, rgl, atI_len r x, _, hq, rfl, _, rfl, iteT ⟨.ref d, rfl, .ref rg, rfl, .ref rg, rfl, rg, _, rfl, .inl rgl, _, 1, rfl, rfl, rg, _, _, _, rfl, rfl, rgl, atI_len r x, d, _, rfl, hq, .ref rg, rfl, rg, _, rfl, .inl rgl, rfl, flat_ints _, _, rfl, ?_⟩⟩)
        rotate_left
        refine (show (if (!inV (.int v) ((r ++ [x]).map V.int)) = true then _ else _) from ?_)
        rw [inV_ints, decide_eq_true hv]
        refine iteF ?_
        all_goals
          -- readers
          have nrd : rg ≠ d := ne_of hrg hdx (by intro z; cases z)
          refine ⟨d, _, hdx, True.intro, fun od => ?_⟩
          refine rd_asg ?_
          refine ⟨.ref d, rfl, d, od, rfl, .inl ⟨kvsOf l, upd_same, fun D5 nD5 => ?_⟩⟩
          have nDd : D5 ≠ d := fun z => by rw [z, upd_same] at nD5; cases nD5
          have nDx : Hx D5 = none := by rw [upd_ne nDd] at nD5; exact nD5
          refine lc_keys (fun i H' => SameB d Hx H' ∧ H' d = some (.frz od (.dK (kvsOf l))) ∧ IL H' D5 (((l.take i).filter fun p => decide (p.2 ∈ r ++ [x])).map (·.1)))
            ⟨fun b o n e => by rw [upd_ne (ne_of_none e nDx), upd_ne n]; exact e, by rw [upd_ne nDd.symm, upd_same], upd_same⟩ (fun i H' h => h.2.1) (fun i k v H' hk ⟨sb, hf, hI⟩ => ?_) (fun H' ⟨sb, hf, hI⟩ => ?_)
          · obtain ⟨p, hp, rfl, rfl⟩ := kvs_get hk
            have hr' : H' rg = some (.lst ((r ++ [x]).map V.int)) := sb _ _ nrd hrg
            have hlk := (look_some nd).mpr (show (p.1, p.2) ∈ l from List.mem_of_getElem? hp)
            have hq' := dget_at (.inr ⟨od, hf⟩) p.1
            rw [hlk] at hq'
            refine ⟨rfl, .ref d, rfl, .int p.1, rfl, d, .int p.2, rfl, hq', .ref rg, rfl, rg, _, rfl, .inl (.inl (.inl hr')), rfl, flat_ints _, _, rfl, ?_⟩
            refine (show (if inV (.int p.2) ((r ++ [x]).map V.int) = true then _ else _) from ?_)
            rw [inV_ints]
            have hf' := hf
            have sb' := sb
            have hI' := hI
            by_cases e : p.2 ∈ r ++ [x]
            · rw [decide_eq_true e]
              refine iteT ⟨.int p.1, rfl, _, hI', ?_, fun b o n e => ?_, ?_, ?_⟩
              · rw [List.length_map, List.length_map]
                refine Nat.lt_of_le_of_lt (m := 1000) ?_ (by decide)
                have h1 := List.length_filter_le (fun p : Pr => decide (p.2 ∈ r ++ [x])) (l.take i)
                rw [List.length_take] at h1
                omega
              · rw [upd_ne (ne_of_none e nDx)]
                exact sb' b o n e
              · rw [upd_ne nDd.symm]
                exact hf'
              · unfold IL
                rw [upd_same, take_succ_filter_t _ hp (decide_eq_true e), List.map_append, List.map_append]
                rfl
            · rw [decide_eq_false e]
              refine iteF ⟨sb', hf', ?_⟩
              rw [take_succ_filter_f _ hp (decide_eq_false e)]
              exact hI'
          · rw [kvs_len, List.take_length] at hI
            refine ⟨hf, ?_⟩
            have sm9 : Same Hx (upd H' d (.dK (kvsOf l))) := unlock_same hdx sb
            have hd9 : (upd H' d (.dK (kvsOf l))) d = some (.dK (kvsOf l)) := upd_same
            have hI9 : IL (upd H' d (.dK (kvsOf l))) D5 ((readers l (r ++ [x])).map (·.1)) := by
              unfold IL
              rw [upd_ne nDd]
              exact hI
            generalize upd H' d (.dK (kvsOf l)) = H9 at sm9 hd9 hI9 ⊢
            have hr9 : IL H9 rg (r ++ [x]) := sm9 _ _ hrg
            have smc : Same Hc H9 := smx.trans sm9
            have rgl9 : SqL K H9 rg ((r ++ [x]).map V.int) := .inl (.inl hr9)
            have hR9 := hR.same smc
            have skip : isRing l c = false → RL H H9 fo ((((skeys l).take (i + 1)).filter (isRing l)).map (ring l)) := fun e => by
              rw [take_succ_filter_f _ hc e]
              exact hR9
            have told := isRing_told (l := l) (c := c)
            rw [eR, eE] at told
            have isF : ¬ Told l c (r ++ [x]) x → isRing l c = false := fun h => by
              cases q : isRing l c with
              | false => rfl
              | true => exact absurd (told.mp q) h
            have hS9 := smc _ _ hSc
            have q9 := dget_at (.inl hd9) x
            by_cases hA : look l x = some c
            · rw [hA] at q9
              refine ⟨.ref d, rfl, d, rfl, .inl ⟨_, .inl hd9⟩, .ref rg, rfl, .ref rg, rfl, rg, _, rfl, .inl rgl9, _, 1, rfl, rfl, rg, _, _, _, rfl, rfl, rgl9, atI_len r x, _, q9, .int c, rfl, rfl, _, rfl, ?_⟩
              refine (show (if decide (V.int c = V.int c) = true then _ else _) from ?_)
              rw [decide_eq_true rfl]
              refine iteT ⟨.ref rg, rfl, rg, r ++ [x], rfl, rgl9, by simp, fun m hm hle => ⟨.int c, rfl, rfl, _, rfl, ?_⟩⟩
              by_cases hB : c = m
              · refine (show (if decide (V.int m = V.int c) = true then _ else _) from ?_)
                rw [decide_eq_true (congrArg V.int hB.symm)]
                refine iteT ⟨.ref D5, rfl, D5, _, rfl, .inl (.inl (.inl hI9)), .ref rg, rfl, rg, _, rfl, .inl rgl9, rfl, _, rfl, ?_⟩
                rw [List.length_map, List.length_map, List.length_map]
                by_cases hC : (readers l (r ++ [x])).length = (r ++ [x]).length
                · have eT : isRing l c = true := told.mpr ⟨hA, fun y hy => by rw [hB]; exact hle y hy, hC⟩
                  rw [hC, decide_eq_true rfl]
                  obtain ⟨as, hfo, hlen, hpush⟩ := hR9.push hr9 (sm.free nrg) (fun z => by
                    obtain ⟨_, h, _⟩ := hR
                    rw [← z, nrg] at h
                    cases h)
                  refine iteT ⟨.ref fo, rfl, .inl ⟨rfl, _, .inl (.inl hfo)⟩, .ref rg, rfl, fo, _, _, rfl, rfl, hfo, ?_, _, _, _, _, _, rfl, SameB.upd.fresh (sm.trans smc) nfo, ?_, ?_, ?_⟩
                  · rw [List.length_map, hlen, List.length_map]
                    refine Nat.lt_of_le_of_lt (m := 1000) ?_ (by decide)
                    have h1 := List.length_filter_le (isRing l) ((skeys l).take i)
                    have h2 : (skeys l).length = l.length := by rw [(skeys_perm l).length_eq]; exact List.length_map ..
                    rw [List.length_take] at h1
                    omega
                  · rw [upd_ne (ne_of hd9 hfo (by intro z; cases z))]
                    exact hd9
                  · rw [upd_ne nfoS.symm]
                    exact hS9
                  · rw [take_succ_filter_t _ hc eT, List.map_append]
                    rw [← eR] at hpush
                    exact hpush
                · rw [decide_eq_false fun z => hC (by have := V.int.inj z; omega)]
                  exact iteF ⟨_, _, _, _, _, rfl, sm.trans smc, hd9, hS9, skip (isF fun h => hC h.2.2)⟩
              · refine (show (if decide (V.int m = V.int c) = true then _ else _) from ?_)
                rw [decide_eq_false fun z => hB (V.int.inj z).symm]
                exact iteF ⟨_, _, _, _, _, rfl, sm.trans smc, hd9, hS9, skip (isF fun h => hB (Int.le_antisymm (h.2.1 m hm) (hle c way.has)))⟩
            · have e5 : scal ((Option.map V.int (look l x)).getD .non) (.int c) = true ∧ decide ((Option.map V.int (look l x)).getD .non = .int c) = false := by
                cases e : look l x with
                | none => exact ⟨rfl, rfl⟩
                | some v => exact ⟨rfl, decide_eq_false fun z => hA (by rw [e]; exact congrArg some (V.int.inj z))⟩
              refine ⟨.ref d, rfl, d, rfl, .inl ⟨_, .inl hd9⟩, .ref rg, rfl, .ref rg, rfl, rg, _, rfl, .inl rgl9, _, 1, rfl, rfl, rg, _, _, _, rfl, rfl, rgl9, atI_len r x, _, q9, .int c, rfl, e5.1, _, rfl, ?_⟩
              rw [e5.2]
              exact iteF ⟨_, _, _, _, _, rfl, sm.trans smc, hd9, hS9, skip (isF fun h => hA h.1)⟩
    · rintro σ Hc ⟨y3, y4, y5, y6, y7, rfl, sm, hd, hSc, hR⟩
      rw [List.length_map, List.take_length] at hR
      exact ⟨.ref fo, rfl, q Hc fo sm nfo hR⟩
end Ck

namespace Ck
set_option linter.all false
set_option maxRecDepth 100000
set_option maxHeartbeats 4000000
open PySem L2 Mv
/-- registers and what they hold -/
def envL (f : Int → Int) (rs : List Int) : List Pr := rs.map fun x => (x, f x)
theorem keys_env (f : Int → Int) (rs : List Int) : keys (envL f rs) = rs := by
  unfold keys envL
  rw [List.map_map]
  exact List.map_id _
theorem look_env (f : Int → Int) {rs : List Int} (nd : rs.Nodup) {x : Int} (h : x ∈ rs) : look (envL f rs) x = some (f x) :=
  (look_some (by rw [keys_env]; exact nd)).mpr (List.mem_map.mpr ⟨x, h, rfl⟩)
theorem put_env (f : Int → Int) {rs : List Int} {x : Int} (v : Int) (h : x ∈ rs) : putK (kvsOf (envL f rs)) (Sum.inl x : Key) (.int v) = kvsOf (envL (fun y => if y = x then v else f y) rs) := by
  unfold putK
  have e : ((kvsOf (envL f rs)).any fun kv => decide (kv.1 = (Sum.inl x : Key))) = true := by
    rw [List.any_eq_true]
    exact ⟨(Sum.inl x, .int (f x)), List.mem_map.mpr ⟨(x, f x), List.mem_map.mpr ⟨x, h, rfl⟩, rfl⟩, by simp⟩
  rw [e, if_pos rfl]
  unfold kvsOf envL
  rw [List.map_map, List.map_map, List.map_map]
  refine List.map_congr_left fun y _ => ?_
  show (if (Sum.inl y : Key) = Sum.inl x then (Sum.inl y, V.int v) else (Sum.inl y, V.int (f y))) = (Sum.inl y, V.int (if y = x then v else f y))
  by_cases q : y = x
  · rw [if_pos (by rw [q]), if_pos q]
  · rw [if_neg (fun z => q (Sum.inl.inj z)), if_neg q]
abbrev sWalked : Stmt := top 23
def nWalked : List Str := ["_law_row", "_law_registers", "_law_held", "_law_one", "_law_other", "_law_spot"]
theorem scWalked : FnScope nWalked ["_law_row", "_law_registers"] (defScope sWalked) := ⟨rfl, rfl, rfl, by decide +kernel, rfl, by decide +kernel, by decide +kernel⟩
def spWalked : Sp := fun vs H Q _ => ∃ (a b : Addr) (ms : List Pr) (rs : List Int), vs = [.ref a, .ref b] ∧ PL H a ms ∧ IL H b rs ∧ rs.length ≤ 1000 ∧ rs.Nodup ∧ (∀ p ∈ ms, p.1 ∈ rs ∧ p.2 ∈ rs) ∧
  ∀ (H' : Hp) (d : Addr), Same H H' → H d = none → H' d = some (.dK (kvsOf (envL (walk ms id) rs))) → Q (.ref d) H'
variable {P : Program} {w : World} {K : PySem.W.Frag} {mg : Str → Option Value} {base : Heap}
theorem ok_walked {f : Addr} {fd : FuncData} (F : Fun K "_law_walked" "_law_walked" sWalked f fd) (T : Txt mg) : FnOk P w K mg base CX0 1 f fd ["_law_row", "_law_registers"] spWalked := by
  refine F.ok scWalked (fun vs H Q E h => ?_) (fun cdv A outer s H vs Q E hr h => ?_)
  · obtain ⟨a, b, ms, rs, rfl, _⟩ := h
    rfl
  · obtain ⟨a, b, ms, rs, rfl, hP, hI, hz, hnd, hin, q⟩ := h
    refine ⟨_, pss_cons (ps_set (i := 2) scWalked.nd rfl (Or.inl rfl) (pe_callTy (call_dictP rfl) (by rfl) T.dict (by decide +kernel) (pa_cons
        (pe_lc (own := [("_law_spot", 5)]) (g := gName 5) rfl scWalked.nd (pi_list (pv 1)) (blkOk_by (own := [("_law_spot", 5)]) (N := nWalked) (sc := defScope sWalked) (by decide +kernel)) (fun _ _ _ _ _ => pg_name (i := 5) scWalked.nd rfl (Or.inl rfl))
          (fun _ _ _ _ _ => pts_nil) (fun _ _ _ _ _ => pe_tup (pa_cons (pv 5) (pa_cons (pv 5) pa_nil)))) pa_nil)))
      (pss_cons (ps_for PassesOwn.never rfl (pi_list (pv 0)) (pg_tup rfl (pgs_cons (pg_name (i := 3) scWalked.nd rfl (Or.inl rfl)) (pgs_cons (pg_name (i := 4) scWalked.nd rfl (Or.inl rfl)) pgs_nil)))
        (pss_one (ps_dput (hu_of hr) (pv 2) (pv 3) (pe_dget (hu_of hr) (pv 2) (pv 4) (fun _ _ => rfl)) rfl)))
      (pss_one (ps_ret (pv 2)))), ?_⟩
    refine rd_seq (rd_asg (rd_cb (rd_cons ?_)))
    refine rd_ip (s := 1) rfl hI hz (fun i => envL id (rs.take i)) rfl (fun i k D H' hk hD sm c => ?_) fun D H1 hD s1 hl => ?_
    · exact ⟨rfl, .int k, rfl, .int k, rfl, by show 2 ≤ sizeLine; decide, fun t nt => c.push hD (same_upd nt) (lt_line (idx_lt hk) hz) (p := (k, k)) upd_same (take_succ_map _ hk)⟩
    · rw [List.take_length] at hl
      obtain ⟨as1, hA1, hT1⟩ := hl
      refine ⟨D, as1, kvsOf (envL id rs), rfl, .inl (.inl hA1), tups_paired hT1, fun d nd => ?_⟩
      rw [merge_nil (by rw [keys_env]; exact hnd)] at *
      have sd : Same H (upd H1 d (.dK (kvsOf (envL id rs)))) := s1.trans (same_upd nd)
      have nHd : H d = none := s1.free nd
      obtain ⟨as, hA, hT⟩ := id hP
      refine ⟨.ref a, rfl, a, rfl, ⟨_, .inl (.inl (sd _ _ hA))⟩, for_list (K := K) (a := a) (xs := as.map V.ref) (fun i σ Hc => ∃ y3 y4 y5 f, σ = [some (.ref a), some (.ref b), some (.ref d), y3, y4, y5] ∧ Same H Hc ∧ Hc d = some (.dK (kvsOf (envL f rs))) ∧ walk (ms.drop i) f = walk ms id)
        ⟨_, _, _, id, rfl, sd, upd_same, rfl⟩ (fun i σ Hc _ ⟨_, _, _, _, _, sm, _⟩ => .inl (.inl (sm _ _ hA))) ?_ ?_⟩
      · rintro i x σ Hc hx ⟨y3, y4, y5, f, rfl, sm, hd, hw⟩
        obtain ⟨t, p, rfl, hp, ht⟩ := hT.get hx
        obtain ⟨k1, k2⟩ := hin p (List.mem_of_getElem? hp)
        have hq := dget_at (.inl hd) p.2
        rw [look_env f hnd k2] at hq
        refine ⟨t, _, rfl, .inl (.inl (sm _ _ ht)), rfl, _, _, rfl, _, _, rfl, rfl, ?_⟩
        refine ⟨.ref d, rfl, .int p.2, rfl, d, _, rfl, hq, .ref d, rfl, .int p.1, rfl, d, _, rfl, DPut.k (k := Sum.inl p.1) hd ?_, ?_⟩
        · rw [kvs_len]
          show (List.map _ rs).length < sizeLine
          rw [List.length_map]
          exact Nat.lt_of_le_of_lt hz (by decide)
        · rw [put_env f (f p.2) k1]
          refine ⟨_, _, _, _, rfl, SameB.upd.fresh sm nHd, upd_same, ?_⟩
          rw [← hw, List.drop_eq_getElem_cons (idx_lt hp), show ms[i]'(idx_lt hp) = p from (List.getElem?_eq_some_iff.mp hp).2]
          rfl
      · rintro σ Hc ⟨y3, y4, y5, f, rfl, sm, hd, hw⟩
        rw [List.length_map, hT.len, List.drop_length] at hw
        have hw' : f = walk ms id := hw
        rw [hw'] at hd
        exact ⟨.ref d, rfl, q Hc d sm nHd hd⟩
end Ck

namespace Ck
set_option linter.all false
set_option maxRecDepth 100000
set_option maxHeartbeats 4000000
open PySem L2 Mv
theorem op_powW {X : Cx} : OpR X (binaryOp .Pow) (rI (fun i j => 0 ≤ j ∧ (Builtin.Int.intBits i : Int) * j ≤ 2 ^ 27) fun i j => .int (i ^ j.toNat)) := opI fun _ _ _ _ _ _ _ hc q => PyProof.Rows.pow_int hc.1 hc.2 q
theorem bits_small {i : Int} (h1 : 1 ≤ i) (h2 : i ≤ 1000) : ((Builtin.Int.intBits i : Nat) : Int) / 30 = 0 := by
  have e : Builtin.Int.intBits i = i.natAbs.log2 + 1 := by
    unfold Builtin.Int.intBits
    rw [if_neg]
    simp only [beq_iff_eq]
    omega
  have h3 : i.natAbs.log2 < 10 := (Nat.log2_lt (by omega)).mpr (by omega)
  omega
theorem mod_lo (a : Int) {b : Int} (h : 0 < b) : 0 ≤ a % b := Int.emod_nonneg a (by omega)
theorem mod_hi (a : Int) {b : Int} (h : 0 < b) : a % b < b := Int.emod_lt_of_pos a h
/-! ### _law_hash -/
abbrev sHash : Stmt := top 18
def nHash : List Str := ["_law_seed", "_law_index", "_law_mixed"]
theorem scHash : FnScope nHash ["_law_seed", "_law_index"] (defScope sHash) := ⟨rfl, rfl, rfl, by decide +kernel, rfl, by decide +kernel, by decide +kernel⟩
def spHash : Sp := fun vs H Q _ => ∃ s i : Int, vs = [.int s, .int i] ∧ 0 ≤ s ∧ s < 2147483647 ∧ 0 ≤ i ∧ i < 2 ^ 60 ∧ ∀ r : Int, Q (.int r) H
variable {P : Program} {w : World} {K : PySem.W.Frag} {mg : Str → Option Value} {base : Heap}
theorem ok_hash {f : Addr} {fd : FuncData} (F : Fun K "_law_hash" "_law_hash" sHash f fd) (T : Txt mg) : FnOk P w K mg base CX0 1 f fd ["_law_seed", "_law_index"] spHash := by
  refine F.ok scHash (fun vs H Q E h => ?_) (fun cdv A outer s H vs Q E hr h => ?_)
  · obtain ⟨s, i, rfl, _⟩ := h
    rfl
  · obtain ⟨sd, ix, rfl, s0, s1, i0, i1, q⟩ := h
    refine ⟨_, pss_cons (ps_set (i := 2) scHash.nd rfl (Or.inl rfl) (pe_op op_mod (pe_callTy call_int1 (by rfl) T.int (by decide +kernel) (pa_cons
        (pe_op op_add (pe_op op_add (pe_op op_add (pe_op op_mul (pv 0) pe_int) (pe_op op_mul (pe_op op_mul pe_int (pv 1)) (pv 1))) (pe_op op_mul pe_int (pv 1))) pe_int) pa_nil)) pe_int))
      (pss_cons (ps_set (i := 2) scHash.nd rfl (Or.inl rfl) (pe_op op_mod (pe_callTy call_int1 (by rfl) T.int (by decide +kernel) (pa_cons
        (pe_op op_add (pe_op op_add (pe_op op_mul (pv 2) (pv 2)) (pe_op op_mul pe_int (pv 1))) pe_int) pa_nil)) pe_int))
      (pss_one (ps_ret (pe_op op_mod (pe_callTy call_int1 (by rfl) T.int (by decide +kernel) (pa_cons (pe_op op_mul (pv 2) pe_int) pa_nil)) pe_int)))), ?_⟩
    refine ⟨.int sd, rfl, _, _, rfl, rfl, .inl ⟨by omega, by omega⟩, .int ix, rfl, _, _, rfl, rfl, .inl ⟨by omega, by omega⟩, .int ix, rfl, _, _, rfl, rfl, .inr ⟨by omega, by omega⟩, _, _, rfl, rfl, .int ix, rfl, _, _, rfl, rfl, .inl ⟨by omega, by omega⟩, _, _, rfl, rfl, _, _, rfl, rfl, .inl ⟨_, rfl, _, _, rfl, rfl, by show (0 : Int) < 2147483629; decide, ?_⟩⟩
    dsimp only
    generalize hm : (sd * 1140671 + 27644437 * ix * ix + 131 * ix + 19) % 2147483629 = m1
    have m0 : 0 ≤ m1 := by rw [← hm]; exact mod_lo _ (by decide)
    have m2 : m1 < 2147483629 := by rw [← hm]; exact mod_hi _ (by decide)
    refine ⟨.int m1, rfl, .int m1, rfl, _, _, rfl, rfl, .inl ⟨by omega, by omega⟩, .int ix, rfl, _, _, rfl, rfl, .inl ⟨by omega, by omega⟩, _, _, rfl, rfl, _, _, rfl, rfl, .inl ⟨_, rfl, _, _, rfl, rfl, by show (0 : Int) < 2147483587; decide, ?_⟩⟩
    dsimp only
    generalize hn : (m1 * m1 + 62089 * ix + 32416187) % 2147483587 = n1
    have n0 : 0 ≤ n1 := by rw [← hn]; exact mod_lo _ (by decide)
    have n2 : n1 < 2147483587 := by rw [← hn]; exact mod_hi _ (by decide)
    exact ⟨.int n1, rfl, _, _, rfl, rfl, .inl ⟨by omega, by omega⟩, .inl ⟨_, rfl, _, _, rfl, rfl, by show (0 : Int) < 2147483647; decide, q _⟩⟩
/-! ### the generator -/
def GenAt (H : Hp) (g : Addr) (n : Nat) : Prop := ∃ a b c : Int, H g = some (.lst [.int a, .int b, .int c]) ∧ 0 ≤ a ∧ 0 ≤ b ∧ b < 2147483647 ∧ 0 ≤ c ∧ c ≤ n
theorem GenAt.same {H H' : Hp} {g : Addr} {n : Nat} (s : Same H H') (h : GenAt H g n) : GenAt H' g n :=
  let ⟨a, b, c, h1, h2⟩ := h
  ⟨a, b, c, s _ _ h1, h2⟩
theorem GenAt.more {H : Hp} {g : Addr} {n m : Nat} (hm : n ≤ m) (h : GenAt H g n) : GenAt H g m :=
  let ⟨a, b, c, h1, h2, h3, h4, h5, h6⟩ := h
  ⟨a, b, c, h1, h2, h3, h4, h5, by omega⟩
abbrev sRandom : Stmt := top 19
def nRandom : List Str := ["_law_generator_here", "_law_bound", "_law_drawn", "_law_turn"]
theorem scRandom : FnScope nRandom ["_law_generator_here", "_law_bound"] (defScope sRandom) := ⟨rfl, rfl, rfl, by decide +kernel, rfl, by decide +kernel, by decide +kernel⟩
def spRandom : Sp := fun vs H Q _ => ∃ (g : Addr) (b : Int) (n : Nat), vs = [.ref g, .int b] ∧ GenAt H g n ∧ n ≤ 2 ^ 40 ∧ 1 ≤ b ∧ b ≤ 1000 ∧ ∀ (r : Int) (H' : Hp), SameB g H H' → GenAt H' g (n + 1) → 0 ≤ r → r < b → Q (.int r) H'
theorem ok_random {f fH : Addr} {fd fdH : FuncData} (F : Fun K "_law_random" "_law_random" sRandom f fd) (T : Txt mg)
    (GH : FnOk P w K mg base CX0 1 fH fdH ["_law_seed", "_law_index"] spHash) (bH : Binds K fdH ["_law_seed", "_law_index"] []) (kH : PySem.W.keepIn K (.ref fH) = true) (gH : mg "_law_hash" = some (.ref fH)) :
    FnOk P w K mg base CX0 2 f fd ["_law_generator_here", "_law_bound"] spRandom := by
  refine F.ok scRandom (fun vs H Q E h => ?_) (fun cdv A outer s H vs Q E hr h => ?_)
  · obtain ⟨g, b, n, rfl, _⟩ := h
    rfl
  · obtain ⟨g, bd, n, rfl, ⟨ga, gb, gc, hg, a0, b0, b1, c0, c1⟩, hn, h1, h2, q⟩ := h
    refine ⟨_, pss_cons (ps_if (pt_cmpR op_gt (pe_ix (r := rIxL K) ix_list (pv 0) pe_int (fun _ _ => rfl)) pe_int (nomark _))
        (pss_cons (ps_set (i := 2) scRandom.nd rfl (Or.inl rfl) (pe_op op_mod (pe_callTy call_int1 (by rfl) T.int (by decide +kernel) (pa_cons (pe_ix (r := rIxL K) ix_list (pv 0) pe_int (fun _ _ => rfl)) pa_nil)) (pv 1)))
        (pss_cons (ps_asg (pe_op op_fdiv (pe_ix (r := rIxL K) ix_list (pv 0) pe_int (fun _ _ => rfl)) (pv 1)) (pg_sub (pv 0) pe_int set_list))
        (pss_one (ps_ret (pv 2))))) pss_nil)
      (pss_cons (ps_set (i := 2) scRandom.nd rfl (Or.inl rfl) pe_int)
      (pss_cons (ps_for PassesOwn.never rfl (pi_range1 (by rfl) T.range (pa_cons (pe_op op_add pe_int (pe_op op_fdiv (pe_bits (pv 1)) pe_int)) pa_nil)) (pg_name (i := 3) scRandom.nd rfl (Or.inl rfl))
        (pss_cons (ps_asg (pe_op op_add (pe_ix (r := rIxL K) ix_list (pv 0) pe_int (fun _ _ => rfl)) pe_int) (pg_sub (pv 0) pe_int set_list))
        (pss_one (ps_set (i := 2) scRandom.nd rfl (Or.inl rfl) (pe_op op_add (pe_op op_mul (pv 2) pe_int) (pe_call GH hr (by rfl) gH kH bH .nil pass0 (pa_cons (pe_ix (r := rIxL K) ix_list (pv 0) pe_int (fun _ _ => rfl)) (pa_cons (pe_ix (r := rIxL K) ix_list (pv 0) pe_int (fun _ _ => rfl)) pa_nil))))))))
      (pss_one (ps_ret (pe_op op_mod (pe_callTy call_int1 (by rfl) T.int (by decide +kernel) (pa_cons (pv 2) pa_nil)) (pv 1)))))), ?_⟩
    have sq : SqL K H g [.int ga, .int gb, .int gc] := .inl (.inl hg)
    refine ⟨.ref g, rfl, g, _, 0, _, rfl, rfl, sq, atI_nat (j := 0) rfl, _, _, rfl, rfl, _, rfl, ?_⟩
    by_cases hpos : 0 < ga
    · rw [decide_eq_true hpos]
      refine iteT ⟨.ref g, rfl, g, _, 0, _, rfl, rfl, sq, atI_nat (j := 0) rfl, .inl ⟨_, rfl, .int bd, rfl, _, _, rfl, rfl, by show 0 < bd; omega, ?_⟩⟩
      refine ⟨.ref g, rfl, g, _, 0, _, rfl, rfl, sq, atI_nat (j := 0) rfl, .int bd, rfl, _, _, rfl, rfl, ⟨by omega, by omega⟩, .ref g, rfl, g, _, 0, 0, rfl, rfl, hg, rfl, ?_⟩
      refine ⟨.int (ga % bd), rfl, q _ _ SameB.upd ⟨ga / bd, gb, gc, upd_same, Int.ediv_nonneg a0 (by omega), b0, b1, c0, by omega⟩ (mod_lo _ (by omega)) (mod_hi _ (by omega))⟩
    · rw [decide_eq_false hpos]
      refine iteF ?_
      have eb := bits_small h1 h2
      refine ⟨.int bd, rfl, bd, rfl, _, _, rfl, rfl, ⟨by decide, by decide⟩, _, _, rfl, rfl, _, rfl, by rw [eb]; decide, by rw [eb]; decide, ?_⟩
      have ej : ((1 : Int) + ((Builtin.Int.intBits bd : Nat) : Int) / 30).toNat = 1 := by rw [eb]; rfl
      rw [ej]
      refine for_range (lo := 0) (n := 1) (fun i σ H' => ∃ (d : Int) (y3 : Option V) (c : Int), σ = [some (.ref g), some (.int bd), some (.int d), y3] ∧ SameB g H H' ∧ H' g = some (.lst [.int ga, .int gb, .int c]) ∧ 0 ≤ c ∧ c ≤ n + i)
        ⟨0, none, gc, rfl, fun b o _ e => e, hg, c0, by simpa using c1⟩ ?_ ?_
      · rintro i σ H' hi ⟨d, y3, c, rfl, sb, hg', c0', c1'⟩
        have sq' : SqL K H' g [.int ga, .int gb, .int c] := .inl (.inl hg')
        refine ⟨.ref g, rfl, g, _, 2, _, rfl, rfl, sq', atI_nat (j := 2) rfl, _, _, rfl, rfl, .ref g, rfl, g, _, 2, 2, rfl, rfl, hg', rfl, ?_⟩
        have hg2 : (upd H' g (.lst [.int ga, .int gb, .int (c + 1)])) g = some (.lst [.int ga, .int gb, .int (c + 1)]) := upd_same
        have sq2 : SqL K (upd H' g (.lst [.int ga, .int gb, .int (c + 1)])) g [.int ga, .int gb, .int (c + 1)] := .inl (.inl hg2)
        refine ⟨.int d, rfl, _, _, rfl, rfl, .inr ⟨by decide, by decide⟩, .ref g, rfl, g, _, 1, _, rfl, rfl, sq2, atI_nat (j := 1) rfl, .ref g, rfl, g, _, 2, _, rfl, rfl, sq2, atI_nat (j := 2) rfl, gb, c + 1, rfl, b0, b1, by omega, by omega, fun r => ⟨_, _, rfl, rfl, ?_⟩⟩
        exact ⟨_, _, c + 1, rfl, fun b o nb e => by rw [upd_ne nb]; exact sb b o nb e, hg2, by omega, by omega⟩
      · rintro σ H' ⟨d, y3, c, rfl, sb, hg', c0', c1'⟩
        exact ⟨.int d, rfl, .inl ⟨_, rfl, .int bd, rfl, _, _, rfl, rfl, by show 0 < bd; omega, q _ _ sb ⟨ga, gb, c, hg', a0, b0, b1, c0', by omega⟩ (mod_lo _ (by omega)) (mod_hi _ (by omega))⟩⟩
/-! ### _law_cell, _law_generator -/
abbrev sCell : Stmt := top 20
def nCell : List Str := ["_law_script", "_law_index"]
theorem scCell : FnScope nCell ["_law_script", "_law_index"] (defScope sCell) := ⟨rfl, rfl, rfl, by decide +kernel, rfl, by decide +kernel, by decide +kernel⟩
def spLCell (K : PySem.W.Frag) : Sp := fun vs H Q _ => ∃ (a : Addr) (ns : List Int), vs = [.ref a, .int 0] ∧ SqL K H a (ns.map V.int) ∧ ∀ (z : Int) (H' : Hp), Same H H' → Q (.int z) H'
theorem ok_cell {f : Addr} {fd : FuncData} (F : Fun K "_law_cell" "_law_cell" sCell f fd) (T : Txt mg) : FnOk P w K mg base CX0 1 f fd ["_law_script", "_law_index"] (spLCell K) := by
  refine F.ok scCell (fun vs H Q E h => ?_) (fun cdv A outer s H vs Q E hr h => ?_)
  · obtain ⟨a, ns, rfl, _⟩ := h
    rfl
  · obtain ⟨a, ns, rfl, hS, q⟩ := h
    refine ⟨_, pss_cons (ps_if (pt_cmpR op_lt (pv 1) (pe_callB call_len_seq (by rfl) T.len PySem.boot_len (pa_cons (pv 0) pa_nil)) (nomark _))
        (pss_one (ps_ret (pe_ix (r := rIxL K) ix_list (pv 0) (pv 1) (fun _ _ => rfl)))) pss_nil)
      (pss_one (ps_ret (pe_op op_mod (pe_callB (cr_sum rfl) (by rfl) T.sum (by decide +kernel) (pa_cons (pe_slice sl_list (pv 0) po_none (po_some pe_int)) pa_nil)) pe_int))), ?_⟩
    refine ⟨.int 0, rfl, .ref a, rfl, a, _, rfl, .inl hS, _, _, rfl, rfl, _, rfl, ?_⟩
    rw [List.length_map]
    cases ns with
    | nil =>
      refine iteF ⟨.ref a, rfl, 1, rfl, a, _, rfl, hS, fun p np => ?_⟩
      refine ⟨p, [], rfl, .inl (.inl upd_same), _, _, rfl, rfl, by decide, q _ _ (same_upd np)⟩
    | cons z r =>
      have hlt : (0 : Int) < (((z :: r).length : Nat) : Int) := by simp only [List.length_cons]; omega
      rw [decide_eq_true hlt]
      refine iteT ⟨.ref a, rfl, .int 0, rfl, a, _, 0, .int z, rfl, rfl, hS, atI_nat (j := 0) rfl, q _ _ (Same.refl _)⟩
abbrev sGen : Stmt := top 21
def nGen : List Str := ["_law_script", "_law_index", "_law_seed"]
theorem scGen : FnScope nGen ["_law_script", "_law_index"] (defScope sGen) := ⟨rfl, rfl, rfl, by decide +kernel, rfl, by decide +kernel, by decide +kernel⟩
def spGen (K : PySem.W.Frag) : Sp := fun vs H Q _ => ∃ (a : Addr) (ns : List Int), vs = [.ref a, .int 0] ∧ SqL K H a (ns.map V.int) ∧ ∀ (g : Addr) (H' : Hp), Same H H' → H g = none → GenAt H' g 0 → Q (.ref g) H'
theorem ok_gen {f fC : Addr} {fd fdC : FuncData} (F : Fun K "_law_generator" "_law_generator" sGen f fd) (T : Txt mg)
    (GC : FnOk P w K mg base CX0 1 fC fdC ["_law_script", "_law_index"] (spLCell K)) (bC : Binds K fdC ["_law_script", "_law_index"] []) (kC : PySem.W.keepIn K (.ref fC) = true) (gC : mg "_law_cell" = some (.ref fC)) :
    FnOk P w K mg base CX0 2 f fd ["_law_script", "_law_index"] (spGen K) := by
  refine F.ok scGen (fun vs H Q E h => ?_) (fun cdv A outer s H vs Q E hr h => ?_)
  · obtain ⟨a, ns, rfl, _⟩ := h
    rfl
  · obtain ⟨a, ns, rfl, hS, q⟩ := h
    refine ⟨_, pss_cons (ps_set (i := 2) scGen.nd rfl (Or.inl rfl) (pe_call GC hr (by rfl) gC kC bC .nil pass0 (pa_cons (pv 0) (pa_cons (pv 1) pa_nil))))
      (pss_one (ps_ret (pe_lst (pa_cons (pe_op op_mod (pe_callTy call_int1 (by rfl) T.int (by decide +kernel) (pa_cons (pe_callB (call_max2 rfl) (by rfl) T.max (by decide +kernel) (pa_cons (pe_op op_sub (pv 2) (pe_op op_powW pe_int pe_int)) (pa_cons pe_int pa_nil))) pa_nil))
          (pe_op op_powW (pe_op op_powW pe_int pe_int) pe_int))
        (pa_cons (pe_op op_mod (pe_callTy call_int1 (by rfl) T.int (by decide +kernel) (pa_cons (pv 2) pa_nil)) pe_int)
        (pa_cons (pe_op op_mul pe_int (pv 1)) pa_nil)))))), ?_⟩
    refine ⟨.ref a, rfl, .int 0, rfl, a, ns, rfl, hS, fun z H1 s1 => ?_⟩
    have mpos : (0 : Int) < ((10 : Int) ^ (60 : Int).toNat) ^ (10 : Int).toNat := Int.pow_pos (Int.pow_pos (by decide))
    have p18 : (Builtin.Int.intBits 10 : Int) * 18 ≤ 2 ^ 27 := by decide +kernel
    have p60 : (Builtin.Int.intBits 10 : Int) * 60 ≤ 2 ^ 27 := by decide +kernel
    have p600 : (Builtin.Int.intBits ((10 : Int) ^ (60 : Int).toNat) : Int) * 10 ≤ 2 ^ 27 := by decide +kernel
    refine ⟨.int z, rfl, _, _, rfl, rfl, ⟨by decide, p18⟩, _, _, rfl, rfl, _, _, rfl, .inl ⟨_, rfl, _, _, rfl, rfl, ⟨by decide, p60⟩, _, _, rfl, rfl, ⟨by decide, p600⟩, _, _, rfl, rfl, mpos, ?_⟩⟩
    refine ⟨.int z, rfl, .inl ⟨_, rfl, _, _, rfl, rfl, by show (0 : Int) < 2147483647; decide, .int 0, rfl, _, _, rfl, rfl, .inl ⟨by decide, by decide⟩, by show 3 ≤ sizeLine; decide, fun g ng => ?_⟩⟩
    exact q g _ (s1.trans (same_upd ng)) (s1.free ng) ⟨_, _, _, upd_same, mod_lo _ mpos, mod_lo _ (by decide), mod_hi _ (by decide), by decide, by decide⟩
end Ck

namespace Ck
set_option linter.all false
set_option maxRecDepth 100000
set_option maxHeartbeats 4000000
open PySem PySem.Calls PyProof.Rows L2
/-! ### list(zip(xs, ys)), at the library's level -/
theorem zNoLen : typeLookup (.type "zip") "__len__" = pure none := am_miss_of_fast (by decide +kernel)
theorem zNoHint : typeLookup (.type "zip") "__length_hint__" = pure none := am_miss_of_fast (by decide +kernel)
section
variable {prog : Program} {w : World} {A : Around} {E : Value → Shared → Prop} {s : Shared}
theorem zHint {r : Addr} (hT : s.TypeIs (.ref r) "zip") {Q : Bool → Shared → Prop} (h : Q true s) : wpAny (model prog w) A (Builtin.List.listLengthHint (.ref r)) Q E s := by
  unfold Builtin.List.listLengthHint
  refine wpAny_bind (wpAny_specialOf hT zNoLen ?_)
  show wpAny _ _ (specialOf (.ref r) "__length_hint__" >>= _) _ _ _
  refine wpAny_bind (wpAny_specialOf hT zNoHint ?_)
  exact wpAny_pure h
/-- the zip over two lists, ahead of turn i; T: the tuple that it gave out last -/
structure ZSt (h : Heap) (z TI TO i1 i2 l1 l2 S : Addr) (xs ys : Array Value) (i : Nat) : Prop where
  ti : IsPair h TI (.ref i1) (.ref i2)
  a1 : h.IsListIter i1 l1 i
  a2 : h.IsListIter i2 l2 i
  b1 : h.IsList l1 xs
  b2 : h.IsList l2 ys
  out : (IsZip h z TI TO .none ∧ ∃ p q, IsPair h TO p q) ∨ ∃ T f oT, IsZipHeld h z TI TO T f ∧ h.get? T = some oT ∧ T ≠ S ∧ T ≠ z ∧ T ≠ i1 ∧ T ≠ i2
structure ZOff (z TI TO i1 i2 l1 l2 S : Addr) : Prop where
  ap : ZipApart z TI TO i1 i2 l1 l2
  z : z ≠ S
  ti : TI ≠ S
  to : TO ≠ S
  i1 : i1 ≠ S
  i2 : i2 ≠ S
  l1 : l1 ≠ S
  l2 : l2 ≠ S
variable {z TI TO i1 i2 l1 l2 S : Addr} {xs ys : Array Value} {i : Nat}
theorem ZSt.keep {h h' : Heap} (o : ZOff z TI TO i1 i2 l1 l2 S) (x : ZSt h z TI TO i1 i2 l1 l2 S xs ys i) (k : ∀ b ob, b ≠ S → h.get? b = some ob → h'.get? b = some ob) : ZSt h' z TI TO i1 i2 l1 l2 S xs ys i := by
  refine ⟨k _ _ o.ti x.ti, x.a1.at fun ob e => k _ ob o.i1 e, x.a2.at fun ob e => k _ ob o.i2 e, x.b1.at fun ob e => k _ ob o.l1 e, x.b2.at fun ob e => k _ ob o.l2 e, ?_⟩
  rcases x.out with ⟨a, p, q, b⟩ | ⟨T, f, oT, a, b, c, d⟩
  · exact .inl ⟨k _ _ o.z a, p, q, k _ _ o.to b⟩
  · exact .inr ⟨T, f, oT, k _ _ o.z a, k _ _ c b, c, d⟩
theorem zItem (o : ZOff z TI TO i1 i2 l1 l2 S) (x : ZSt s.heap z TI TO i1 i2 l1 l2 S xs ys i) (hS : S < s.heap.objs.size) {u v : Value} (hu : xs[i]? = some u) (hv : ys[i]? = some v) {Q : Option Value → Shared → Prop}
    (hQ : ∀ h', ZSt h' z TI TO i1 i2 l1 l2 S xs ys (i + 1) → IsPair h' s.heap.objs.size u v → h'.objs.size = s.heap.objs.size + 1 → (∀ c ob, c ≠ z → c ≠ TO → c ≠ i1 → c ≠ i2 → s.heap.get? c = some ob → h'.get? c = some ob) → Q (some (.ref s.heap.objs.size)) { s with heap := h' }) :
    wpAny (model prog w) A (pyNext (.ref z)) Q E s := by
  have D := o.ap
  have lt1 : i1 < s.heap.objs.size := let ⟨_, e, _⟩ := x.a1; Heap.lt_size e
  have lt2 : i2 < s.heap.objs.size := let ⟨_, e, _⟩ := x.a2; Heap.lt_size e
  rcases x.out with ⟨a, p, q, b⟩ | ⟨T, f, oT, a, b, c, d1, d2, d3⟩
  · refine wpAny_pyNext_zip_item D a x.ti b x.a1 x.a2 x.b1 x.b2 hu hv fun h' hz hto e1 e2 hp hsz hk => ?_
    refine hQ h' ⟨hk _ _ D.TIz D.TITO D.TIi1 D.TIi2 x.ti, e1, e2, x.b1.at fun ob e => hk _ ob D.l1z D.l1TO D.l1i1 D.l1i2 e, x.b2.at fun ob e => hk _ ob D.l2z D.l2TO D.l2i1 D.l2i2 e, .inr ⟨s.heap.objs.size, false, _, hz, hp, Nat.ne_of_gt hS, Nat.ne_of_gt (Heap.lt_size a), Nat.ne_of_gt lt1, Nat.ne_of_gt lt2⟩⟩ hp hsz hk
  · refine wpAny_pyNext_zip_item_held D a b x.ti x.a1 x.a2 x.b1 x.b2 hu hv fun h' hz e1 e2 hp hsz hk => ?_
    refine hQ h' ⟨hk _ _ D.TIz D.TIi1 D.TIi2 x.ti, e1, e2, x.b1.at fun ob e => hk _ ob D.l1z D.l1i1 D.l1i2 e, x.b2.at fun ob e => hk _ ob D.l2z D.l2i1 D.l2i2 e, .inr ⟨T, true, oT, hz, hk _ _ d1 d2 d3 b, c, d1, d2, d3⟩⟩ hp hsz fun c ob h1 _ h3 h4 e => hk c ob h1 h3 h4 e
theorem zDone (hh : A.handled = none) (o : ZOff z TI TO i1 i2 l1 l2 S) (x : ZSt s.heap z TI TO i1 i2 l1 l2 S xs ys i) (he : xs[i]? = none ∨ ys[i]? = none) {Q : Option Value → Shared → Prop}
    (hQ : ∀ h', (∀ c ob, c ≠ z → c ≠ TO → c ≠ i1 → c ≠ i2 → s.heap.get? c = some ob → h'.get? c = some ob) → Q none { s with heap := h' }) : wpAny (model prog w) A (pyNext (.ref z)) Q E s := by
  rcases x.out with ⟨a, p, q, b⟩ | ⟨T, f, oT, a, b, c, d1, d2, d3⟩
  · exact wpAny_pyNext_zip_end hh o.ap a x.ti b x.a1 x.a2 x.b1 x.b2 he hQ
  · exact wpAny_pyNext_zip_end_held hh o.ap a b x.ti x.a1 x.a2 x.b1 x.b2 he fun h' hk => hQ h' fun c ob h1 _ h3 h4 e => hk c ob h1 h3 h4 e
/-- the tuples that were given out, new ones, one behind the other -/
structure ZG (xs ys : Array Value) (lo : Addr) (h : Heap) (as : List Addr) : Prop where
  rise : as.Pairwise (· < ·)
  above : ∀ a ∈ as, lo < a
  pairs : ∀ (j : Nat) (a : Addr), as[j]? = some a → ∃ u v, xs[j]? = some u ∧ ys[j]? = some v ∧ IsPair h a u v
theorem ZG.there {lo : Addr} {h : Heap} {as : List Addr} (g : ZG xs ys lo h as) {a : Addr} (ha : a ∈ as) : a < h.objs.size := by
  obtain ⟨j, hj⟩ := List.mem_iff_getElem?.mp ha
  obtain ⟨_, _, _, _, e⟩ := g.pairs j a hj
  exact Heap.lt_size e
end
section
variable {prog : Program} {w : World} {A : Around} {E : Value → Shared → Prop} {s : Shared} {R : Result → Shared → Prop} {z TI TO i1 i2 l1 l2 S : Addr} {xs ys : Array Value}
/-- what stood ahead of the zip stands -/
def ZKeep (h1 h : Heap) : Prop := ∀ b ob, h1.get? b = some ob → h.get? b = some ob
theorem zLoop (hh : A.handled = none) (o : ZOff z TI TO i1 i2 l1 l2 S) (hn : xs.size ≤ 1000) (hxy : xs.size = ys.size) (res : Value) {h1 : Heap} (hlo : ∀ c ∈ [z, TO, i1, i2, S], h1.get? c = none) (hord : ∀ c ∈ [z, TO, i1, i2], c < S)
    (hR : ∀ h' acc c as, ZKeep h1 h' → h'.get? S = some { cls := .type "list", dict := none, data := .seq acc c, slots := #[] } → as.length = xs.size → ZG xs ys S h' as → acc.toList = as.map Value.ref → R (.ok (.ret res)) { s with heap := h' }) :
    ∀ (k i : Nat) (h : Heap) (c : Nat) (acc : Array Value) (as : List Addr), xs.size - i = k → i ≤ xs.size → ZSt h z TI TO i1 i2 l1 l2 S xs ys i → ZKeep h1 h → h.get? S = some { cls := .type "list", dict := none, data := .seq acc c, slots := #[] } →
      acc.toList = as.map Value.ref → as.length = i → ZG xs ys S h as → codeAny (model prog w) A (.builtin "list.extend.loop" ⟨[.ref S, .ref z, res], []⟩) R { s with heap := h } := by
  have off : ∀ {b : Addr} {ob : Obj}, h1.get? b = some ob → b ≠ z ∧ b ≠ TO ∧ b ≠ i1 ∧ b ≠ i2 ∧ b ≠ S := fun {b ob} e => by
    have q : ∀ c ∈ [z, TO, i1, i2, S], b ≠ c := fun c hc y => by rw [y, hlo c hc] at e; cases e
    exact ⟨q _ (by simp), q _ (by simp), q _ (by simp), q _ (by simp), q _ (by simp)⟩
  have gt : ∀ {a : Addr}, S < a → a ≠ z ∧ a ≠ TO ∧ a ≠ i1 ∧ a ≠ i2 := fun {a} ha => by
    have q : ∀ c ∈ [z, TO, i1, i2], a ≠ c := fun c hc y => by
      have := hord c hc
      rw [← y] at this
      exact absurd ha (Nat.not_lt.mpr (Nat.le_of_lt this))
    exact ⟨q _ (by simp), q _ (by simp), q _ (by simp), q _ (by simp)⟩
  intro k
  induction k with
  | zero =>
    intro i h c acc as hk hi st kp hS hacc hal hG
    have ei : i = xs.size := by omega
    refine codeAny_builtin F.entry_extend_loop ?_
    rw [Around.under_plainId F.plain_extend_loop _]
    show wpAny _ A.in1 (pyNext (.ref z) >>= _) _ _ _
    refine wpAny_bind (zDone (s := { s with heap := h }) (A := A.in1) hh o st (.inl (Array.getElem?_eq_none (by omega))) fun h' he => wpAny_pure (hR h' acc c as (fun b ob e => ?_) ?_ (by omega) ⟨hG.rise, hG.above, fun j a hj => ?_⟩ hacc))
    · obtain ⟨n1, n2, n3, n4, _⟩ := off e
      exact he b ob n1 n2 n3 n4 (kp b ob e)
    · exact he S _ o.z.symm o.to.symm o.i1.symm o.i2.symm hS
    · obtain ⟨u, v, e1, e2, e3⟩ := hG.pairs j a hj
      obtain ⟨n1, n2, n3, n4⟩ := gt (hG.above a (List.mem_of_getElem? hj))
      exact ⟨u, v, e1, e2, he a _ n1 n2 n3 n4 e3⟩
  | succ k ih =>
    intro i h c acc as hk hi st kp hS hacc hal hG
    have hlt : i < xs.size := by omega
    have hsz : acc.size = i := by rw [← Array.length_toList, hacc, List.length_map, hal]
    have hSl : S < h.objs.size := Heap.lt_size hS
    refine codeAny_builtin F.entry_extend_loop ?_
    rw [Around.under_plainId F.plain_extend_loop _]
    show wpAny _ A.in1 (pyNext (.ref z) >>= _) _ _ _
    refine wpAny_bind (zItem (s := { s with heap := h }) (A := A.in1) o st hSl (Array.getElem?_eq_getElem hlt) (Array.getElem?_eq_getElem (by omega)) fun h' st' hp hz' hk' => ?_)
    dsimp only at hp hz' hk' ⊢
    have hS' := hk' S _ o.z.symm o.to.symm o.i1.symm o.i2.symm hS
    have up : ∀ b ob, b ≠ S → h'.get? b = some ob → (h'.update S (Obj.mapSeq (·.push (Value.ref h.objs.size)))).get? b = some ob := fun b ob hb e => (Heap.get?_update_other _ _ (Ne.symm hb)).trans e
    show wpAny _ A.in1 (updateSeq S (·.push (Value.ref h.objs.size)) >>= _) _ _ _
    have nS : h.objs.size ≠ S := Nat.ne_of_gt hSl
    refine wpAny_bind (wpAny_updateSeq hS' rfl (wpAny_pure ⟨plainId_quiet F.plain_extend_loop _, ih (i + 1) _ _ (acc.push (Value.ref h.objs.size)) (as ++ [h.objs.size]) (by omega) hlt (st'.keep o up) (fun b ob e => ?_)
      (Heap.get?_update_self _ hS' rfl) (by rw [Array.toList_push, hacc, List.map_append]; rfl) (by rw [List.length_append, hal]; rfl) ⟨?_, ?_, ?_⟩⟩) ?_ ?_)
    · obtain ⟨n1, n2, n3, n4, n5⟩ := off e
      exact up b ob n5 (hk' b ob n1 n2 n3 n4 (kp b ob e))
    · refine List.pairwise_append.mpr ⟨hG.rise, List.pairwise_singleton _ _, fun a ha b hb => ?_⟩
      rw [List.mem_singleton.mp hb]
      exact hG.there ha
    · intro a ha
      rcases List.mem_append.mp ha with q | q
      · exact hG.above a q
      · rw [List.mem_singleton.mp q]; exact hSl
    · intro j b hj
      rcases Nat.lt_trichotomy j as.length with q | q | q
      · rw [List.getElem?_append_left q] at hj
        obtain ⟨u, v, e1, e2, e3⟩ := hG.pairs j b hj
        have hb := hG.above b (List.mem_of_getElem? hj)
        obtain ⟨n1, n2, n3, n4⟩ := gt hb
        exact ⟨u, v, e1, e2, up b _ (Nat.ne_of_gt hb) (hk' b _ n1 n2 n3 n4 e3)⟩
      · subst q
        have hb : h.objs.size = b := by simpa using hj
        subst hb
        exact ⟨_, _, by rw [hal]; exact Array.getElem?_eq_getElem hlt, by rw [hal]; exact Array.getElem?_eq_getElem (by omega), up _ _ nS hp⟩
      · have : (as ++ [h.objs.size])[j]? = none := List.getElem?_eq_none (by rw [List.length_append, List.length_singleton]; omega)
        rw [this] at hj; cases hj
    · rw [hsz]; exact Nat.le_trans (Nat.le_of_lt hlt) (Nat.le_trans hn (by decide))
    · show (acc.push (Value.ref h.objs.size)).size ≤ sizeLine + 1
      rw [Array.size_push, hsz]
      exact Nat.le_trans hlt (Nat.le_trans hn (by decide))
end
section
variable {prog : Program} {w : World} {A : Around} {E : Value → Shared → Prop} {s : Shared} {R : Result → Shared → Prop} {z TI TO i1 i2 l1 l2 S : Addr} {xs ys : Array Value}
theorem zExtend (hh : A.handled = none) (o : ZOff z TI TO i1 i2 l1 l2 S) (hn : xs.size ≤ 1000) (hxy : xs.size = ys.size) (res : Value) {h1 : Heap} (hlo : ∀ c ∈ [z, TO, i1, i2, S], h1.get? c = none) (hord : ∀ c ∈ [z, TO, i1, i2], c < S)
    (st : ZSt s.heap z TI TO i1 i2 l1 l2 S xs ys 0) (hz : IsZip s.heap z TI TO .none) (kp : ZKeep h1 s.heap) {c0 : Nat} (hS : s.heap.get? S = some { cls := .type "list", data := .seq #[] c0 })
    (hR : ∀ h' acc c as, ZKeep h1 h' → h'.get? S = some { cls := .type "list", dict := none, data := .seq acc c, slots := #[] } → as.length = xs.size → ZG xs ys S h' as → acc.toList = as.map Value.ref → R (.ok (.ret res)) { s with heap := h' }) :
    wpAny (model prog w) A.in1 (Builtin.List.listExtendWith (.ref S) (.ref z) res)
      (fun fin s' => match fin with | .done f => R (.ok f) s' | .again k => k.quiet = true ∧ codeAny (model prog w) A k R s') (fun e s' => R (.error e) s') s := by
  have hTz : s.TypeIs (.ref z) "zip" := ⟨_, hz, rfl⟩
  have go : ∀ (h : Heap) (c : Nat), (∀ b ob, b ≠ S → s.heap.get? b = some ob → h.get? b = some ob) → h.get? S = some { cls := .type "list", data := .seq #[] c } →
      codeAny (model prog w) A (.builtin "list.extend.loop" ⟨[.ref S, .ref z, res], []⟩) R { s with heap := h } := fun h c k hS2 =>
    zLoop hh o hn hxy res hlo hord hR _ 0 h c #[] [] rfl (Nat.zero_le _) (st.keep o k) (fun b ob e => k b ob (fun q => by rw [q, hlo S (by simp)] at e; cases e) (kp b ob e)) hS2 rfl rfl ⟨List.Pairwise.nil, (fun _ q => nomatch q), (fun j a q => by simp at q)⟩
  unfold Builtin.List.listExtendWith
  refine wpAny_bind (wpAny_typeOf (T := "zip") hTz ?_)
  have n1 : Builtin.List.listSameRef (.ref S) (.ref z) = false := by simp [Builtin.List.listSameRef, o.z.symm]
  have n2 : (Value.type "zip" == Value.type "list") = false := by decide
  have n3 : (Value.type "zip" == Value.type "tuple") = false := by decide
  simp only [n1, n2, n3, Bool.or_false, Bool.false_eq_true, if_false]
  refine wpAny_bind (wpAny_pyIter_zip hz ?_)
  refine wpAny_bind (wpAny_holding (zHint hTz ?_))
  refine wpAny_ite_split (fun _ => ?_) (fun q => absurd rfl q)
  refine wpAny_bind (wpAny_rule (wpAny_bind ?_))
  show wpAny _ _ (updateSeq S (·.push .none) >>= fun _ => updateSeq S (·.pop)) _ _ _
  refine wpAny_bind (wpAny_updateSeq hS rfl ?_)
  have hSa := Heap.get?_update_self (Obj.mapSeq (·.push Value.none)) hS rfl
  refine wpAny_updateSeq (hz := by seq_fits) hSa rfl ?_
  have hSb := Heap.get?_update_self (Obj.mapSeq (·.pop)) hSa rfl
  refine wpAny_pure ⟨plainId_quiet F.plain_extend_loop _, go _ _ (fun b ob hb e => ?_) hSb⟩
  exact (Heap.get?_update_other _ _ (Ne.symm hb)).trans ((Heap.get?_update_other _ _ (Ne.symm hb)).trans e)
theorem zInit (hh : A.handled = none) (o : ZOff z TI TO i1 i2 l1 l2 S) (hn : xs.size ≤ 1000) (hxy : xs.size = ys.size) {h1 : Heap} (hlo : ∀ c ∈ [z, TO, i1, i2, S], h1.get? c = none) (hord : ∀ c ∈ [z, TO, i1, i2], c < S)
    (st : ZSt s.heap z TI TO i1 i2 l1 l2 S xs ys 0) (hz : IsZip s.heap z TI TO .none) (kp : ZKeep h1 s.heap) (hS : s.heap.get? S = some { cls := .type "list", data := .seq #[] })
    (hR : ∀ h' tk acc c as, ZKeep h1 h' → h'.get? S = some { cls := .type "list", dict := none, data := .seq acc c, slots := #[] } → as.length = xs.size → ZG xs ys S h' as → acc.toList = as.map Value.ref → R (.ok (.ret .none)) { s with heap := h', toks := tk }) :
    wpAny (model prog w) A.in1 (Builtin.«list.__init__» ⟨[.ref S, .ref z], []⟩)
      (fun fin s' => match fin with | .done f => R (.ok f) s' | .again k => k.quiet = true ∧ codeAny (model prog w) A k R s') (fun e s' => R (.error e) s') s := by
  show wpAny _ _ (Builtin.List.listItems (.ref S) >>= fun old => Builtin.List.listUpdate (.ref S) (fun _ => #[]) >>= fun _ => letGo old.toList.reverse >>= fun _ => Builtin.List.listExtendWith (.ref S) (.ref z) .none) _ _ s
  refine wpAny_bind ?_
  unfold Builtin.List.listItems
  refine wpAny_bind (wpAny_seqItems hS rfl (wpAny_pure ?_))
  show wpAny _ _ (updateSeq S (fun _ => #[]) >>= fun _ => letGo (#[] : Array Value).toList.reverse >>= fun _ => Builtin.List.listExtendWith (.ref S) (.ref z) .none) _ _ s
  refine wpAny_bind (wpAny_updateSeq hS rfl ?_)
  have hSa := Heap.get?_update_self (Obj.mapSeq (fun _ => (#[] : Array Value))) hS rfl
  have oth : ∀ b ob, b ≠ S → s.heap.get? b = some ob → (s.heap.update S (Obj.mapSeq (fun _ => (#[] : Array Value)))).get? b = some ob := fun b ob hb e => (Heap.get?_update_other _ _ (Ne.symm hb)).trans e
  refine wpAny_bind (wpAny_letGo ?_)
  exact zExtend hh o hn hxy .none hlo hord (st.keep o oth) (oth _ _ o.z hz) (fun b ob e => oth b ob (fun q => by rw [q, hlo S (by simp)] at e; cases e) (kp b ob e)) hSa fun h' acc c as => hR h' _ acc c as
/-- list(zip object) -/
theorem zCall {Q : Value → Shared → Prop} (hh : A.handled = none) {h1 : Heap} (D : ZipApart z TI TO i1 i2 l1 l2) (hn : xs.size ≤ 1000) (hxy : xs.size = ys.size) (hlo : ∀ c ∈ [z, TO, i1, i2], h1.get? c = none) (hsz : h1.objs.size ≤ s.heap.objs.size) (hz : IsZip s.heap z TI TO .none) (hTI : IsPair s.heap TI (.ref i1) (.ref i2)) (hTO : IsPair s.heap TO .none .none)
    (e1 : s.heap.IsListIter i1 l1 0) (e2 : s.heap.IsListIter i2 l2 0) (b1 : s.heap.IsList l1 xs) (b2 : s.heap.IsList l2 ys) (kp : ZKeep h1 s.heap)
    (hQ : ∀ h' tk acc c as, ZKeep h1 h' → h'.get? s.heap.objs.size = some { cls := .type "list", dict := none, data := .seq acc c, slots := #[] } → as.length = xs.size → ZG xs ys s.heap.objs.size h' as → acc.toList = as.map Value.ref → Q (.ref s.heap.objs.size) { s with heap := h', toks := tk }) :
    wpAny (model prog w) A (call (.type "list") [.ref z]) Q E s := by
  have hlt : z < s.heap.objs.size ∧ TI < s.heap.objs.size ∧ TO < s.heap.objs.size ∧ i1 < s.heap.objs.size ∧ i2 < s.heap.objs.size ∧ l1 < s.heap.objs.size ∧ l2 < s.heap.objs.size :=
    ⟨Heap.lt_size hz, Heap.lt_size hTI, Heap.lt_size hTO, let ⟨_, q, _⟩ := e1; Heap.lt_size q, let ⟨_, q, _⟩ := e2; Heap.lt_size q, let ⟨_, q, _⟩ := b1; Heap.lt_size q, let ⟨_, q, _⟩ := b2; Heap.lt_size q⟩
  obtain ⟨g1, g2, g3, g4, g5, g6, g7⟩ := hlt
  have o : ZOff z TI TO i1 i2 l1 l2 s.heap.objs.size := ⟨D, Nat.ne_of_lt g1, Nat.ne_of_lt g2, Nat.ne_of_lt g3, Nat.ne_of_lt g4, Nat.ne_of_lt g5, Nat.ne_of_lt g6, Nat.ne_of_lt g7⟩
  refine callType_codes (Q₁ := fun obj s' => obj = .ref s.heap.objs.size ∧ s' = { s with heap := s.heap.push { cls := .type "list", data := .seq #[] } }) F.called_list (F.typeCall_list_1 _) F.entry_list_init (code_list_new _ ⟨rfl, rfl⟩) fun obj s' hs' => ?_
  obtain ⟨rfl, rfl⟩ := hs'
  have hS : (s.heap.push { cls := .type "list", data := .seq #[] }).get? s.heap.objs.size = some { cls := .type "list", data := .seq #[] } := Heap.get?_push_size _ rfl
  have pu : ∀ b ob, s.heap.get? b = some ob → (s.heap.push { cls := .type "list", data := .seq #[] }).get? b = some ob := fun b ob e => Heap.get?_push_of_some _ e
  refine ⟨⟨_, hS, rfl⟩, F.args_list_init_2 _ _, zInit (A := A.in1) hh o hn hxy (h1 := h1) (fun c hc => ?_) (fun c hc => ?_) ⟨pu _ _ hTI, e1.at fun ob e => pu _ ob e, e2.at fun ob e => pu _ ob e, b1.at fun ob e => pu _ ob e, b2.at fun ob e => pu _ ob e, .inl ⟨pu _ _ hz, _, _, pu _ _ hTO⟩⟩ (pu _ _ hz) (fun b ob e => pu b ob (kp b ob e)) hS
    fun h' tk acc c as k2 hS' hl hG hacc => ⟨rfl, hQ h' tk acc c as k2 hS' hl hG hacc⟩⟩
  · rcases List.mem_append.mp (show c ∈ [z, TO, i1, i2] ++ [s.heap.objs.size] from hc) with q | q
    · exact hlo c q
    · rw [List.mem_singleton.mp q]
      exact Heap.get?_none_of_le hsz
  · have q : c = z ∨ c = TO ∨ c = i1 ∨ c = i2 := by simpa using hc
    rcases q with q | q | q | q <;> (rw [q]; assumption)
end
/-! ### list(zip(a, b)) over the layer: two lists of ints -/
def putP : Hp → List Addr → List Mv.Pr → Hp
  | H, a :: as, p :: ps => putP (upd H a (.tup [.int p.1, .int p.2])) as ps
  | H, _, _ => H
theorem putP_off {b : Addr} : ∀ (as : List Addr) (ps : List Mv.Pr) (H : Hp), b ∉ as → putP H as ps b = H b
  | [], _, _, _ => rfl
  | _ :: _, [], _, _ => rfl
  | a :: as, p :: ps, H, h => by
    show putP (upd H a _) as ps b = H b
    rw [putP_off as ps _ (fun q => h (List.mem_cons_of_mem _ q)), upd_ne (fun q => h (by rw [q]; exact List.mem_cons_self))]
theorem putP_at : ∀ (as : List Addr) (ps : List Mv.Pr) (H : Hp), as.length = ps.length → as.Nodup → TupsAt (putP H as ps) as ps
  | [], [], _, _, _ => .nil
  | [], _ :: _, _, h, _ => by cases h
  | _ :: _, [], _, h, _ => by cases h
  | a :: as, p :: ps, H, h, hn => by
    obtain ⟨h1, h2⟩ := List.nodup_cons.mp hn
    refine .cons ?_ (putP_at as ps _ (Nat.succ.inj h) h2)
    show putP (upd H a _) as ps a = _
    rw [putP_off as ps _ h1, upd_same]
def rZipL : List V → Hp → VK → Prop := fun vs H Q => ∃ (a b : Addr) (xs ys : List Int), vs = [.ref a, .ref b] ∧ IL H a xs ∧ IL H b ys ∧ xs.length = ys.length ∧ xs.length ≤ 1000 ∧ ∀ (H' : Hp) (p : Addr), Same H H' → H p = none → PL H' p (xs.zip ys) → Q (.ref p) H'
def tListZip (ta : TA) : TE := fun σ H Q => ta σ H fun vs H1 => rZipL vs H1 Q
theorem intsRel : ∀ {ns : List Int} {us : List Value} {j : Nat} {u : Value}, Vals (ns.map V.int) us → us[j]? = some u → ∃ k, ns[j]? = some k ∧ RelV (.int k) u
  | [], _, j, u, .nil, h => by simp at h
  | n :: ns, _, 0, u, .cons r t, h => by
    simp at h; subst h
    exact ⟨n, rfl, r⟩
  | n :: ns, _, j + 1, u, .cons r t, h => by
    obtain ⟨k, h1, h2⟩ := intsRel (ns := ns) (j := j) (u := u) t (by simpa using h)
    exact ⟨k, by simpa using h1, h2⟩
theorem refsVals : ∀ as : List Addr, Vals (as.map V.ref) (as.map Value.ref)
  | [] => .nil
  | _ :: as => .cons rfl (refsVals as)
theorem TupsAt.mem {H : Hp} : ∀ {as : List Addr} {ps : List Mv.Pr}, TupsAt H as ps → ∀ {b : Addr}, b ∈ as → ∃ (j : Nat) (p : Mv.Pr), as[j]? = some b ∧ ps[j]? = some p ∧ H b = some (.tup [.int p.1, .int p.2])
  | _, _, .cons h t, b, hb => by
    rcases List.mem_cons.mp hb with e | hb
    · rw [e]; exact ⟨0, _, rfl, rfl, h⟩
    · obtain ⟨j, p, e1, e2, e3⟩ := TupsAt.mem t hb
      exact ⟨j + 1, p, e1, e2, e3⟩
section
variable {X : Cx} {a b : Expr} {ta : TA} {p p2 pos2 pos : Pos}
theorem pe_listZip (hc : X.calm = true) (hg : Gl X "list") (hm : X.mg "list" = none) (hg2 : Gl X "zip") (hm2 : X.mg "zip" = none) (ha : PA X [a, b] ta)
    (hs2 : starEach [a, b] X.env = (false, eval a X.env) :: starEach [b] X.env := by rfl) (hpl2 : (backTo pos2 (starEach [b] X.env)).any (·.1) = false := by rfl)
    (hs : starEach [.Call (.Name "zip" p2) [a, b] [] pos2] X.env = (false, eval (.Call (.Name "zip" p2) [a, b] [] pos2) X.env) :: starEach [] X.env := by rfl) :
    PE X (.Call (.Name "list" p) [.Call (.Name "zip" p2) [a, b] [] pos2] [] pos) (tListZip ta) := by
  refine ⟨fun pins s σ H Q I hq => ?_⟩
  refine wpAny_Call_Name_kw (ld_blt I hg hm PyProof.Rows.boot_list ?_)
  refine PyProof.Rows.callWith_type1 ?_ hs rfl
  rw [hs]
  show wpAny _ _ (spliced ((false, eval (.Call (.Name "zip" p2) [a, b] [] pos2) X.env) :: backTo pos (starEach [] X.env))) _ _ s
  refine Calls.spliced_cons ?_
  refine Call_ (ld_blt I hg2 hm2 PyProof.Rows.boot_zip (PyProof.Rows.callWith_type1 (thn (ha.run pos2 pins s σ H _ I hq) fun us s1 ⟨vs, H1, I1, r1, q1⟩ => ?_) hs2 hpl2))
  obtain ⟨la, lb, xs, ys, rfl, hxa, hyb, hxy, hlen, fin⟩ := q1
  cases r1 with
  | cons r rr =>
    cases rr with
    | cons r' rr =>
      cases rr
      cases r
      cases r'
      obtain ⟨its, rv, p1, _⟩ := I1.list (show SqL X.K H1 la (xs.map V.int) from .inl (.inl hxa))
      obtain ⟨its2, rv2, p2', _⟩ := I1.list (show SqL X.K H1 lb (ys.map V.int) from .inl (.inl hyb))
      have n1 : its.length = xs.length := by rw [← rv.length, List.length_map]
      have n2 : its2.length = ys.length := by rw [← rv2.length, List.length_map]
      refine call_zip_2 p1.isList p2'.isList fun h' hz hTI hTO e1 e2 hsz hk => ?_
      refine Calls.spliced_nil ?_
      have I2 : Inv X pins σ H1 { s1 with heap := h' } := I1.kept (t' := s1.toks) hk
      refine zCall (h1 := s1.heap) (s := { s1 with heap := h' }) (I1.ok.hd hc) (PySem.W.ktu_apart s1.heap.objs.size la lb p1.lt p2'.lt) (by simp; omega) (by simp; omega) (fun c hcm => ?_) (by show s1.heap.objs.size ≤ h'.objs.size; rw [hsz]; exact Nat.le_add_right _ _) hz hTI hTO e1 e2 (p1.isList.at fun ob e => hk _ ob e) (p2'.isList.at fun ob e => hk _ ob e) (fun b ob e => hk b ob e)
        fun h2 tk acc cc as k2 hS hl hG hacc => ?_
      · have q : c = s1.heap.objs.size + 4 ∨ c = s1.heap.objs.size + 3 ∨ c = s1.heap.objs.size ∨ c = s1.heap.objs.size + 1 := by simpa using hcm
        refine Heap.get?_none_of_le ?_
        rcases q with q | q | q | q <;> rw [q]
        · exact Nat.le_add_right _ _
        · exact Nat.le_add_right _ _
        · exact Nat.le_refl _
        · exact Nat.le_add_right _ _
      · have szS : s1.heap.objs.size ≤ h'.objs.size := by rw [hsz]; exact Nat.le_add_right _ _
        have lenA : as.length = (xs.zip ys).length := by
          rw [hl, List.length_zip]
          simp
          omega
        have nSas : h'.objs.size ∉ as := fun q => Nat.lt_irrefl _ (hG.above _ q)
        have nd : as.Nodup := List.Pairwise.imp (fun {u v} (q : u < v) => Nat.ne_of_lt q) hG.rise
        have newA : ∀ t ∈ as, H1 t = none := fun t ht => I1.hok.fresh (Nat.le_trans szS (Nat.le_of_lt (hG.above t ht)))
        have newS : H1 h'.objs.size = none := I1.hok.fresh szS
        have atP := putP_at as (xs.zip ys) (upd H1 h'.objs.size (.lst (as.map V.ref))) lenA nd
        have offP : ∀ c, c ∉ as → c ≠ h'.objs.size → putP (upd H1 h'.objs.size (.lst (as.map V.ref))) as (xs.zip ys) c = H1 c := fun c q1 q2 => by rw [putP_off as _ _ q1, upd_ne q2]
        have eS : putP (upd H1 h'.objs.size (.lst (as.map V.ref))) as (xs.zip ys) h'.objs.size = some (.lst (as.map V.ref)) := by rw [putP_off as _ _ nSas, upd_same]
        have kp : ∀ c u, H1 c = some u → putP (upd H1 h'.objs.size (.lst (as.map V.ref))) as (xs.zip ys) c = some u := fun c u e => by
          rw [offP c (fun q => by rw [newA c q] at e; cases e) (fun q => by rw [q, newS] at e; cases e)]
          exact e
        have low : ∀ c ob, s1.heap.get? c = some ob → c ∉ as ∧ c ≠ h'.objs.size := fun c ob e => by
          have q0 := Heap.lt_size e
          exact ⟨fun q => absurd (Nat.lt_of_lt_of_le q0 szS) (Nat.not_lt.mpr (Nat.le_of_lt (hG.above c q))), Nat.ne_of_lt (Nat.lt_of_lt_of_le q0 szS)⟩
        generalize putP (upd H1 h'.objs.size (.lst (as.map V.ref))) as (xs.zip ys) = H' at atP offP eS kp
        refine ⟨.ref h'.objs.size, H', ?_, rfl, fin H' _ kp newS ⟨as, eS, atP⟩⟩
        refine I1.call' (ch := []) rfl ⟨fun c ob q _ _ _ => k2 c ob q, fun c ob q _ _ _ => ⟨ob.slots, k2 c ob q⟩, fun c ob q n _ => ?_, fun c ob q _ => ⟨ob, k2 c ob q⟩, fun c zs q => kp c _ q, fun c ob u q => kp c _ q, fun c zs q => ⟨#[], by rw [kp c _ q]; simp⟩⟩ (fun c u q => ?_) I1.bare fun c q => by simp at q
        · obtain ⟨q1, q2⟩ := low c ob q
          rw [offP c q1 q2]
          exact n
        · by_cases hc1 : c ∈ as
          · obtain ⟨j, pr, d1, d2, d3⟩ := atP.mem hc1
            rw [d3] at q
            cases q
            obtain ⟨u1, u2, f1, f2, f3⟩ := hG.pairs j c d1
            obtain ⟨k1, g1, r1⟩ := intsRel rv (by simpa using f1)
            obtain ⟨k2', g2, r2⟩ := intsRel rv2 (by simpa using f2)
            have ep : pr = (k1, k2') := by
              rw [List.getElem?_zip_eq_some] at d2
              obtain ⟨z1, z2⟩ := d2
              rw [g1] at z1; rw [g2] at z2
              exact Prod.ext (Option.some.inj z1).symm (Option.some.inj z2).symm
            rw [ep]
            exact ⟨by show 2 ≤ sizeLine; decide, [u1, u2], .cons r1 (.cons r2 .nil), ⟨_, f3, rfl, _, rfl⟩⟩
          · by_cases hc2 : c = h'.objs.size
            · rw [hc2] at q ⊢
              rw [eS] at q
              cases q
              refine ⟨by rw [List.length_map, lenA, List.length_zip]; exact Nat.le_trans (Nat.min_le_left _ _) (Nat.le_trans hlen (by decide)), acc.toList, cc, by rw [hacc]; exact refsVals as, ?_⟩
              rw [Array.toArray_toList]
              exact hS
            · rw [offP c hc1 hc2] at q
              exact (I1.hok c u q).stay (fun d v _ y => k2 d v y) (fun d y => kp d _ y) fun d zs y => kp d _ y
end
end Ck

namespace Ck
set_option linter.all false
set_option maxRecDepth 100000
set_option maxHeartbeats 4000000
open PySem L2 Mv
def upTo (n : Nat) : List Int := (List.range n).map fun i : Nat => (i : Int)
theorem upTo_nodup (n : Nat) : (upTo n).Nodup := by
  unfold upTo
  rw [List.nodup_iff_pairwise_ne, List.pairwise_map]
  refine List.Pairwise.imp (fun {a b} h e => ?_) (List.nodup_iff_pairwise_ne.mp List.nodup_range)
  exact h (by omega)
theorem mem_upTo {n : Nat} {k : Int} : k ∈ upTo n ↔ 0 ≤ k ∧ k < n := by
  unfold upTo
  rw [List.mem_map]
  constructor
  · rintro ⟨i, h, rfl⟩
    have := List.mem_range.mp h
    omega
  · rintro ⟨h1, h2⟩
    exact ⟨k.toNat, List.mem_range.mpr (by omega), by omega⟩
theorem upTo_len (n : Nat) : (upTo n).length = n := by
  unfold upTo
  rw [List.length_map, List.length_range]
theorem rgV_upTo (n : Nat) : rgV 0 (n : Int) = (upTo n).map V.int := by
  unfold rgV upTo
  rw [List.map_map, show ((n : Int) - 0).toNat = n by omega]
  refine List.map_congr_left fun i _ => ?_
  show V.int (0 + (i : Int)) = V.int (i : Int)
  rw [Int.zero_add]
theorem map_out {α β : Type} (f : α → β) : ∀ (l : List α) (k : Nat), (l.map f).eraseIdx k = (l.eraseIdx k).map f
  | [], _ => rfl
  | _ :: _, 0 => rfl
  | x :: l, k + 1 => congrArg (f x :: ·) (map_out f l k)
theorem perm_out : ∀ {l : List Int} {k : Nat} {x : Int}, l[k]? = some x → (x :: l.eraseIdx k).Perm l
  | [], k, x, h => by simp at h
  | y :: l, 0, x, h => by
    simp at h; subst h
    exact List.Perm.refl _
  | y :: l, k + 1, x, h => by
    have ih := perm_out (l := l) (k := k) (x := x) (by simpa using h)
    exact (List.Perm.swap y x _).trans (ih.cons y)
theorem SameB.trans {f : Addr} {H H1 H2 : Hp} (a : SameB f H H1) (b : SameB f H1 H2) : SameB f H H2 := fun c o n e => b c o n (a c o n e)
theorem Same.sb {f : Addr} {H H' : Hp} (a : Same H H') : SameB f H H' := fun c o _ e => a c o e
/-- all but g, and what was made since -/
theorem SameB.off {g d : Addr} {H H1 H2 : Hp} (a : SameB g H H1) (b : SameB d H1 H2) (n : H d = none) : SameB g H H2 := fun c o nc e => b c o (ne_of_none e n) (a c o nc e)
theorem SameB.il {g a : Addr} {H H' : Hp} {ns : List Int} (s : SameB g H H') (n : a ≠ g) (h : IL H a ns) : IL H' a ns := s a _ n h
theorem GenAt.sb {g d : Addr} {H H' : Hp} {n : Nat} (s : SameB d H H') (ne : g ≠ d) (h : GenAt H g n) : GenAt H' g n :=
  let ⟨a, b, c, h1, h2⟩ := h
  ⟨a, b, c, s _ _ ne h1, h2⟩
theorem GenAt.lst {g : Addr} {H : Hp} {n : Nat} (h : GenAt H g n) : ∃ xs, H g = some (.lst xs) :=
  let ⟨_, _, _, h1, _⟩ := h
  ⟨_, h1⟩
/-- what len asks -/
def rLenS (K : PySem.W.Frag) : List V → Hp → VK → Prop := fun xs H Q => ∃ (p : Addr) (ys : List V), xs = [.ref p] ∧ (SqL K H p ys ∨ SqT K H p ys) ∧ Q (.int ys.length) H
abbrev sShuf : Stmt := top 22
def nShuf : List Str := ["_law_generator_here", "_law_most", "_law_left", "_law_found", "_law_turn", "_law_way", "_law_others", "_law_one", "_law_at"]
theorem scShuf : FnScope nShuf ["_law_generator_here", "_law_most"] (defScope sShuf) := ⟨rfl, rfl, rfl, by decide +kernel, rfl, by decide +kernel, by decide +kernel⟩
/-- a drawn shuffle of registers below M -/
structure Drawn (M : Nat) (ps : List Pr) : Prop where
  nd : (keys ps).Nodup
  k : ∀ p ∈ ps, 0 ≤ p.1 ∧ p.1 < M
  r : ∀ p ∈ ps, 0 ≤ p.2 ∧ p.2 < M
def spShuf : Sp := fun vs H Q _ => ∃ (g : Addr) (M n : Nat), vs = [.ref g, .int (M : Nat)] ∧ GenAt H g n ∧ n ≤ 2 ^ 39 ∧ 1 ≤ M ∧ M ≤ 100 ∧
  ∀ (H' : Hp) (p : Addr) (ps : List Pr), SameB g H H' → H p = none → GenAt H' g (n + 2 * M + 2) → PL H' p ps → Drawn M ps → Q (.ref p) H'
variable {P : Program} {w : World} {K : PySem.W.Frag} {mg : Str → Option Value} {base : Heap}
theorem ok_shuf {f fR : Addr} {fd fdR : FuncData} (F : Fun K "_law_shuffle" "_law_shuffle" sShuf f fd) (T : Txt mg)
    (GR : FnOk P w K mg base CX0 2 fR fdR ["_law_generator_here", "_law_bound"] spRandom) (bR : Binds K fdR ["_law_generator_here", "_law_bound"] []) (kR : PySem.W.keepIn K (.ref fR) = true) (gR : mg "_law_random" = some (.ref fR)) :
    FnOk P w K mg base CX0 3 f fd ["_law_generator_here", "_law_most"] spShuf := by
  refine F.ok scShuf (fun vs H Q E h => ?_) (fun cdv A outer s H vs Q E hr h => ?_)
  · obtain ⟨g, M, n, rfl, _⟩ := h
    rfl
  · obtain ⟨g, M, n, rfl, hG, hn, m1, m2, q⟩ := h
    refine ⟨_, pss_cons (ps_asg (pe_tup (pa_cons (pe_listRg rfl (by rfl) T.list (prg_1 (by rfl) T.range (pv 1))) (pa_cons (pe_lst pa_nil) pa_nil))) (pg_tup rfl (pgs_cons (pg_name (i := 2) scShuf.nd rfl (Or.inl rfl)) (pgs_cons (pg_name (i := 3) scShuf.nd rfl (Or.inr rfl)) pgs_nil))))
      (pss_cons (ps_for PassesOwn.never rfl (pi_range1 (by rfl) T.range (pa_cons (pe_call GR hr (by rfl) gR kR bR .nil pass0 (pa_cons (pv 0) (pa_cons (pe_op op_add (pv 1) pe_int) pa_nil))) pa_nil)) (pg_name (i := 4) scShuf.nd rfl (Or.inl rfl))
        (pss_one (ps_expr (pe_bm PySem.F.plainAttrs_list PySem.F.slot_list_append PySem.F.type_list_append mt_append (pv 3) (pa_cons
          (pe_bm PySem.F.plainAttrs_list PySem.F.slot_list_pop PySem.F.type_list_pop mt_popAt (pv 2) (pa_cons
            (pe_call GR hr (by rfl) gR kR bR .nil pass0 (pa_cons (pv 0) (pa_cons (pe_callB (r := rLenS K) call_len_seq (by rfl) T.len PySem.boot_len (pa_cons (pv 2) pa_nil)) pa_nil))) pa_nil)) pa_nil)))))
      (pss_cons (ps_set (i := 5) scShuf.nd rfl (Or.inr rfl) (pe_call GR hr (by rfl) gR kR bR .nil pass0 (pa_cons (pv 0) (pa_cons pe_int pa_nil))))
      (pss_cons (ps_if (pt_cmpR op_eq (pv 5) pe_int (nomark _))
        (pss_one (ps_ret (pe_lc (own := [("_law_one", 7)]) (g := gName 7) rfl scShuf.nd (pi_list (pv 3)) (blkOk_by (own := [("_law_one", 7)]) (N := nShuf) (sc := defScope sShuf) (by decide +kernel)) (fun _ _ _ _ _ => pg_name (i := 7) scShuf.nd rfl (Or.inl rfl))
          (fun _ _ _ _ _ => pts_nil) (fun _ _ _ _ _ => pe_tup (pa_cons (pv 7) (pa_cons (pe_call GR hr (by rfl) gR kR bR .nil pass0 (pa_cons (pv 0) (pa_cons (pv 1) pa_nil))) pa_nil)))))) pss_nil)
      (pss_cons (ps_setLc (i := 6) (own := [("_law_at", 8)]) (g := gName 8) rfl scShuf.nd rfl rfl (sw_true rfl rfl rfl (by decide +kernel)) (pi_range1 (by rfl) T.range (pa_cons (pe_callB (r := rLenS K) call_len_seq (by rfl) T.len PySem.boot_len (pa_cons (pv 3) pa_nil)) pa_nil))
          (blkOk_by (own := [("_law_at", 8)]) (N := nShuf) (sc := defScope sShuf) (by decide +kernel)) (fun _ _ _ _ _ => pg_name (i := 8) scShuf.nd rfl (Or.inl rfl)) (fun _ _ _ _ _ => pts_nil)
          (fun _ _ _ _ _ => pe_ix (r := rIxL K) ix_list (pv 3) (pe_op op_mod (pe_callTy call_int1 (by rfl) T.int (by decide +kernel) (pa_cons (pe_op op_add (pe_op op_add (pv 8) pe_int) (pe_call GR hr (by rfl) gR kR bR .nil pass0 (pa_cons (pv 0) (pa_cons (pe_op op_add pe_int (pv 5)) pa_nil)))) pa_nil))
            (pe_callB (r := rLenS K) call_len_seq (by rfl) T.len PySem.boot_len (pa_cons (pv 3) pa_nil))) (fun _ _ => rfl)))
      (pss_one (ps_ret (pe_listZip rfl (by rfl) T.list (by rfl) T.zip (pa_cons (pv 3) (pa_cons (pv 6) pa_nil))))))))), ?_⟩
    obtain ⟨gx, hgx⟩ := hG.lst
    refine rd_seq (rd_asgG (rd_tup (rd_cons ?_)))
    refine ⟨.int (M : Nat), rfl, _, rfl, ⟨by omega, by omega, by omega, by omega, by omega⟩, fun lf nlf => ⟨Nat.zero_le _, fun fo nfo => ⟨by show 2 ≤ sizeLine; decide, fun tt ntt => ⟨tt, _, rfl, .inl (.inl upd_same), rfl, _, _, rfl, _, _, rfl, rfl, ?_⟩⟩⟩⟩
    rw [rgV_upTo] at nfo ntt ⊢
    have s1 : Same H (upd (upd (upd H lf (.lst ((upTo M).map V.int))) fo (.lst [])) tt (.tup [.ref lf, .ref fo])) := ((same_upd nlf).trans (same_upd nfo)).trans (same_upd ntt)
    have l1 : IL (upd (upd (upd H lf (.lst ((upTo M).map V.int))) fo (.lst [])) tt (.tup [.ref lf, .ref fo])) lf (upTo M) := same_upd ntt _ _ (same_upd nfo _ _ upd_same)
    have f1 : IL (upd (upd (upd H lf (.lst ((upTo M).map V.int))) fo (.lst [])) tt (.tup [.ref lf, .ref fo])) fo [] := same_upd ntt _ _ upd_same
    have nHf : H fo = none := (same_upd nlf).free nfo
    have nlff : lf ≠ fo := ne_of_none upd_same nfo
    have glf : g ≠ lf := ne_of_none hgx nlf
    have gfo : g ≠ fo := ne_of_none hgx nHf
    generalize upd (upd (upd H lf (.lst ((upTo M).map V.int))) fo (.lst [])) tt (.tup [.ref lf, .ref fo]) = H1 at s1 l1 f1 ⊢
    -- the number of turns
    refine ⟨.ref g, rfl, .int (M : Nat), rfl, _, _, rfl, rfl, g, (M : Int) + 1, n, rfl, hG.same s1, by omega, by omega, by omega, fun r1 H2 sb2 G2 r10 r11 => ?_⟩
    refine ⟨_, rfl, by omega, by omega, ?_⟩
    refine for_range (lo := 0) (n := r1.toNat) (fun i σ Hc => ∃ y4 y5 y6 y7 y8 l fnd, σ = [some (.ref g), some (.int (M : Nat)), some (.ref lf), some (.ref fo), y4, y5, y6, y7, y8] ∧ SameB g H Hc ∧ GenAt Hc g (n + 1 + i) ∧ IL Hc lf l ∧ IL Hc fo fnd ∧ (fnd ++ l).Perm (upTo M) ∧ fnd.length = i)
      ⟨_, _, _, _, _, upTo M, [], rfl, (Same.sb s1).trans sb2, G2, sb2.il glf.symm l1, sb2.il gfo.symm f1, List.Perm.refl _, rfl⟩ ?_ ?_
    · rintro i σ Hc hi ⟨y4, y5, y6, y7, y8, l, fnd, rfl, sb, G, hl, hf, hp, hlen⟩
      have hll : l.length + i = M := by
        have := hp.length_eq
        rw [List.length_append, upTo_len] at this
        omega
      refine ⟨.ref fo, rfl, .inl ⟨rfl, _, .inl (.inl hf)⟩, ?_⟩
      refine ⟨.ref lf, rfl, .inl ⟨rfl, _, .inl (.inl hl)⟩, ?_⟩
      refine ⟨.ref g, rfl, .ref lf, rfl, lf, _, rfl, .inl (.inl (.inl hl)), ?_⟩
      refine ⟨g, _, n + 1 + i, rfl, G, by omega, by rw [List.length_map]; omega, by rw [List.length_map]; omega, fun r H3 sb3 G3 r0 r2 => ?_⟩
      rw [List.length_map] at r2
      have hl3 := sb3.il glf.symm hl
      have hf3 := sb3.il gfo.symm hf
      have hr : r.toNat < l.length := by omega
      refine ⟨lf, _, r, r.toNat, .int l[r.toNat], rfl, rfl, hl3, by omega, by omega, ?_, ?_, ?_⟩
      · unfold seqIndex?
        rw [List.length_map]
        have e1 : (decide (0 ≤ (if r < 0 then r + (l.length : Int) else r)) && decide ((if r < 0 then r + (l.length : Int) else r) < (l.length : Int))) = true := by
          rw [if_neg (by omega)]
          simp
          omega
        simp only [e1, if_true]
        rw [if_neg (by omega)]
      · rw [List.getElem?_map, List.getElem?_eq_getElem hr]
        rfl
      · have hf4 : IL (upd H3 lf (.lst ((l.map V.int).eraseIdx r.toNat))) fo fnd := by
          unfold IL
          rw [upd_ne nlff.symm]
          exact hf3
        refine ⟨fo, _, _, rfl, rfl, hf4, by rw [List.length_map, hlen]; exact Nat.lt_of_lt_of_le (show i < 1000 by omega) (by decide), ?_⟩
        refine ⟨_, _, _, _, _, l.eraseIdx r.toNat, fnd ++ [l[r.toNat]], rfl, fun b o nb e => ?_, ?_, ?_, ?_, ?_, by rw [List.length_append, hlen]; rfl⟩
        · rw [upd_ne (ne_of_none e nHf), upd_ne (ne_of_none e nlf)]
          exact sb3 b o nb (sb b o nb e)
        · exact (G3.sb (SameB.upd (f := lf)) glf).sb SameB.upd gfo
        · unfold IL
          rw [upd_ne nlff, upd_same, map_out]
        · unfold IL
          rw [upd_same, List.map_append]
          rfl
        · rw [List.append_assoc]
          refine List.Perm.trans ?_ hp
          exact List.Perm.append_left _ (perm_out (List.getElem?_eq_getElem hr))
    · rintro σ Hc ⟨y4, y5, y6, y7, y8, l, fnd, rfl, sb, G, hl, hf, hp, hlen⟩
      have hfl : fnd.length ≤ M := by omega
      have pnd : fnd.Nodup := (List.nodup_append.mp (hp.nodup_iff.mpr (upTo_nodup M))).1
      have pin : ∀ k ∈ fnd, 0 ≤ k ∧ k < M := fun k hk => mem_upTo.mp (hp.mem_iff.mp (List.mem_append_left _ hk))
      -- way
      refine ⟨.ref g, rfl, g, 3, _, rfl, G, by omega, by decide, by decide, fun wy H4 sb4 G4 w0 w1 => ?_⟩
      have hf4 := sb4.il gfo.symm hf
      have sb14 := sb.trans sb4
      refine ⟨.int wy, rfl, rfl, _, rfl, ?_⟩
      by_cases hw : wy = 0
      · refine (show (if decide (V.int wy = V.int 0) = true then _ else _) from ?_)
        rw [decide_eq_true (congrArg V.int hw)]
        refine iteT ⟨.ref fo, rfl, fo, rfl, ⟨_, .inl (.inl hf4)⟩, fun D nD => ?_⟩
        have gD : g ≠ D := by
          obtain ⟨xs, h⟩ := G4.lst
          exact ne_of_none h nD
        have fD : fo ≠ D := ne_of_none hf4 nD
        have nHD : H D = none := by
          cases e : H D with
          | none => rfl
          | some o =>
            have := sb14 D o gD.symm e
            rw [nD] at this
            cases this
        refine lc_list (K := K) (a := fo) (xs := fnd.map V.int) (fun j H' => ∃ qs, SameB g H H' ∧ IL H' fo fnd ∧ GenAt H' g (n + 1 + r1.toNat + 1 + j) ∧ PL H' D qs ∧ keys qs = fnd.take j ∧ ∀ p ∈ qs, 0 ≤ p.2 ∧ p.2 < M)
          ⟨[], fun b o nb e => by rw [upd_ne (ne_of_none e nHD)]; exact sb14 b o nb e, by unfold IL; rw [upd_ne fD]; exact hf4, G4.sb SameB.upd gD, PL.nil upd_same, rfl, fun p hp => nomatch hp⟩ (fun j H' _ ⟨_, _, h, _⟩ => .inl (.inl h)) (fun j x H' hx ⟨qs, sb5, hf5, G5, hD5, hk5, hr5⟩ => ?_) (fun H' ⟨qs, sb5, hf5, G5, hD5, hk5, hr5⟩ => ?_)
        · obtain ⟨k, rfl, hk⟩ := ints_get hx
          refine ⟨rfl, .int k, rfl, .ref g, rfl, .int (M : Nat), rfl, g, _, _, rfl, G5, by have := idx_lt hk; omega, by omega, by omega, fun r H6 sb6 G6 r0 r2 => ⟨by show 2 ≤ sizeLine; decide, fun t nt => ?_⟩⟩
          obtain ⟨gx5, hg5⟩ := G5.lst
          have hD6 := sb6.pl hg5 gD.symm hD5
          obtain ⟨bs, lb, tb⟩ := hD6
          have lb' : (upd H6 t (.tup [.int k, .int r])) D = some (.lst (bs.map V.ref)) := same_upd nt _ _ lb
          have hq : qs.length ≤ M := by
            have := congrArg List.length hk5
            rw [keys, List.length_map, List.length_take] at this
            omega
          have gt : g ≠ t := by
            obtain ⟨xs, h⟩ := G6.lst
            exact ne_of_none h nt
          refine ⟨_, lb', by rw [List.length_map, tb.len]; exact Nat.lt_of_le_of_lt (Nat.le_trans hq m2) (by decide), qs ++ [(k, r)], fun b o nb e => ?_, ?_, ?_, ⟨bs ++ [t], by rw [upd_same, List.map_append]; rfl, TupsAt.upd lb' (TupsAt.app (p := (k, r)) upd_same (tb.same (same_upd nt)))⟩, ?_, ?_⟩
          · rw [upd_ne (ne_of_none e nHD)]
            exact same_upd nt _ _ (sb6 b o nb (sb5 b o nb e))
          · unfold IL
            rw [upd_ne fD]
            exact same_upd nt _ _ (sb6.il gfo.symm hf5)
          · exact (G6.same (same_upd nt)).sb SameB.upd gD
          · rw [List.take_add_one, hk, ← hk5]
            simp [keys]
          · intro p hp'
            rcases List.mem_append.mp hp' with z | z
            · exact hr5 p z
            · rw [List.mem_singleton.mp z]
              exact ⟨r0, r2⟩
        · rw [List.length_map, List.take_length] at hk5
          rw [List.length_map, hlen] at G5
          refine q H' D qs sb5 nHD (G5.more (by omega)) hD5 ⟨by rw [hk5]; exact pnd, fun p hp' => pin _ (by rw [← hk5]; exact List.mem_map.mpr ⟨p, hp', rfl⟩), hr5⟩
      · refine (show (if decide (V.int wy = V.int 0) = true then _ else _) from ?_)
        rw [decide_eq_false fun z => hw (V.int.inj z)]
        refine iteF ?_
        refine rd_next ?_
        dsimp only
        refine rd_seq (rd_asg ?_)
        refine ⟨.ref fo, rfl, fo, _, rfl, .inl (.inl (.inl hf4)), ?_⟩
        rw [List.length_map]
        refine ⟨_, rfl, by omega, by omega, fun D nD => ?_⟩
        have gD : g ≠ D := by
          obtain ⟨xs, h⟩ := G4.lst
          exact ne_of_none h nD
        have fD : fo ≠ D := ne_of_none hf4 nD
        have nHD : H D = none := by
          cases e : H D with
          | none => rfl
          | some o =>
            have := sb14 D o gD.symm e
            rw [nD] at this
            cases this
        rw [Int.toNat_natCast]
        refine lc_range (lo := 0) (n := fnd.length) (fun j H' => ∃ os, SameB g H H' ∧ IL H' fo fnd ∧ GenAt H' g (n + 1 + r1.toNat + 1 + j) ∧ IL H' D os ∧ os.length = j ∧ ∀ k ∈ os, k ∈ fnd)
          ⟨[], fun b o nb e => by rw [upd_ne (ne_of_none e nHD)]; exact sb14 b o nb e, by unfold IL; rw [upd_ne fD]; exact hf4, G4.sb SameB.upd gD, upd_same, rfl, fun p hp => nomatch hp⟩ (fun j H' hj ⟨os, sb5, hf5, G5, hD5, hl5, hr5⟩ => ?_) (fun H' ⟨os, sb5, hf5, G5, hD5, hl5, hr5⟩ => ?_)
        · refine ⟨rfl, .ref fo, rfl, .int (0 + (j : Int)), rfl, _, _, rfl, rfl, .ref g, rfl, .int wy, rfl, _, _, rfl, rfl, g, 1 + wy, _, rfl, G5, by omega, by omega, by omega, fun r H6 sb6 G6 r0 r2 => ⟨_, _, rfl, rfl, .inl ⟨_, rfl, ?_⟩⟩⟩
          have hf6 := sb6.il gfo.symm hf5
          have hD6 := sb6.il gD.symm hD5
          have hpos : (0 : Int) < (((fnd.map V.int).length : Nat) : Int) := by rw [List.length_map]; omega
          refine ⟨.ref fo, rfl, fo, _, rfl, .inl (.inl (.inl hf6)), _, _, rfl, rfl, hpos, ?_⟩
          have z0 := mod_lo (0 + (j : Int) + 1 + r) hpos
          have z1 := mod_hi (0 + (j : Int) + 1 + r) hpos
          have e0 : (0 + (j : Int) + 1 + r) % (((fnd.map V.int).length : Nat) : Int) = ((((0 + (j : Int) + 1 + r) % (((fnd.map V.int).length : Nat) : Int)).toNat : Nat) : Int) := by omega
          have hlt : ((0 + (j : Int) + 1 + r) % (((fnd.map V.int).length : Nat) : Int)).toNat < fnd.length := by
            rw [List.length_map] at z1 ⊢
            omega
          generalize hI : ((0 + (j : Int) + 1 + r) % (((fnd.map V.int).length : Nat) : Int)).toNat = I at e0 hlt
          have hget : (fnd.map V.int)[I]? = some (.int fnd[I]) := by
            rw [List.getElem?_map, List.getElem?_eq_getElem hlt]
            rfl
          refine ⟨fo, _, _, .int fnd[I], rfl, rfl, .inl (.inl hf6), ?_, _, hD6, by rw [List.length_map, hl5]; exact Nat.lt_of_lt_of_le (show j < 1000 by omega) (by decide), os ++ [fnd[I]], fun b o nb e => ?_, ?_, G6.sb SameB.upd gD, ?_, by rw [List.length_append, hl5]; rfl, ?_⟩
          · refine (show atI (fnd.map V.int) ((0 + (j : Int) + 1 + r) % (((fnd.map V.int).length : Nat) : Int)) = some (.int fnd[I]) from ?_)
            rw [e0]
            exact atI_nat hget
          · rw [upd_ne (ne_of_none e nHD)]
            exact sb6 b o nb (sb5 b o nb e)
          · unfold IL
            rw [upd_ne fD]
            exact hf6
          · unfold IL
            rw [upd_same, List.map_append]
            rfl
          · intro k hk
            rcases List.mem_append.mp hk with z | z
            · exact hr5 k z
            · rw [List.mem_singleton.mp z]
              exact List.getElem_mem hlt
        · dsimp only
          refine rd_ret ?_
          refine ⟨.ref fo, rfl, .ref D, rfl, fo, D, fnd, os, rfl, hf5, hD5, hl5.symm, by omega, fun H' p s6 np hp6 => ?_⟩
          have ek : keys (fnd.zip os) = fnd := by
            unfold keys
            rw [List.map_fst_zip (by omega)]
          refine q H' p _ (sb5.trans (Same.sb s6)) ?_ ((G5.same s6).more (by omega)) hp6 ⟨by rw [ek]; exact pnd, fun p hp' => pin _ (by rw [← ek]; exact List.mem_map.mpr ⟨p, hp', rfl⟩), fun p hp' => pin _ (hr5 _ (List.of_mem_zip hp').2)⟩
          cases e : H p with
          | none => rfl
          | some o =>
            by_cases hpg : p = g
            · obtain ⟨xs, h⟩ := G5.lst
              rw [hpg, h] at np
              cases np
            · have := sb5 p o hpg e
              rw [np] at this
              cases this
end Ck

namespace Ck
set_option linter.all false
set_option maxRecDepth 100000
set_option maxHeartbeats 4000000
open PySem L2 Mv
/-! ### the known states as a dict with tuple keys, the waiting ones as a list of tuples -/
def kk (c : Nat) : List Key := (dec c).map Sum.inl
def kvsT (W : List (Nat × Nat)) : List (List Key × V) := W.map fun w => (kk w.1, V.int (w.2 : Nat))
theorem kk_vals (c : Nat) : (kk c).map kV = (dec c).map V.int := rfl
theorem kk_inj {a b : Nat} (ha : a < 256) (hb : b < 256) (h : kk a = kk b) : a = b := by
  refine dec_inj ha hb ?_
  unfold kk dec at h
  injection h with h0 h
  injection h with h1 h
  injection h with h2 h
  injection h with h3 _
  unfold dec
  rw [Sum.inl.inj h0, Sum.inl.inj h1, Sum.inl.inj h2, Sum.inl.inj h3]
theorem val_none {m : Nat} (hm : m < 256) : ∀ {W : List (Nat × Nat)}, (∀ w ∈ W, w.1 < 256) → ¬ memC m W = true → valV (kvsT W) (kk m) = none
  | [], _, _ => rfl
  | w :: r, hw, h => by
    have h1 : ¬ (Nat.beq w.1 m || memC m r) = true := h
    rw [Bool.or_eq_true, not_or] at h1
    have e : decide (kk w.1 = kk m) = false := decide_eq_false fun q => h1.1 (by rw [kk_inj (hw w List.mem_cons_self) hm q]; exact Nat.beq_refl _)
    have ih := val_none hm (fun x hx => hw x (List.mem_cons_of_mem _ hx)) h1.2
    unfold valV kvsT at ih ⊢
    rw [List.map_cons, List.find?_cons]
    simp only [e]
    exact ih
theorem val_some {m d : Nat} : ∀ {W : List (Nat × Nat)}, Known W → (m, d) ∈ W → valV (kvsT W) (kk m) = some (.int (d : Nat))
  | [], _, h => by cases h
  | w :: r, k, h => by
    unfold valV kvsT
    rw [List.map_cons, List.find?_cons]
    rcases List.mem_cons.mp h with e | h
    · subst e
      simp
    · have nd : (w.1 :: r.map (·.1)).Nodup := k.nd
      have e : decide (kk w.1 = kk m) = false := decide_eq_false fun q => by
        have := kk_inj (k.lt w List.mem_cons_self) (k.lt _ (List.mem_cons_of_mem _ h)) q
        exact (List.nodup_cons.mp nd).1 (by rw [this]; exact List.mem_map.mpr ⟨_, h, rfl⟩)
      simp only [e]
      exact val_some (W := r) ⟨(List.nodup_cons.mp nd).2, fun x hx => k.lt x (List.mem_cons_of_mem _ hx)⟩ h
theorem val_is {m : Nat} {W : List (Nat × Nat)} (k : Known W) (h : memC m W = true) : ∃ v, valV (kvsT W) (kk m) = some v := by
  obtain ⟨w, hw, e⟩ := List.mem_map.mp ((memC_iff m W).mp h)
  refine ⟨.int (w.2 : Nat), val_some k ?_⟩
  rw [← e]
  exact hw
theorem put_new {m d : Nat} (hm : m < 256) {W : List (Nat × Nat)} (hw : ∀ w ∈ W, w.1 < 256) (h : ¬ memC m W = true) : putK (kvsT W) (kk m) (.int (d : Nat)) = kvsT (W ++ [(m, d)]) := by
  have no : ((kvsT W).any fun kv => decide (kv.1 = kk m)) = false := by
    rw [List.any_eq_false]
    intro kv hkv
    obtain ⟨w, h1, rfl⟩ := List.mem_map.mp hkv
    simp only [decide_eq_true_eq]
    exact fun q => h ((memC_iff m W).mpr (List.mem_map.mpr ⟨w, h1, kk_inj (hw w h1) hm q⟩))
  unfold putK
  rw [no]
  simp [kvsT]
/-- the waiting states -/
def WTs (H : Hp) : List Addr → List (Nat × Nat) → Prop := PySem.Paired fun a w => H a = some (.tup ((dec w.1).map V.int))
theorem WTs.same {H H' : Hp} (s : Same H H') : ∀ {as : List Addr} {W : List (Nat × Nat)}, WTs H as W → WTs H' as W
  | _, _, .nil => .nil
  | _, _, .cons h t => .cons (s _ _ h) (WTs.same s t)
theorem WTs.upd {H : Hp} {D : Addr} {o u : HO} (hD : H D = some u) (hu : ∀ xs, u ≠ .tup xs) : ∀ {as : List Addr} {W : List (Nat × Nat)}, WTs H as W → WTs (upd H D o) as W
  | _, _, .nil => .nil
  | _, _, .cons h t => .cons (by rw [upd_ne (ne_of h hD fun q => hu _ q.symm)]; exact h) (WTs.upd hD hu t)
theorem WTs.get {H : Hp} : ∀ {as : List Addr} {W : List (Nat × Nat)} {i : Nat} {w : Nat × Nat}, WTs H as W → W[i]? = some w → ∃ a, as[i]? = some a ∧ H a = some (.tup ((dec w.1).map V.int))
  | _, _, i, w, .nil, e => by simp at e
  | _, _, 0, w, .cons h t, e => by simp at e; subst e; exact ⟨_, rfl, h⟩
  | _, _, i + 1, w, .cons h t, e => by
    obtain ⟨a, e1, e2⟩ := WTs.get (i := i) t (by simpa using e)
    exact ⟨a, by simpa using e1, e2⟩
theorem WTs.len {H : Hp} {as : List Addr} {W : List (Nat × Nat)} (h : WTs H as W) : as.length = W.length := PySem.Paired.length h
/-- the state of the search: known at kn, waiting at wq -/
structure Bst (H : Hp) (kn wq : Addr) (W : List (Nat × Nat)) : Prop where
  k : Known W
  d : H kn = some (.dT (kvsT W))
  q : ∃ as, H wq = some (.lst (as.map V.ref)) ∧ WTs H as W
theorem Bst.same {H H' : Hp} {kn wq : Addr} {W : List (Nat × Nat)} (s : Same H H') (b : Bst H kn wq W) : Bst H' kn wq W :=
  ⟨b.k, s _ _ b.d, let ⟨as, h1, h2⟩ := b.q; ⟨as, s _ _ h1, h2.same s⟩⟩
theorem WTs.app {H : Hp} {m : Addr} {w : Nat × Nat} (hm : H m = some (.tup ((dec w.1).map V.int))) : ∀ {as : List Addr} {W : List (Nat × Nat)}, WTs H as W → WTs H (as ++ [m]) (W ++ [w])
  | _, _, .nil => .cons hm .nil
  | _, _, .cons h t => .cons h (WTs.app hm t)
theorem rd_cat {K : PySem.W.Frag} {H : Hp} {a b : Addr} {xs ys : List V} {Q : VK} (ha : H a = some (.tup xs)) (hb : H b = some (.tup ys)) (hz : xs.length + ys.length ≤ sizeLine) (fin : ∀ (m : Addr) (H' : Hp), Same H H' → H' m = some (.tup (xs ++ ys)) → Q (.ref m) H') : rCatA K (.ref a) (.ref b) H Q := by
  refine ⟨a, b, xs, ys, rfl, rfl, .inl (.inl ha), .inl (.inl hb), hz, fun e => ?_, fun _ e => ?_, fun _ _ p np => fin p _ (same_upd np) upd_same⟩
  · exact fin b H (Same.refl _) (by rw [e]; exact hb)
  · exact fin a H (Same.refl _) (by rw [e, List.append_nil]; exact ha)
theorem cut_lo (l : List Int) (i : Nat) (h : i < l.length) : cutV (l.map V.int) none (some (i : Int)) = (l.take i).map V.int := by
  unfold cutV
  rw [HT.sIx_none, HT.sIx_nat, List.length_map, List.drop_zero, Nat.sub_zero, Nat.min_eq_left (Nat.le_of_lt h), List.map_take]
theorem cut_hi (l : List Int) (i : Nat) (h : i < l.length) : cutV (l.map V.int) (some ((i : Int) + 1)) none = (l.drop (i + 1)).map V.int := by
  unfold cutV
  rw [HT.sIx_none, show ((i : Int) + 1) = ((i + 1 : Nat) : Int) from rfl, HT.sIx_nat, List.length_map, Nat.min_eq_left h, List.map_drop]
  refine List.take_of_length_le ?_
  rw [List.length_drop, List.length_map]
  exact Nat.le_refl _
theorem grow_add (h d : Nat) : ∀ (l W : List (Nat × Nat)), (growC h d l W).length ≤ W.length + l.length
  | [], W => Nat.le_refl _
  | m :: l, W => by
    have h1 := grow_add h d l (addC (d + 1) W (putC h m.1 m.2))
    have h2 := add_len (d := d + 1) (m := putC h m.1 m.2) (W := W)
    show (growC h d l (addC (d + 1) W (putC h m.1 m.2))).length ≤ W.length + (l.length + 1)
    omega
theorem rd_sl {K : PySem.W.Frag} {H : Hp} {a : Addr} {xs : List V} {lo hi : Option Int} {Q : VK} (ha : H a = some (.tup xs)) (nw : ¬ (HT.sIx xs.length 0 lo = 0 ∧ HT.sIx xs.length xs.length hi = xs.length))
    (fin : ∀ (m : Addr) (H' : Hp), Same H H' → H' m = some (.tup (cutV xs lo hi)) → Q (.ref m) H') : rSlA K (.ref a) lo hi H Q :=
  ⟨a, xs, rfl, .inl (.inl ha), fun e => absurd e nw, fun _ p np => fin p _ (same_upd np) upd_same⟩
def badAt (g : List Int) (h p : Nat) : Bool := !decide (([0, 1, 2, 9] : List Int).getD p 0 = 9) && !decide ((dec h).getD p 0 = g.getD p 0)
def badL (g : List Int) (h j : Nat) : List Int := ((List.range j).filter (badAt g h)).map fun p => ((p : Nat) : Int)
theorem badL_t {g : List Int} {h j : Nat} (e : badAt g h j = true) : badL g h (j + 1) = badL g h j ++ [((j : Nat) : Int)] := by
  unfold badL
  rw [List.range_succ, List.filter_append, List.map_append]
  simp [e]
theorem badL_f {g : List Int} {h j : Nat} (e : badAt g h j = false) : badL g h (j + 1) = badL g h j := by
  unfold badL
  rw [List.range_succ, List.filter_append]
  simp [e]
theorem badL_ok (g : List Int) (h : Nat) : (badL g h 4).isEmpty = okC g h := by
  have e : List.range 4 = [0, 1, 2, 3] := rfl
  unfold badL okC
  rw [e]
  simp [badAt, List.filter_cons]
  split <;> split <;> split <;> simp_all
theorem reg4 {j : Nat} (hj : j < 4) : ([0, 1, 2, 9] : List Int)[j]? = some (([0, 1, 2, 9] : List Int).getD j 0) := by
  match j, hj with
  | 0, _ => rfl
  | 1, _ => rfl
  | 2, _ => rfl
  | 3, _ => rfl
theorem at4 {l : List Int} (hl : l.length = 4) {j : Nat} (hj : j < 4) : atI (l.map V.int) ((j : Nat) : Int) = some (.int (l.getD j 0)) := by
  refine atI_nat ?_
  rw [List.getElem?_map, List.getD_eq_getElem?_getD, List.getElem?_eq_getElem (by omega)]
  rfl
theorem goal_len (ps : List Pr) : (goalOf ps).length = 4 := rfl
theorem dec_len (h : Nat) : (dec h).length = 4 := rfl
abbrev sShort : Stmt := top 26
def nShort : List Str := ["_law_shuffle_here", "_law_spare", "_law_registers", "_law_start", "_law_told", "_law_goal", "_law_known", "_law_at", "_law_waiting", "_law_here", "_law_one", "_law_other", "_law_more", "_law_spot", "_law_place"]
theorem scShort : FnScope nShort ["_law_shuffle_here", "_law_spare", "_law_registers"] (defScope sShort) := ⟨rfl, rfl, rfl, by decide +kernel, rfl, by decide +kernel, by decide +kernel⟩
def spShort : Sp := fun vs H Q _ => ∃ (a r : Addr) (ps : List Pr) (d : Nat), vs = [.ref a, .int 9, .ref r] ∧ PL H a ps ∧ (keys ps).Nodup ∧ IL H r [0, 1, 2, 9] ∧ bfsC 300 (goalOf ps) [(228, 0)] 0 = some d ∧
  ∀ H', Same H H' → Q (.int (d : Nat)) H'
variable {P : Program} {w : World} {K : PySem.W.Frag} {mg : Str → Option Value} {base : Heap}
theorem ok_short {f : Addr} {fd : FuncData} (F : Fun K "_law_shortest" "_law_shortest" sShort f fd) (T : Txt mg) : FnOk P w K mg base CX0 1 f fd ["_law_shuffle_here", "_law_spare", "_law_registers"] spShort := by
  refine F.ok scShort (fun vs H Q E h => ?_) (fun cdv A outer s H vs Q E hr h => ?_)
  · obtain ⟨a, r, ps, d, rfl, _⟩ := h
    rfl
  · obtain ⟨a, r, ps, dd, rfl, hP, hnd, hI, hB, q⟩ := h
    refine ⟨_, pss_cons (ps_asg (pe_tup (pa_cons (pe_callTy call_tuple_of (by rfl) T.tuple (by decide +kernel) (pa_cons (pv 2) pa_nil)) (pa_cons (pe_callTy (call_dictP rfl) (by rfl) T.dict (by decide +kernel) (pa_cons (pv 0) pa_nil)) pa_nil)))
        (pg_tup rfl (pgs_cons (pg_name (i := 3) scShort.nd rfl (Or.inl rfl)) (pgs_cons (pg_name (i := 4) scShort.nd rfl (Or.inr rfl)) pgs_nil))))
      (pss_cons (ps_asg (pe_tup (pa_cons (pe_lc (own := [("_law_spot", 13)]) (g := gName 13) rfl scShort.nd (pi_list (pv 2)) (blkOk_by (own := [("_law_spot", 13)]) (N := nShort) (sc := defScope sShort) (by decide +kernel)) (fun _ _ _ _ _ => pg_name (i := 13) scShort.nd rfl (Or.inl rfl))
            (fun _ _ _ _ _ => pts_nil) (fun _ _ _ _ _ => pe_dget2 (hu_of hr) (pv 4) (pv 13) (pv 13) ⟨rfl, rfl, rfl, rfl⟩)) (pa_cons pe_dnewT (pa_cons pe_int pa_nil))))
        (pg_tup rfl (pgs_cons (pg_name (i := 5) scShort.nd rfl (Or.inr rfl)) (pgs_cons (pg_name (i := 6) scShort.nd rfl (Or.inl rfl)) (pgs_cons (pg_name (i := 7) scShort.nd rfl (Or.inl rfl)) pgs_nil)))))
      (pss_cons (ps_asg (pe_tup (pa_cons pe_int (pa_cons (pe_lst (pa_cons (pv 3) pa_nil)) pa_nil))) (pg_tup rfl (pgs_cons (pg_sub (pv 6) (pv 3) (set_dict (hu_of hr))) (pgs_cons (pg_name (i := 8) scShort.nd rfl (Or.inl rfl)) pgs_nil))))
      (pss_cons (ps_while PassesOwn.never (pt_cmpR op_lt (pv 7) (pe_callB (r := rLenS K) call_len_seq (by rfl) T.len PySem.boot_len (pa_cons (pv 8) pa_nil)) (nomark _))
        (pss_cons (ps_set (i := 9) scShort.nd rfl (Or.inr rfl) (pe_ix (r := rIxL K) ix_list (pv 8) (pv 7) (fun _ _ => rfl)))
        (pss_cons (ps_if (pt_cmpR (r := rEqD K) (op_eqD hr.units) (pe_lc (own := [("_law_place", 14)]) (g := gName 14) rfl scShort.nd (pi_range1 (by rfl) T.range (pa_cons (pe_callB (r := rLenS K) call_len_seq (by rfl) T.len PySem.boot_len (pa_cons (pv 2) pa_nil)) pa_nil))
              (blkOk_by (own := [("_law_place", 14)]) (N := nShort) (sc := defScope sShort) (by decide +kernel)) (fun _ _ _ _ _ => pg_name (i := 14) scShort.nd rfl (Or.inl rfl))
              (fun _ _ _ _ _ => pts_one (PW.pt (pw_and (pt_cmpR op_ne (pe_ix (r := rIxL K) ix_list (pv 2) (pv 14) (fun _ _ => rfl)) (pv 1) (nomark _)) (pw_and1 (pt_cmpR op_ne (pe_ix (r := rIxT K) ix_tup (pv 9) (pv 14) (fun _ _ => rfl)) (pe_ix (r := rIxL K) ix_list (pv 5) (pv 14) (fun _ _ => rfl)) (nomark _))))))
              (fun _ _ _ _ _ => pv 14)) (pe_lst pa_nil) (nomark _))
          (pss_one (ps_ret (pe_dget (hu_of hr) (pv 6) (pv 9) (fun _ _ => rfl)))) pss_nil)
        (pss_cons (ps_for PassesOwn.never rfl (pi_range1 (by rfl) T.range (pa_cons (pe_callB (r := rLenS K) call_len_seq (by rfl) T.len PySem.boot_len (pa_cons (pv 2) pa_nil)) pa_nil)) (pg_name (i := 10) scShort.nd rfl (Or.inl rfl))
          (pss_one (ps_for PassesOwn.never rfl (pi_range1 (by rfl) T.range (pa_cons (pe_callB (r := rLenS K) call_len_seq (by rfl) T.len PySem.boot_len (pa_cons (pv 2) pa_nil)) pa_nil)) (pg_name (i := 11) scShort.nd rfl (Or.inl rfl))
            (pss_cons (ps_set (i := 12) scShort.nd rfl (Or.inl rfl) (pe_op op_catA (pe_op op_catA (pe_slice sl_tupA (pv 9) po_none (po_some (pv 10))) (pe_tup (pa_cons (pe_ix (r := rIxT K) ix_tup (pv 9) (pv 11) (fun _ _ => rfl)) pa_nil)))
                (pe_slice sl_tupA (pv 9) (po_some (pe_op op_add (pv 10) pe_int)) po_none)))
            (pss_one (ps_if (pt_cmp (pc_dnotin (hu_of hr) (pv 12) (pv 6)))
              (pss_cons (ps_dput (hu_of hr) (pv 6) (pv 12) (pe_op op_add (pe_dget (hu_of hr) (pv 6) (pv 9) (fun _ _ => rfl)) pe_int) rfl)
              (pss_one (ps_expr (pe_bm PySem.F.plainAttrs_list PySem.F.slot_list_append PySem.F.type_list_append mt_append (pv 8) (pa_cons (pv 12) pa_nil))))) pss_nil))))))
        (pss_one (ps_set (i := 7) scShort.nd rfl (Or.inl rfl) (pe_op op_add (pv 7) pe_int)))))))
      (pss_one (ps_ret pe_non))))), ?_⟩
    obtain ⟨as0, hA0, hT0⟩ := id hP
    have e228 : (dec 228).map V.int = [V.int 0, V.int 1, V.int 2, V.int 9] := by decide
    refine rd_seq (rd_asgG (rd_tup (rd_cons (rd_cb (rd_cons ?_)))))
    refine ⟨.ref r, rfl, r, _, rfl, .inl ⟨.inl (.inl hI), fun st nst => ?_⟩⟩
    have s1 : Same H (upd H st (.tup (([0, 1, 2, 9] : List Int).map V.int))) := same_upd nst
    refine ⟨.ref a, rfl, a, as0, kvsOf ps, rfl, .inl (.inl (s1 _ _ hA0)), tups_paired (hT0.same s1), fun tl ntl => ⟨by show 2 ≤ sizeLine; decide, fun tt ntt => ⟨tt, _, rfl, .inl (.inl upd_same), rfl, _, _, rfl, _, _, rfl, rfl, ?_⟩⟩⟩
    rw [merge_nil hnd] at ntt ⊢
    have s2 := (s1.trans (same_upd (o := .dK (kvsOf ps)) ntl)).trans (same_upd (o := .tup [.ref st, .ref tl]) ntt)
    have hst := same_upd (o := .tup [.ref st, .ref tl]) ntt _ _ (same_upd (o := .dK (kvsOf ps)) ntl _ _ (show (upd H st (.tup (([0, 1, 2, 9] : List Int).map V.int))) st = some (.tup ((dec 228).map V.int)) by rw [upd_same, e228]; rfl))
    have htl := same_upd (o := .tup [.ref st, .ref tl]) ntt _ _ (show (upd (upd H st (.tup (([0, 1, 2, 9] : List Int).map V.int))) tl (.dK (kvsOf ps))) tl = some (.dK (kvsOf ps)) from upd_same)
    generalize upd (upd (upd H st (.tup (([0, 1, 2, 9] : List Int).map V.int))) tl (.dK (kvsOf ps))) tt (.tup [.ref st, .ref tl]) = H1 at s2 hst htl ⊢
    dsimp only
    refine rd_seq (rd_asgG (rd_tup (rd_cons ?_)))
    refine rd_ii (s := 2) rfl (hI.same s2) (by decide) (fun i => (([0, 1, 2, 9] : List Int).take i).map fun x => (look ps x).getD x) rfl (fun i k D H' hk hD sm c => ?_) fun gl H2 ngl s3 hgl => ?_
    · have hq := dget_at (.inl (sm _ _ htl)) k
      have ey : ((look ps k).map V.int).getD (.int k) = V.int ((look ps k).getD k) := by cases look ps k <;> rfl
      refine ⟨rfl, .ref tl, rfl, tl, rfl, .inl ⟨_, .inl (sm _ _ htl)⟩, .int k, rfl, .int k, rfl, _, hq, ?_⟩
      rw [ey]
      exact c.push hD (Same.refl _) (lt_line (idx_lt hk) (by decide)) (take_succ_map _ hk)
    · have hgl : IL H2 gl (goalOf ps) := hgl
      refine fun kn nkn => ⟨by show 3 ≤ sizeLine; decide, fun t3 n3 => ⟨t3, _, rfl, .inl (.inl upd_same), rfl, _, _, rfl, _, _, rfl, _, _, rfl, rfl, ?_⟩⟩
      have s4 := (s2.trans s3).trans ((same_upd (o := .dT []) nkn).trans (same_upd (o := .tup [.ref gl, .ref kn, .int 0]) n3))
      have nHkn : H kn = none := (s2.trans s3).free nkn
      have hgl4 := hgl.same ((same_upd (o := .dT []) nkn).trans (same_upd (o := .tup [.ref gl, .ref kn, .int 0]) n3))
      have hst4 := ((same_upd (o := .dT []) nkn).trans (same_upd (o := .tup [.ref gl, .ref kn, .int 0]) n3)) _ _ (s3 _ _ hst)
      have hkn4 := same_upd (o := .tup [.ref gl, .ref kn, .int 0]) n3 _ _ (show (upd H2 kn (.dT [])) kn = some (.dT []) from upd_same)
      generalize upd (upd H2 kn (.dT [])) t3 (.tup [.ref gl, .ref kn, .int 0]) = H4 at s4 hgl4 hst4 hkn4 ⊢
      dsimp only
      refine rd_seq (rd_asgG (rd_tup (rd_cons ?_)))
      refine ⟨.ref st, rfl, by show 1 ≤ sizeLine; decide, fun wq nwq => ⟨by show 2 ≤ sizeLine; decide, fun t4 n4 => ?_⟩⟩
      have s5 := (same_upd (o := .lst [.ref st]) nwq).trans (same_upd (o := .tup [.int 0, .ref wq]) n4)
      have nHwq : H wq = none := s4.free nwq
      have hwq5 := same_upd (o := .tup [.int 0, .ref wq]) n4 _ _ (show (upd H4 wq (.lst [.ref st])) wq = some (.lst [.ref st]) from upd_same)
      have ht5 : (upd (upd H4 wq (.lst [.ref st])) t4 (.tup [.int 0, .ref wq])) t4 = some (.tup [.int 0, .ref wq]) := upd_same
      have s45 := s4.trans s5
      have hgl5 := hgl4.same s5
      have hst5 := s5 _ _ hst4
      have hkn5 := s5 _ _ hkn4
      generalize upd (upd H4 wq (.lst [.ref st])) t4 (.tup [.int 0, .ref wq]) = H5 at s45 hgl5 hst5 hkn5 hwq5 ht5 ⊢
      refine ⟨t4, _, rfl, .inl (.inl ht5), rfl, _, _, rfl, .ref kn, rfl, .ref st, rfl, kn, _, rfl, DPut.t (k := kk 228) hkn5 hst5 (by decide), _, _, rfl, rfl, ?_⟩
      have nkw : kn ≠ wq := ne_of hkn5 hwq5 (by intro z; cases z)
      have B0 : Bst (upd H5 kn (.dT (putK [] (kk 228) (.int 0)))) kn wq [(228, 0)] := by
        refine ⟨⟨by simp, fun w hw => by rw [List.mem_singleton.mp hw]; decide⟩, by rw [upd_same]; rfl, [st], by rw [upd_ne nkw.symm]; exact hwq5, .cons ?_ .nil⟩
        rw [upd_ne (ne_of hst5 hkn5 (by intro z; cases z))]
        exact hst5
      have s6 : Same H (upd H5 kn (.dT (putK [] (kk 228) (.int 0)))) := SameB.upd.fresh s45 nHkn
      have hgl6 : IL (upd H5 kn (.dT (putK [] (kk 228) (.int 0)))) gl (goalOf ps) := by
        unfold IL
        rw [upd_ne (ne_of hgl5 hkn5 (by intro z; cases z))]
        exact hgl5
      have ngw : gl ≠ wq := ne_of_none hgl4 nwq
      generalize upd H5 kn (.dT (putK [] (kk 228) (.int 0))) = H6 at s6 B0 hgl6 ⊢
      clear hwq5 ht5 s45 hgl5 hst5 hkn5 s5 hgl4 hst4 hkn4
      -- while
      let W : Nat → St → Hp → Prop := fun n σ Hc => ∃ (i : Nat) (Ws : List (Nat × Nat)) (y9 y10 y11 y12 y13 y14 : Option V), σ = [some (.ref a), some (.int 9), some (.ref r), some (.ref st), some (.ref tl), some (.ref gl), some (.ref kn), some (.int (i : Nat)), some (.ref wq), y9, y10, y11, y12, y13, y14] ∧
        Same H Hc ∧ Bst Hc kn wq Ws ∧ IL Hc gl (goalOf ps) ∧ bfsC n (goalOf ps) Ws i = some dd ∧ Ws.length ≤ 1 + 16 * i ∧ i + n ≤ 300
      dsimp only
      refine rd_seq ⟨W, ⟨300, 0, [(228, 0)], _, _, _, _, _, _, rfl, s6, B0, hgl6, hB, by simp, by omega⟩, ?_⟩
      rintro n σ Hc ⟨i, Ws, y9, y10, y11, y12, y13, y14, rfl, sm, B, hg, hb, hlen, hin⟩
      obtain ⟨m, rfl⟩ : ∃ m, n = m + 1 := by
        cases n with
        | zero => cases hb
        | succ m => exact ⟨m, rfl⟩
      unfold bfsC at hb
      cases hw : Ws[i]? with
      | none => rw [hw] at hb; cases hb
      | some wd =>
        obtain ⟨h, d⟩ := wd
        rw [hw] at hb
        dsimp only at hb
        have hlt := idx_lt hw
        obtain ⟨as, hq, hts⟩ := B.q
        obtain ⟨hr', ha', hhr⟩ := hts.get hw
        have mem : (h, d) ∈ Ws := List.mem_of_getElem? hw
        have h256 := B.k.lt _ mem
        have wl : SqL K Hc wq (as.map V.ref) := .inl (.inl hq)
        refine ⟨.int (i : Nat), rfl, .ref wq, rfl, wq, _, rfl, .inl wl, _, _, rfl, rfl, _, rfl, ?_⟩
        have hcmp : ((i : Nat) : Int) < (((as.map V.ref).length : Nat) : Int) := by
          rw [List.length_map, hts.len]
          omega
        rw [decide_eq_true hcmp]
        refine iteT ⟨fun σ' H' => ∃ m', m' < m + 1 ∧ W m' σ' H', fun σ' H' z => z, ?_⟩
        refine ⟨.ref wq, rfl, .int (i : Nat), rfl, wq, _, _, .ref hr', rfl, rfl, wl, atI_nat (by rw [List.getElem?_map, ha']; rfl), ?_⟩
        dsimp only
        have hIr : IL Hc r [0, 1, 2, 9] := hI.same sm
        refine rd_seq (D := _) ?_
        refine ⟨.ref r, rfl, r, _, rfl, .inl (.inl (.inl hIr)), ?_⟩
        refine ⟨_, rfl, by decide, by decide, fun D nD => ?_⟩
        refine lc_range (lo := 0) (n := 4) (CI Hc D (badL (goalOf ps) h)) (CI.start nD rfl) (fun j H' hj c => ?_) (fun H' c => ?_)
        · have ez : (0 : Int) + (j : Int) = (j : Int) := Int.zero_add _
          rw [ez]
          refine ⟨rfl, ?_⟩
          refine ⟨.ref r, rfl, .int (j : Int), rfl, r, _, _, _, rfl, rfl, c.sql (.inl (.inl hIr)), at4 rfl hj, .int 9, rfl, rfl, _, rfl, ?_⟩
          by_cases h9 : ([0, 1, 2, 9] : List Int).getD j 0 = 9
          · have eb : badAt (goalOf ps) h j = false := by unfold badAt; rw [decide_eq_true h9]; rfl
            rw [h9, decide_eq_true rfl]
            refine iteF (iteF ?_)
            exact c.skip (Same.refl _) (badL_f eb)
          · rw [decide_eq_false fun z => h9 (V.int.inj z)]
            refine iteT ?_
            refine ⟨.ref hr', rfl, .int (j : Int), rfl, hr', _, _, _, rfl, rfl, .inl (.inl (c.1 _ _ hhr)), at4 rfl hj, .ref gl, rfl, .int (j : Int), rfl, gl, _, _, _, rfl, rfl, c.sql (.inl (.inl hg)), at4 rfl hj, rfl, _, rfl, ?_⟩
            by_cases hq : (dec h).getD j 0 = (goalOf ps).getD j 0
            · have eb : badAt (goalOf ps) h j = false := by unfold badAt; rw [decide_eq_true hq]; simp
              rw [hq, decide_eq_true rfl]
              exact iteF (c.skip (Same.refl _) (badL_f eb))
            · have eb : badAt (goalOf ps) h j = true := by unfold badAt; rw [decide_eq_false hq, decide_eq_false h9]; rfl
              rw [decide_eq_false fun z => hq (V.int.inj z)]
              exact iteT ⟨.int (j : Int), rfl, c.push nD (Same.refl _) (Nat.lt_trans hj (by decide)) (badL_t eb)⟩
        · have s7 : Same Hc H' := c.1
          refine ⟨by decide, fun e1 ne1 => ?_⟩
          have s8 := s7.trans (same_upd (o := .lst []) ne1)
          refine ⟨ilD (badL (goalOf ps) h 4), .list [], IL.dp (c.2.1.same (same_upd ne1)), lst_dp upd_same, shaped_il _, shaped_nil, _, rfl, ?_⟩
          rw [eqv_il_nil, badL_ok]
          have B8 := B.same s8
          have hg8 := hg.same s8
          have hI8 := hIr.same s8
          have hh8 := s8 _ _ hhr
          have sm8 := sm.trans s8
          generalize upd H' e1 (.lst []) = H8 at B8 hg8 hI8 hh8 sm8 ⊢
          cases hok : okC (goalOf ps) h with
          | true =>
            rw [hok] at hb
            have ed : d = dd := by simpa using hb
            subst ed
            refine iteT (rd_ret ?_)
            have hg9 := DGet.t (k := kk h) B8.d hh8
            rw [val_some B8.k mem] at hg9
            exact ⟨.ref kn, rfl, .ref hr', rfl, kn, _, rfl, hg9, q _ sm8⟩
          | false =>
            rw [hok] at hb
            refine iteF (rd_next ?_)
            dsimp only
            refine rd_seq ?_
            refine ⟨.ref r, rfl, r, _, rfl, .inl (.inl (.inl hI8)), ?_⟩
            refine ⟨_, rfl, by decide, by decide, ?_⟩
            refine for_range (lo := 0) (n := 4) (fun i1 σ Hx => ∃ (y10 y11 y12 : Option V), σ = [some (.ref a), some (.int 9), some (.ref r), some (.ref st), some (.ref tl), some (.ref gl), some (.ref kn), some (.int (i : Nat)), some (.ref wq), some (.ref hr'), y10, y11, y12, y13, y14] ∧
              Same H Hx ∧ Bst Hx kn wq (growC h d (pairs4.take (4 * i1)) Ws) ∧ IL Hx gl (goalOf ps) ∧ IL Hx r [0, 1, 2, 9] ∧ Hx hr' = some (.tup ((dec h).map V.int)))
              ⟨_, _, _, rfl, sm8, B8, hg8, hI8, hh8⟩ ?_ ?_
            · rintro i1 σ Hx hi1 ⟨z10, z11, z12, rfl, smx, Bx, hgx, hIx, hhx⟩
              have ez : (0 : Int) + (i1 : Int) = (i1 : Int) := Int.zero_add _
              rw [ez]
              refine (show _ from ?_)
              refine ⟨.ref r, rfl, r, _, rfl, .inl (.inl (.inl hIx)), ?_⟩
              refine ⟨_, rfl, by decide, by decide, ?_⟩
              refine for_range (lo := 0) (n := 4) (fun j1 σ Hx => ∃ (y11 y12 : Option V), σ = [some (.ref a), some (.int 9), some (.ref r), some (.ref st), some (.ref tl), some (.ref gl), some (.ref kn), some (.int (i : Nat)), some (.ref wq), some (.ref hr'), some (.int (i1 : Nat)), y11, y12, y13, y14] ∧
                Same H Hx ∧ Bst Hx kn wq (growC h d (pairs4.take (4 * i1 + j1)) Ws) ∧ IL Hx gl (goalOf ps) ∧ IL Hx r [0, 1, 2, 9] ∧ Hx hr' = some (.tup ((dec h).map V.int)))
                ⟨_, _, rfl, smx, Bx, hgx, hIx, hhx⟩ ?_ ?_
              · rintro j1 σ Hy hj1 ⟨z11, z12, rfl, smy, By, hgy, hIy, hhy⟩
                have ez : (0 : Int) + (j1 : Int) = (j1 : Int) := Int.zero_add _
                rw [ez]
                obtain ⟨eput, pput⟩ := dec_put h256 hi1 hj1
                have egrow := grow_take (h := h) (d := d) (W := Ws) (pairs4_at hi1 hj1)
                have hlenG : (growC h d (pairs4.take (4 * i1 + j1)) Ws).length ≤ 1 + 16 * i + 16 := by
                  have h1 := grow_add h d (pairs4.take (4 * i1 + j1)) Ws
                  have h2 : (pairs4.take (4 * i1 + j1)).length ≤ 16 := List.length_take_le' ..
                  omega
                have memG : (h, d) ∈ growC h d (pairs4.take (4 * i1 + j1)) Ws := (grow_pre h d _ Ws).subset mem
                generalize growC h d (pairs4.take (4 * i1 + j1)) Ws = G at By hlenG memG egrow
                refine rd_seq (rd_asg (rd_op (rd_op ?_)))
                refine ⟨.ref hr', rfl, .int (i1 : Int), rfl, _, rfl, rd_sl hhy ?_ fun m1 Ha sa ha => ?_⟩
                · rw [HT.sIx_none, HT.sIx_nat, List.length_map, dec_len]
                  omega
                · have hhya := sa _ _ hhy
                  rw [cut_lo _ _ (by rw [dec_len]; exact hi1)] at ha
                  refine rd_tup (rd_cons ⟨.ref hr', rfl, .int (j1 : Int), rfl, hr', _, _, _, rfl, rfl, .inl (.inl hhya), at4 rfl hj1, by show 1 ≤ sizeLine; decide, fun m2 nm2 => ?_⟩)
                  refine rd_cat (same_upd nm2 _ _ ha) upd_same ?_ fun m3 Hb sb hb3 => ?_
                  · rw [List.length_map]
                    exact Nat.le_trans (Nat.add_le_add (List.length_take_le' ..) (Nat.le_refl _)) (show 4 + 1 ≤ sizeLine by decide)
                  · have s3 := (sa.trans (same_upd nm2)).trans sb
                    refine ⟨.ref hr', rfl, .int (i1 : Int), rfl, _, _, rfl, rfl, _, rfl, ?_⟩
                    dsimp only [tNoPart]
                    refine (show rSlA K (.ref hr') (some ((i1 : Int) + 1)) none Hb _ from rd_sl (s3 _ _ hhy) ?_ fun m4 Hc4 sc hc4 => ?_)
                    · rw [HT.sIx_none, show ((i1 : Int) + 1) = ((i1 + 1 : Nat) : Int) from rfl, HT.sIx_nat, List.length_map, dec_len]
                      omega
                    · rw [cut_hi _ _ (by rw [dec_len]; exact hi1)] at hc4
                      refine rd_cat (sc _ _ hb3) hc4 ?_ fun m Hd sd hd => ?_
                      · rw [List.length_append, List.length_map, List.length_map]
                        exact Nat.le_trans (Nat.add_le_add (Nat.add_le_add (List.length_take_le' ..) (Nat.le_refl _)) (by rw [List.length_drop]; exact Nat.sub_le ..)) (show 4 + 1 + 4 ≤ sizeLine by decide)
                      · have s4 := (s3.trans sc).trans sd
                        have hm : Hd m = some (.tup ((kk (putC h i1 j1)).map kV)) := by
                          rw [hd, kk_vals, eput, List.map_append, List.map_append, List.append_assoc]
                          rfl
                        have Bd := By.same s4
                        have hgd := hgy.same s4
                        have hId := hIy.same s4
                        have hhd := s4 _ _ hhy
                        have smd := smy.trans s4
                        clear hd hc4 hb3 ha
                        have hgm := DGet.t Bd.d hm
                        refine ⟨.ref m, rfl, .ref kn, rfl, kn, _, rfl, hgm, _, rfl, ?_⟩
                        by_cases hmem : memC (putC h i1 j1) G = true
                        · obtain ⟨v, hv⟩ := val_is Bd.k hmem
                          rw [hv]
                          refine iteF ⟨_, _, rfl, smd, ?_, hgd, hId, hhd⟩
                          have eg : growC h d (pairs4.take (4 * i1 + (j1 + 1))) Ws = G := by
                            show growC h d (pairs4.take (4 * i1 + j1 + 1)) Ws = G
                            rw [egrow]
                            unfold addC
                            rw [if_pos hmem]
                          rw [eg]
                          exact Bd
                        · rw [val_none pput Bd.k.lt hmem]
                          have hgh := DGet.t (k := kk h) Bd.d hhd
                          rw [val_some Bd.k memG] at hgh
                          refine iteT (rd_seq ⟨.ref kn, rfl, .ref hr', rfl, kn, _, rfl, hgh, _, _, rfl, rfl, .ref kn, rfl, .ref m, rfl, kn, _, rfl, DPut.t Bd.d hm ?_, ?_⟩)
                          · unfold kvsT
                            rw [List.length_map]
                            exact Nat.lt_of_le_of_lt (show G.length ≤ 5000 by omega) (by decide)
                          · dsimp only
                            obtain ⟨as2, hq2, hw2⟩ := Bd.q
                            have hD := Bd.d
                            rw [show ((d : Int) + 1) = ((d + 1 : Nat) : Int) from rfl, put_new pput Bd.k.lt hmem]
                            have hq3 : (upd Hd kn (.dT (kvsT (G ++ [(putC h i1 j1, d + 1)])))) wq = some (.lst (as2.map V.ref)) := by rw [upd_ne nkw.symm]; exact hq2
                            have hm3 : (upd Hd kn (.dT (kvsT (G ++ [(putC h i1 j1, d + 1)])))) m = some (.tup ((kk (putC h i1 j1)).map kV)) := by rw [upd_ne (ne_of hm hD (by intro z; cases z))]; exact hm
                            have hw3 := (hw2.upd (o := .dT (kvsT (G ++ [(putC h i1 j1, d + 1)]))) hD (by intro xs z; cases z)).app (w := (putC h i1 j1, d + 1)) hm3
                            refine ⟨.ref wq, rfl, .inl ⟨rfl, _, .inl (.inl hq3)⟩, .ref m, rfl, wq, _, _, rfl, rfl, hq3, ?_, ?_⟩
                            · rw [List.length_map, hw2.len]
                              exact Nat.lt_of_le_of_lt (show G.length ≤ 5000 by omega) (by decide)
                            · have eg : growC h d (pairs4.take (4 * i1 + (j1 + 1))) Ws = G ++ [(putC h i1 j1, d + 1)] := by
                                show growC h d (pairs4.take (4 * i1 + j1 + 1)) Ws = G ++ [(putC h i1 j1, d + 1)]
                                rw [egrow]
                                unfold addC
                                rw [if_neg hmem]
                              have s9 : Same H (upd (upd Hd kn (.dT (kvsT (G ++ [(putC h i1 j1, d + 1)])))) wq (.lst (as2.map V.ref ++ [V.ref m]))) := SameB.upd.fresh (SameB.upd.fresh smd nHkn) nHwq
                              refine ⟨_, _, rfl, s9, ?_, ?_, s9 _ _ hI, ?_⟩
                              · rw [eg]
                                refine ⟨Bd.k.push pput hmem, by rw [upd_ne nkw, upd_same], as2 ++ [m], by rw [upd_same, List.map_append]; rfl, ?_⟩
                                exact hw3.upd hq3 (by intro xs z; cases z)
                              · unfold IL
                                rw [upd_ne ngw, upd_ne (ne_of hgd hD (by intro z; cases z))]
                                exact hgd
                              · rw [upd_ne (ne_of hhd hq2 (by intro z; cases z)), upd_ne (ne_of hhd hD (by intro z; cases z))]
                                exact hhd
              · rintro σ Hy ⟨z11, z12, rfl, smy, By, hgy, hIy, hhy⟩
                exact ⟨_, _, _, rfl, smy, By, hgy, hIy, hhy⟩
            · rintro σ Hx ⟨z10, z11, z12, rfl, smx, Bx, hgx, hIx, hhx⟩
              dsimp only
              refine rd_asg ?_
              refine ⟨.int (i : Nat), rfl, _, _, rfl, rfl, ?_⟩
              have hl := grow_add h d pairs4 Ws
              have hp : pairs4.length = 16 := rfl
              refine ⟨m, Nat.lt_succ_self m, i + 1, expandC Ws h d, _, _, _, _, _, _, rfl, smx, Bx, hgx, by simpa using hb, ?_, by omega⟩
              unfold expandC
              omega
end Ck

namespace Ck
set_option linter.all false
set_option maxRecDepth 100000
set_option maxHeartbeats 4000000
open PySem PySem.Spec PyProof.Rows L2 Mv
/-! ### a promise that is kept where no repr is under way around the call -/
def Still (Ar : Around) : Prop := Ar.guards = some []
structure FnSt (P : Program) (w : World) (K : PySem.W.Frag) (mg : Str → Option Value) (base : Heap) (k : Nat) (f : Addr) (fd : FuncData) (prs : List Str) (sp : Sp) : Prop where
  many : ∀ ws H Q E, sp ws H Q E → ws.length = prs.length
  goes : ∀ (Ar : Around) (out : List Env) (sh : Shared) (H : Hp) (gs : Args) (us : List Value) (ws : List V) (Q : VK) (E : XK), Still Ar → Room k Ar → Env0 P w K mg base Ar out sh H →
    BindsTo sh fd gs (prs.zip us) → Vals ws us → sp ws H Q E → codeAny (model P w) Ar (.call (.ref f) gs) (CR CX0 out P w H sh Q E) sh
section
variable {P : Program} {w : World} {K : PySem.W.Frag} {mg : Str → Option Value} {base : Heap}
/-- the ends of a body become the call's ends -/
theorem ends_call {N : List Str} {qual : Str} {scope : Scope} {f : Addr} {cdv : Value} {Ar : Around} {out : List Env} {sh s' : Shared} {H : Hp} {Q : VK} {E : XK} {fl : Flow}
    (h : SP (cxOf CX0 P w K mg base N qual scope f cdv Ar out sh H E) [] { nx := fun _ H' => Q .non H', rt := Q } fl s') : ∃ u, CE out P w H sh Q u s' ∧ (fl = .ret u ∨ (fl = .next ∧ u = .none)) := by
  cases fl with
  | ret u =>
    obtain ⟨v, σ', H', J, rv, q⟩ := h
    exact ⟨u, ⟨v, H', J.os, J.bare, J.base, J.hok, rv, q⟩, .inl rfl⟩
  | next =>
    obtain ⟨σ', H', J, q⟩ := h
    exact ⟨.none, ⟨V.non, H', J.os, J.bare, J.base, J.hok, rfl, q⟩, .inr ⟨rfl, rfl⟩⟩
  | brk => exact (show False from let ⟨_, _, _, q⟩ := h; q).elim
  | cont => exact (show False from let ⟨_, _, _, q⟩ := h; q).elim
theorem still_fn {x qual : Str} {st : Stmt} {f : Addr} {fd : FuncData} {N prs : List Str} {k : Nat} {sp : Sp} (F : Fun K x qual st f fd) (S : FnScope N prs (defScope st)) (many : ∀ ws H Q E, sp ws H Q E → ws.length = prs.length)
    (walk : ∀ (cdv : Value) (Ar : Around) (out : List Env) (sh : Shared) (H : Hp) (ws : List V) (Q : VK) (E : XK), Still Ar → Room k (Ar.deeper (envOfC qual (defScope st) sh.heap.objs.size f cdv)) → sp ws H Q E →
      ∃ t, PSs (cxOf CX0 P w K mg base N qual (defScope st) f cdv Ar out sh H E).nox (defBody st) t ∧ t { nx := fun _ H' => Q .non H', rt := Q } (start N ws) H) : FnSt P w K mg base (k + 1) f fd prs sp := by
  obtain ⟨oc, od, kV, doc, pm, an, cdv, ct, osl, rfl, look, code⟩ := F.ex
  refine ⟨many, fun Ar out sh H gs us ws Q E hs hr e0 hb r hsp => ?_⟩
  have hold : ∀ b o, base.get? b = some o → sh.heap.get? b = some o := fun b o e => (e0.bs b o e).1
  have KX : K.In sh.heap := e0.mod.kin.keeps hold
  have slots : ∀ y ∈ prs.zip us, (defScope st).names.lookup y.1 = some .local ∨ ((defScope st).names.lookup y.1 = some .cell ∧ ((cellsFrom (sh.heap.objs.size + 1) (defScope st).names []).lookup y.1).isSome = true) := by
    rintro ⟨n, v⟩ hy
    exact (S.par n (List.of_mem_zip hy).1).imp id fun q => ⟨q, PySem.W.cellsFrom_some _ _ _ (.inl q)⟩
  refine codeAny_call_function hr.depth (KX _ _ look) rfl S.co S.gen rfl (PySem.W.codeRec_of KX code) (hb _ _ _ _ ?_)
  refine wpAny_newFunctionEnv_cells S.kind slots fun env he sh1 inn => ?_
  subst he
  refine ⟨(e0.mod.nolimit.keeps hold).keeps inn.toInCall.keep, codeAny_func ?_⟩
  obtain ⟨t, ht, go⟩ := walk cdv Ar out sh H ws Q E hs (hr.deeper _) hsp
  refine wpAny_mono (ht.nox.run [] sh1 (start N ws) H _ (inv_start S hr.hd e0 (many _ _ _ _ hsp) r inn) go) (fun fl s' h => ?_) fun e s' h => h
  obtain ⟨u, c, e | ⟨e, eu⟩⟩ := ends_call h
  · subst e
    exact c
  · subst e; subst eu
    exact c
end
section
variable {X : Cx} {k : Nat} {f : Addr} {fd : FuncData} {prs : List Str} {sp : Sp} {E : XK} {x : Str} {p pos : Pos} {e : Expr} {es : List Expr} {t : TA}
theorem still_run {pins : List (Addr × Obj)} {σ : L2.St} {H : Hp} {sh : Shared} {Q : VK} {us : List Value} {ws : List V} (G : FnSt X.prog X.w X.K X.mg X.base k f fd prs sp) (hs : Still X.A) (hr : Room k X.A) (hb : Binds X.K fd prs []) (hx : Passes CX0 X E)
    (I : Inv X pins σ H sh) (r : Vals ws us) (h : sp ws H Q E) : wpAny (model X.prog X.w) X.A (call (.ref f) us) (EP X pins σ Q) X.xe sh := by
  have hl : (us ++ []).length = prs.length := by
    rw [List.append_nil, ← r.length]
    exact G.many _ _ _ _ h
  have b := hb sh us I.kIn hl
  rw [List.append_nil] at b
  refine wpAny_call (codeAny_mono (G.goes X.A X.stack sh H ⟨us, []⟩ us ws Q E hs hr I.env0 b r h) fun out s' hq => ?_)
  match out, hq with
  | .error v, hq => exact hx pins σ H sh v s' I hq
  | .ok (.ret u), hq => exact I.after hq
theorem pe_callSt (G : FnSt X.prog X.w X.K X.mg X.base k f fd prs sp) (hs : Still X.A) (hr : Room k X.A) (hg : Gl X x) (hm : X.mg x = some (.ref f)) (hk : PySem.W.keepIn X.K (.ref f) = true) (hb : Binds X.K fd prs []) (hx : Passes CX0 X E)
    (ha : PA X (e :: es) t) (hdb : (x == ("__debug__" : Str)) = false := by decide) (he : starEach (e :: es) X.env = (false, eval e X.env) :: starEach es X.env := by rfl) (hpl : (backTo pos (starEach es X.env)).any (·.1) = false := by rfl) :
    PE X (.Call (.Name x p) (e :: es) [] pos) (tCall sp [] E t) := by
  refine ⟨fun pins sh σ H Q I h => wpAny_Call_Name_kw (ld_glob I hg hm ?_ hdb)⟩
  refine PySem.W.callWith_K (h₀ := X.base) I.ok.mod.kin hk (thn (ha.run pos pins sh σ H _ I h) fun us s1 ⟨ws, H1, I1, r, q⟩ => ⟨I1.kIn, ?_⟩) he hpl
  replace q : sp (ws ++ []) H1 Q E := q
  rw [List.append_nil] at q
  exact still_run G hs hr hb hx I1 r q
end
/-! ### the law's own call -/
theorem still_law {P : Program} {w : World} {K : PySem.W.Frag} {mg mb : Str → Option Value} {k : Nat} {fa a : Addr} {fd : FuncData} {x : Str} {sp : Sp} {sh : Shared} {us : List Value} {ns : List Int}
    (KX : K.In sh.heap) (hm : sh.heap.Ns mainGlobals mg) (hb : sh.heap.Ns builtinsNs mb) (hbb : ∀ x : Str, x ≠ "__name__" → mb x = bootBuiltins x) (hno : sh.heap.NoLimit) (hgen : sh.gens = #[])
    (ha : sh.heap.get? a = some { cls := .type "list", data := .seq us.toArray }) (hi : IntsAre us ns) (hz : ns.length ≤ sizeLine) (hr : Room k callerA)
    (G : ∀ base : Heap, FnSt P w K mg base k fa fd [x] sp) (bind : ∀ (s : Shared) (u : Value), BindsTo s fd ⟨[u], []⟩ [(x, u)])
    (hsp : ∀ H : Hp, SqL K H a (ns.map V.int) → sp [.ref a] H (fun v _ => v = .bl true) fun _ _ _ => False) :
    codeAny (model P w) callerA (.call (.ref fa) ⟨[.ref a], []⟩) (fun r s' => r = .ok (.ret (.bool true)) ∧ OldK sh.heap s'.heap ∧ s'.os = sh.os ∧ AllBare s'.gens) sh := by
  have main : ∀ H : Hp, (∀ b, H b = none ∨ ∃ o xs, H b = some (.frz o (.lst xs))) → SqL K H a (ns.map V.int) → HOk P w H sh.heap → (∀ b, H b ≠ none → b = a) → (H a ≠ none → K.lookup a = none) →
      codeAny (model P w) callerA (.call (.ref fa) ⟨[.ref a], []⟩) (fun r s' => r = .ok (.ret (.bool true)) ∧ OldK sh.heap s'.heap ∧ s'.os = sh.os ∧ AllBare s'.gens) sh := by
    intro H hO hS ok hA hK
    have seen : ∀ {b : Addr} {o : Obj}, sh.heap.get? b = some o → (H b ≠ none → False) → (hidT sh.heap H).get? b = some o := fun {b o} e n => hidT_get e (by
      cases q : H b with
      | none => rfl
      | some u => exact (n (by rw [q]; simp)).elim)
    have space : ∀ {b : Addr} {m : Str → Option Value}, sh.heap.Ns b m → (hidT sh.heap H).Ns b m := fun {b m} ⟨o, es, ep, e, d, r⟩ => ⟨o, es, ep, seen e (fun z => by
      have e' := hA b z
      rw [e', ha] at e
      cases e
      exact Data.noConfusion d), d, r⟩
    have kin : K.In (hidT sh.heap H) := fun b o e => seen (KX b o e) (fun z => by
      have e' := hA b z
      subst e'
      rw [hK z] at e
      cases e)
    have E0 : Env0 P w K mg (hidT sh.heap H) callerA [] sh H := by
      refine ⟨rfl, ⟨kin, space hm, ⟨mb, space hb, hbb⟩, ?_⟩, fun b o e => of_hidT e, Nat.le_of_eq (hidT_size _ _), trivial, fun b z => ?_, ok, .of_eq hgen⟩
      · obtain ⟨mc, h1, h2⟩ := hno
        exact ⟨mc, space h1, h2⟩
      · cases (show b ∈ ([] : List Addr) from z)
    refine codeAny_mono ((G (hidT sh.heap H)).goes callerA [] sh H ⟨[.ref a], []⟩ [.ref a] [.ref a] _ _ rfl hr E0 (bind sh (.ref a)) (.cons rfl .nil) (hsp H hS)) fun r s' h => ?_
    match r, h with
    | .ok (.ret u), h =>
      obtain ⟨v, H', os, bare, un, ok', rv, q⟩ := h
      have qv : v = V.bl true := q
      rw [qv] at rv
      have eu : u = Value.bool true := rv
      refine ⟨by rw [eu], OldK.of_keep fun b o e => ?_, os, bare⟩
      rcases hO b with z | ⟨ob, xs, z⟩
      · exact un.keep b o e z (fun y => by cases (show b ∈ ([] : List Addr) from y)) (by simp)
      · have e1 := (ok b _ z).1
        rw [e] at e1
        rw [Option.some.inj e1]
        exact (ok' b _ (un.frzs b ob _ z)).1
    | .error _, h => exact (show False from h).elim
  have rv := vals_ints hi
  have lenU := hi.length
  by_cases hk : K.lookup a = none
  · have at_a : (fun b => if b = a then some (HO.frz { cls := .type "list", data := .seq us.toArray } (.lst (ns.map V.int))) else none : Hp) a = some (HO.frz { cls := .type "list", data := .seq us.toArray } (.lst (ns.map V.int))) := if_pos rfl
    have off : ∀ b, b ≠ a → (fun b => if b = a then some (HO.frz { cls := .type "list", data := .seq us.toArray } (.lst (ns.map V.int))) else none : Hp) b = none := fun b n => if_neg n
    generalize (fun b => if b = a then some (HO.frz { cls := .type "list", data := .seq us.toArray } (.lst (ns.map V.int))) else none : Hp) = H at at_a off
    have only : ∀ b, H b ≠ none → b = a := fun b n => Classical.byContradiction fun q => n (off b q)
    refine main H (fun b => ?_) (.inl (.inr ⟨_, at_a⟩)) (fun b u z => ?_) only fun _ => hk
    · by_cases q : b = a
      · exact .inr ⟨_, _, by rw [q]; exact at_a⟩
      · exact .inl (off b q)
    · have q := only b (by rw [z]; simp)
      subst q
      rw [at_a] at z
      cases z
      exact ⟨ha, by rw [List.length_map]; exact hz, us, _, rv, ha⟩
  · obtain ⟨o, ho⟩ := Option.ne_none_iff_exists'.mp hk
    have e := KX a o ho
    rw [ha] at e
    cases e
    exact main (fun _ => none) (fun _ => .inl rfl) (.inr ⟨_, us.toArray, _, ho, rfl, rfl, rfl, by rw [List.size_toArray, lenU]; exact hz, by simpa using rv⟩) (fun b u z => nomatch (show (none : Option HO) = some u from z)) (fun b z => (z rfl).elim) fun z => (z rfl).elim
theorem still_walk {l : PySem.W.OpenLaw} {n k : Nat} {q : Program} {loose : List Str} {XP : (Str → Option Value) → Heap → Prop} {YP : World → Heap → Prop} {d : DefRec} {K : Params → PySem.W.Frag} {sp : PySem.W.Frag → Sp} {x : Str}
    (hn : l.most = some n) (hz : n ≤ sizeLine) (hdf : d.params.defaults = []) (hr : Room k callerA) (hY : ∀ (w : World) (h : Heap), YP w h → (K w.params).In h)
    (G : ∀ (w : World) (mg : Str → Option Value) (fa : Addr) (h : Heap), (K w.params).In h → h.Ns mainGlobals mg → mg d.name = some (.ref fa) →
      ∃ fd : FuncData, (∀ (s : Shared) (u : Value), BindsTo s fd ⟨[u], []⟩ [(x, u)]) ∧ ∀ base : Heap, FnSt l.prog w (K w.params) mg base k fa fd [x] (sp (K w.params)))
    (hsp : ∀ (K : PySem.W.Frag) (H : Hp) (a : Addr) (ns : List Int), ns.length ≤ n → SqL K H a (ns.map V.int) → sp K [.ref a] H (fun v _ => v = .bl true) fun _ _ _ => False) :
    PySem.W.WalkO q loose XP YP l.row.toRowW d [] (fun f vs => PySem.call f vs) := by
  refine Att.attach_call hn hdf fun w s₀ sh mg mb fa o pm cd doc a us ns Gr Y ho hd hcd hmg hobj hints hlen hg => ?_
  obtain ⟨fd, hb, hG⟩ := G w mg fa _ (hY w _ Y) Gr.T.g hmg
  exact still_law (hY w _ Y) Gr.T.g Gr.T.b Gr.T.builtins Gr.T.nolimit hg hobj hints (Nat.le_trans hlen hz) hr hG hb fun H hS => hsp _ H a ns hlen hS
/-! ### repr of data -/
theorem repr_data {X : Cx} (hs : Still X.A) (hu : X.A.units + 70 < cLine) : CallR X (.builtin "repr") (fun xs H Q => ∃ a d, xs = [V.ref a] ∧ Dp X.K H (.ref a) d ∧ d.showable = true ∧ d.hasDict = false ∧ d.depth ≤ 60 ∧ d.shown.length ≤ sizeLine ∧ Q (.str d.shown) H) := by
  intro pins s σ H xs us Q I r h
  obtain ⟨a, d, rfl, hd, h1, h2, h3, h4, q⟩ := h
  obtain ⟨u, rfl, ru⟩ := vals1 r
  have eu : u = Value.ref a := ru
  subst eu
  obtain ⟨as, hr⟩ := Dp.reads I d _ _ hd rfl
  exact repr_of_reads' hr h1 (fun z => by rw [h2] at z; cases z) hs (by omega) (fun b o e => e) (fun h' u tk hk => ⟨.str d.shown, H, I.kept hk, ⟨_, rfl⟩, q⟩) h4
end Ck

namespace Ck
set_option linter.all false
set_option maxRecDepth 100000
set_option maxHeartbeats 4000000
open PySem PySem.Spec PyProof.Rows L2 Mv
section
variable {P : Program} {w : World} {A : Around} {E : Value → Shared → Prop} {s : Shared}
/-! ### set(xs) of a list of ints, with what an iteration asks of it -/
theorem set_of_list {l : Addr} {items : Array Value} (ns : List Int) {Q : Value → Shared → Prop} (calm : A.handled = none) (isL : s.heap.IsList l items) (isInts : IntsAre items.toList ns) (room : ns.length + 1 < scanBound)
    (h : ∀ (h' : Heap) (tk c : Nat), SetR w h' s.heap.objs.size (fun j => decide (j ∈ ns)) c → c ≤ ns.length → (∀ b o, s.heap.get? b = some o → h'.get? b = some o) → Q (.ref s.heap.objs.size) { s with heap := h', toks := tk }) :
    wpAny (model P w) A (call (.type "set") [.ref l]) Q E s := by
  have sizes : items.size = ns.length := by
    have q := IntsAre.length isInts
    rw [Array.length_toList] at q
    exact q
  obtain ⟨c, tl, mroS⟩ := F.called_set.mro
  have madeS := F.called_set.made
  have subS := F.called_set.sub
  refine wpAny_call (codeAny_of_tree ?_)
  show wpAny _ _ (callAny (.type "set") _) _ _ _
  refine wpAny_pure ⟨Code.quiet_builtin _ (by decide +kernel), codeAny_builtin F.entry_type_call ?_⟩
  rw [Around.under_plain (weight_type_call_type "set" [.ref l] []) rfl]
  have nt := F.called_set.notType
  have cc := F.called_set.canCreate
  have tcS := F.typeCall_set_1 (.ref l)
  repeat (any_goals (first | assumption | wp_step))

  refine codeAny_mono (code_set_led1 (.ref l) (E := E) (Q₁ := fun obj s1 => obj = .ref s.heap.objs.size ∧ s1 = { s with heap := s.heap.push { cls := .type "set", dict := none, data := .set #[] 0 (.fresh 0 0 (!w.params.followText "set-order")) } }) ⟨rfl, rfl⟩) fun r s1 endR => ?_
  cases r with
  | error e => exact endR
  | ok fl =>
    cases fl with
    | ret obj =>
      obtain ⟨rfl, rfl⟩ := endR
      have atS : (s.heap.push { cls := .type "set", dict := none, data := .set #[] 0 (.fresh 0 0 (!w.params.followText "set-order")) }).get? s.heap.objs.size = some { cls := .type "set", dict := none, data := .set #[] 0 (.fresh 0 0 (!w.params.followText "set-order")) } := Heap.get?_push_size _ rfl
      have tyS : Shared.TypeIs { s with heap := s.heap.push { cls := .type "set", dict := none, data := .set #[] 0 (.fresh 0 0 (!w.params.followText "set-order")) } } (.ref s.heap.objs.size) "set" := ⟨_, atS, rfl⟩
      have liS := F.called_set.init.lookup
      have biS := F.called_set.init.bind (.ref s.heap.objs.size)
      repeat (any_goals (first | assumption | wp_step))

      refine codeAny_mono (codeAny_call_builtin (R := wants (fun r sI => r = .none ∧ ∃ h' tk c, sI = { s with heap := h', toks := tk } ∧ SetR w h' s.heap.objs.size (fun j => decide (j ∈ ns)) c ∧ c ≤ ns.length ∧
          (∀ b o, s.heap.get? b = some o → h'.get? b = some o)) E) F.called_set.init.plain F.entry_set_init (check_set_init_1 tyS ?_)) fun rI sI endI => ?_
      · obtain ⟨oL, obL, clL, nL, dtL⟩ := isL
        obtain ⟨clsL, dctL, datL, sltL⟩ := oL
        simp only at clL dtL
        subst clL; subst dtL
        have obL' : (s.heap.push { cls := .type "set", dict := none, data := .set #[] 0 (.fresh 0 0 (!w.params.followText "set-order")) }).get? l = some { cls := .type "list", dict := dctL, data := .seq items nL, slots := sltL } := Heap.get?_push_of_some _ obL
        have sbS := F.sub_list_set
        have sbF := F.sub_list_frozenset
        have nD : (Value.type "list" == Value.type "dict") = false := by decide
        have isL1 : (s.heap.push { cls := .type "set", dict := none, data := .set #[] 0 (.fresh 0 0 (!w.params.followText "set-order")) }).IsList l items := ⟨_, obL', rfl, nL, rfl⟩
        unfold Builtin.«set.__init__» noKeywords Builtin.Frozenset.updateFrom
        generalize eitr : pyIter = itr
        wp_walk
        subst eitr

        refine wpAny_pyIter_list isL1 ?_
        refine wpAny_bind (wpAny_runValue ?_)
        have ltL : l < s.heap.objs.size := Heap.lt_size obL
        have calm3 : A.in1.in1.in1.handled = none := by simp [calm]
        have szS : (s.heap.push { cls := .type "set", dict := none, data := .set #[] 0 (.fresh 0 0 (!w.params.followText "set-order")) }).objs.size = s.heap.objs.size + 1 := Heap.size_push ..
        have neI : l ≠ (s.heap.push { cls := .type "set", dict := none, data := .set #[] 0 (.fresh 0 0 (!w.params.followText "set-order")) }).objs.size := by
          rw [Heap.size_push]; exact Nat.ne_of_lt (Nat.lt_succ_of_lt ltL)
        have offS : s.heap.objs.size ∉ [(s.heap.push { cls := .type "set", dict := none, data := .set #[] 0 (.fresh 0 0 (!w.params.followText "set-order")) }).objs.size, l] := by
          rw [Heap.size_push]; simp only [List.mem_cons, List.mem_singleton, List.not_mem_nil, or_false, not_or]
          exact ⟨Nat.ne_of_lt (Nat.lt_succ_self _), Nat.ne_of_gt ltL⟩
        have vals : ∀ (i : Nat) (v : Value), items[i]? = some v → ∃ k t, ns[i]? = some k ∧ v = .int k t := fun i v hv => by
          have hi : i < ns.length := by rw [← sizes]; exact (Array.getElem?_eq_some_iff.mp hv).1
          obtain ⟨t, e⟩ := PyProof.Rows.IntsAre.int_at isInts i v (by rw [Array.getElem?_toList]; exact hv)
          refine ⟨ns[i], t, List.getElem?_eq_getElem hi, ?_⟩
          rw [e, List.getD_eq_getElem?_getD, List.getElem?_eq_getElem hi] <;> rfl
        refine set_update_ints ((Walks.list calm3 _ l neI items).toS) s.heap.objs.size
          offS ns sizes room vals (items.size - 0) 0 _ (by omega) (Nat.zero_le _)
          ⟨⟨_, Heap.get?_push_size _ rfl, rfl, rfl⟩, (isL1.push _)⟩ ?hS0 ?hR
        case hS0 =>
          have getS : ((s.heap.push { cls := .type "set", dict := none, data := .set #[] 0 (.fresh 0 0 (!w.params.followText "set-order")) }).push { cls := .type "list_iterator", data := .fields #[.ref l, .int 0 0] }).get? s.heap.objs.size
              = some { cls := .type "set", dict := none, data := .set #[] 0 (.fresh 0 0 (!w.params.followText "set-order")) } := Heap.get?_push_of_some _ atS
          exact ⟨0, Nat.le_refl 0, setR_new_at getS⟩
        case hR =>
          intro s' c' hm cI rS
          obtain ⟨h', g2, d', tk', os'⟩ := s'
          have eg : g2 = s.gens := hm.gens
          have ed : d' = s.drawn := hm.drawn
          have eo : os' = s.os := hm.os
          subst eg; subst ed; subst eo
          show wpAny _ _ _ _ _ _
          refine wpAny_pure ?_
          show wpAny _ _ (ret Value.none) _ _ _
          rw [sizes] at cI
          refine wpAny_pure ⟨rfl, h', tk', c', rfl, rS, cI, fun b o e => ?_⟩
          have b0 : b < s.heap.objs.size := Heap.lt_size e
          have b1 : b ≠ s.heap.objs.size := Nat.ne_of_lt b0
          have b2 : b ≠ (s.heap.push { cls := .type "set", dict := none, data := .set #[] 0 (.fresh 0 0 (!w.params.followText "set-order")) }).objs.size := by
            rw [Heap.size_push]; exact Nat.ne_of_lt (Nat.lt_succ_of_lt b0)
          exact hm.heap b o (by simp only [List.mem_cons, List.mem_singleton, List.not_mem_nil, or_false, not_or]; exact ⟨b1, b2⟩) (Heap.get?_push_of_some _ (Heap.get?_push_of_some _ e))

      · cases rI with
        | error e => exact endI
        | ok flI =>
          cases flI with
          | ret r =>
            obtain ⟨rfl, h', tk, c', rfl, rS, cI, keptI⟩ := endI
            repeat (any_goals (first | assumption | wp_step))
            exact h _ _ _ rS cI keptI
          | _ => exact endI.elim
    | _ => exact endR.elim

end
end Ck

namespace Ck
set_option linter.all false
set_option maxRecDepth 100000
set_option maxHeartbeats 4000000
open PySem PySem.Spec PyProof.Rows L2 Mv
/-! ### sum of lists of ints, from a list on -/
theorem li_str : isSubtype (.type "list") (.type "str") = pure false := by rw [isSubtype_type] <;> kernel_rfl
theorem li_bytes : isSubtype (.type "list") (.type "bytes") = pure false := by rw [isSubtype_type] <;> kernel_rfl
theorem li_bytearray : isSubtype (.type "list") (.type "bytearray") = pure false := by rw [isSubtype_type] <;> kernel_rfl
theorem args_sumFrom (a b : Value) : argsOk "sum" ⟨[a, b], []⟩ := by unfold argsOk <;> kernel_rfl
section
variable {P : Program} {w : World} {A : Around}
theorem lists_loop {R : Result → Shared → Prop} {I : Addr} {fp wr : List Addr} {n : Nat} {Pv : Nat → Value → Prop} {Sv : Nat → Heap → Prop} (W : Walks P w A.in1 I fp wr n Pv Sv) (h0 : Heap) (acc : Nat → List Value) (S : Addr)
    (part : ∀ i v, i < n → Pv i v → ∃ b zs m, v = .ref b ∧ IsL h0 b zs m ∧ (acc (i + 1)).toArray = (acc i).toArray ++ zs ∧ (acc i).toArray.size + zs.size ≤ sizeLine) (out : S ∉ fp) (outW : ∀ b ∈ wr, h0.objs.size ≤ b) (outS : h0.objs.size ≤ S) (below : ∀ b ∈ wr, b < S) :
    ∀ (k i : Nat) (s : Shared) (r c m : Nat), n - i = k → i ≤ n → Sv i s.heap → (∀ b o, h0.get? b = some o → s.heap.get? b = some o) → s.heap.get? S = some { cls := .type "list", dict := none, data := .seq #[.ref r] c, slots := #[] } →
    IsL s.heap r (acc i).toArray m → r ∉ wr → r ≠ S →
    (∀ h' tk r' m', (∀ b o, h0.get? b = some o → h'.get? b = some o) → IsL h' r' (acc n).toArray m' → (i = n → r' = r) → (i < n → h0.objs.size ≤ r') → R (.ok (.ret (.ref r'))) { s with heap := h', toks := tk }) →
    codeAny (model P w) A (.builtin "sum.loop" ⟨[.ref I, .ref S, rawInt 2, rawInt 0], []⟩) R s := by
  have outR : S ∉ wr := fun h => out (W.sub _ h)
  intro k
  induction k with
  | zero =>
    intro i s r c m hk hi hst keep atS atR rW rS fin
    obtain rfl : i = n := by omega
    refine codeAny_builtin PySem.F.entry_sum_loop ?_
    rw [PySem.Around.under_plainId PySem.F.plain_sum_loop _]
    show wpAny _ A.in1 (seqItems? (.ref S) >>= _) _ _ s
    refine wpAny_bind (PySem.wpAny_seqItems atS rfl ?_)
    show wpAny _ A.in1 (tryCatch (pyNext (.ref I)) _ >>= _) _ _ s
    refine wpAny_bind (wpAny_tryCatch (W.done s _ _ hst fun h' tk kept => ?_))
    exact wpAny_pure (fin h' tk r m (fun b o e => kept b o (fun z => Nat.lt_irrefl _ (Nat.lt_of_lt_of_le (Heap.lt_size e) (outW b z))) (keep b o e)) (kept _ _ rW atR) (fun _ => rfl) fun z => absurd z (Nat.lt_irrefl _))
  | succ k ih =>
    intro i s r c m hk hi hst keep atS atR rW rS fin
    have hlt : i < n := by omega
    refine codeAny_builtin PySem.F.entry_sum_loop ?_
    rw [PySem.Around.under_plainId PySem.F.plain_sum_loop _]
    show wpAny _ A.in1 (seqItems? (.ref S) >>= _) _ _ s
    refine wpAny_bind (PySem.wpAny_seqItems atS rfl ?_)
    show wpAny _ A.in1 (tryCatch (pyNext (.ref I)) _ >>= _) _ _ s
    refine wpAny_bind (wpAny_tryCatch (W.item i s _ _ hlt hst fun v h1 tk hP hst1 kept => ?_))
    obtain ⟨b, zs, mb, rfl, atB, eacc, few⟩ := part i v hlt hP
    have notW : ∀ q o, h0.get? q = some o → q ∉ wr := fun q o e z => Nat.lt_irrefl _ (Nat.lt_of_lt_of_le (Heap.lt_size e) (outW q z))
    have atS1 := kept S _ outR atS
    have atR1 := kept r _ rW atR
    have atB1 := kept b _ (notW b _ atB) (keep b _ atB)
    show wpAny _ A.in1 ((holding [Value.ref b] (binaryOp .Add (.ref r) (.ref b))).attempt >>= _) _ _ _
    refine wpAny_bind (wpAny_attempt (wpAny_holding (PySem.P.add_list atR1 atB1 ?_ few)))
    rw [← eacc]
    have atS2 : (h1.push { cls := .type "list", data := .seq (acc (i + 1)).toArray }).get? S = some { cls := .type "list", dict := none, data := .seq #[.ref r] c, slots := #[] } := Heap.get?_push_of_some _ atS1
    have atN2 : (h1.push { cls := .type "list", data := .seq (acc (i + 1)).toArray }).get? h1.objs.size = some { cls := .type "list", data := .seq (acc (i + 1)).toArray } := Heap.get?_push_size _ rfl
    have nS : h1.objs.size ≠ S := fun z => Nat.lt_irrefl _ (Nat.lt_of_lt_of_eq (Heap.lt_size atS1) z)
    show wpAny _ A.in1 (updateSeq S (fun _ => #[Value.ref h1.objs.size]) >>= _) _ _ _
    refine wpAny_bind (PySem.wpAny_updateSeq atS2 rfl ?_)
    have atS3 := Heap.get?_update_self (Obj.mapSeq fun _ => #[Value.ref h1.objs.size]) atS2 rfl
    refine wpAny_bind (wpAny_letGo ?_)
    have big : h0.objs.size ≤ h1.objs.size := Nat.le_trans outS (Nat.le_of_lt (Heap.lt_size atS1))
    have newW : h1.objs.size ∉ wr := fun z => Nat.lt_irrefl _ (Nat.lt_trans (below _ z) (Heap.lt_size atS1))
    refine wpAny_bind (PySem.wpAny_updateSeq atS3 rfl (wpAny_pure ⟨PySem.plainId_quiet PySem.F.plain_sum_loop _, ih (i + 1) _ h1.objs.size _ 0 (by omega) hlt (W.frame _ _ _ hst1 fun q hq o e => ?_) (fun q o e => ?_) (Heap.get?_update_self _ atS3 rfl) ?_ newW nS fun h' tk' r' m' keep' atR' z1 z2 => ?_⟩))
    · have qS : S ≠ q := fun z => out (by rw [z]; exact hq)
      exact (Heap.get?_update_other _ _ qS).trans ((Heap.get?_update_other _ _ qS).trans (Heap.get?_push_of_some _ e))
    · have qS : S ≠ q := fun z => Nat.lt_irrefl _ (Nat.lt_of_lt_of_le (Heap.lt_size e) (by rw [← z]; exact outS))
      exact (Heap.get?_update_other _ _ qS).trans ((Heap.get?_update_other _ _ qS).trans (Heap.get?_push_of_some _ (kept q o (notW q o e) (keep q o e))))
    · exact (Heap.get?_update_other _ _ nS.symm).trans ((Heap.get?_update_other _ _ nS.symm).trans atN2)
    · refine fin h' tk' r' m' keep' atR' (fun z => absurd hlt (by omega)) fun _ => ?_
      by_cases z : i + 1 = n
      · rw [z1 z]
        exact big
      · exact z2 (by omega)
/-- sum(xs, start) -/
theorem sum_lists {E : Value → Shared → Prop} {s : Shared} {l st m : Addr} {its : List Value} {first : List Value} {Q : Value → Shared → Prop} (calm : A.handled = none) (isL : s.heap.IsList l its.toArray) (isS : IsL s.heap st first.toArray m)
    (acc : Nat → List Value) (a0 : acc 0 = first) (part : ∀ i v, its[i]? = some v → ∃ b zs k, v = .ref b ∧ IsL s.heap b zs k ∧ (acc (i + 1)).toArray = (acc i).toArray ++ zs ∧ (acc i).toArray.size + zs.size ≤ sizeLine)
    (h : ∀ h' tk r m', (∀ b o, s.heap.get? b = some o → h'.get? b = some o) → IsL h' r (acc its.length).toArray m' → (its.length = 0 → r = st) → (0 < its.length → s.heap.objs.size ≤ r) → Q (.ref r) { s with heap := h', toks := tk }) :
    wpAny (model P w) A (call (.builtin "sum") [.ref l, .ref st]) Q E s := by
  refine call_function_tree PySem.F.kind_sum PySem.F.plain_sum PySem.F.entry_sum (args_sumFrom _ _) ?_
  unfold Builtin.«sum»
  simp only [List.length_cons, List.length_nil]
  rw [if_neg (by decide)]
  refine wpAny_bind (wpAny_of_eq (show Builtin.Builtins.bindParams "sum" ["start"] 0 ⟨[.ref st], []⟩ = pure [some (.ref st)] from rfl) ?_)
  refine wpAny_bind (wpAny_pyIter_list isL ?_)
  refine wpAny_bind (wpAny_pure ?_)
  simp only [List.forIn_cons, List.forIn_nil]
  have tyS : ∀ u, Shared.TypeIs { s with heap := s.heap.push u } (.ref st) "list" := fun u => ⟨_, Heap.get?_push_of_some _ isS, rfl⟩
  refine wpAny_bind (wpAny_bind (wpAny_bind (wpAny_isInstance (b := false) (tyS _) li_str ?_)))
  simp only [Bool.false_eq_true, if_false]
  refine wpAny_pure (wpAny_bind (wpAny_bind (wpAny_isInstance (b := false) (tyS _) li_bytes ?_)))
  simp only [Bool.false_eq_true, if_false]
  refine wpAny_pure (wpAny_bind (wpAny_bind (wpAny_isInstance (b := false) (tyS _) li_bytearray ?_)))
  simp only [Bool.false_eq_true, if_false]
  refine wpAny_pure (wpAny_pure ?_)
  refine wpAny_bind (wpAny_newObj_type ?_)
  have ltL : l < s.heap.objs.size := by
    obtain ⟨o, ho, _⟩ := isL
    exact Heap.lt_size ho
  have ltS : st < s.heap.objs.size := Heap.lt_size isS
  have szI : (s.heap.push { cls := .type "list_iterator", data := .fields #[.ref l, .int 0 0] }).objs.size = s.heap.objs.size + 1 := Heap.size_push ..
  refine wpAny_pure ⟨PySem.plainId_quiet PySem.F.plain_sum_loop _, lists_loop (A := A) (P := P) (w := w) (Walks.list (A := A.in1) calm _ l (Nat.ne_of_lt ltL) its.toArray) s.heap acc (s.heap.push { cls := .type "list_iterator", data := .fields #[.ref l, .int 0 0] }).objs.size
    (fun i v hi hv => part i v (by simpa using hv)) ?_ (fun b hb => ?_) ?_ (fun b hb => ?_) its.toArray.size 0 _ st 0 m rfl (Nat.zero_le _) ⟨⟨_, Heap.get?_push_of_some _ (Heap.get?_push_size _ rfl), rfl, rfl⟩, (isL.push _).push _⟩ (fun b o e => Heap.get?_push_of_some _ (Heap.get?_push_of_some _ e))
      (Heap.get?_push_size _ rfl) ?_ ?_ ?_ fun h' tk r m' keep at' z1 z2 => ?_⟩
  · rw [szI]
    simp only [List.mem_cons, List.not_mem_nil, or_false, not_or]
    exact ⟨Nat.succ_ne_self _, fun z => Nat.lt_irrefl _ (Nat.lt_trans ltL (by rw [← z]; exact Nat.lt_succ_self _))⟩
  · rw [List.mem_singleton.mp hb]
    exact Nat.le_refl _
  · rw [szI]
    exact Nat.le_succ _
  · rw [List.mem_singleton.mp hb, szI]
    exact Nat.lt_succ_self _
  · rw [a0]
    exact Heap.get?_push_of_some _ (Heap.get?_push_of_some _ isS)
  · exact fun z => Nat.ne_of_lt ltS (List.mem_singleton.mp z)
  · rw [szI]
    exact fun z => Nat.lt_irrefl _ (Nat.lt_trans ltS (by rw [z]; exact Nat.lt_succ_self _))
  · rw [List.size_toArray] at at' z1 z2
    exact h h' tk r m' keep at' (fun z => z1 z.symm) z2
end
end Ck

namespace Ck
set_option linter.all false
set_option maxRecDepth 100000
set_option maxHeartbeats 4000000
open PySem PySem.Spec PyProof.Rows L2 Mv
section
variable {X : Cx}
/-- set(xs), xs a list of ints -/
def rSetLI (K : PySem.W.Frag) (w : World) : List V → Hp → VK → Prop := fun vs H Q => ∃ (a : Addr) (ns : List Int), vs = [.ref a] ∧ SqL K H a (ns.map V.int) ∧ ns.length ≤ 1000 ∧
  ∀ (p : Addr) (c : Nat), c ≤ ns.length → H p = none → Q (.ref p) (L2.upd H p (SetO w p (fun j => decide (j ∈ ns)) c))
theorem cr_setLI (hc : X.calm = true) : CallR X (.type "set") (rSetLI X.K X.w) := by
  intro pins s σ H vs us Q I r h
  obtain ⟨a, ns, rfl, hs, hz, q⟩ := h
  obtain ⟨its, rv, hl, _⟩ := I.list hs
  rw [Vals.ref1 r]
  have hi : IntsAre its ns := rv.ints
  refine set_of_list ns (I.ok.hd hc) hl.isList hi (Nat.lt_of_le_of_lt (Nat.add_le_add_right hz 1) (by decide)) fun h' tk c R hle hk => ?_
  exact ⟨.ref _, _, I.laid (t' := tk) hk (Nat.le_refl _) (setO_new R), rfl, q _ c hle (I.hok.fresh (Nat.le_refl _))⟩
/-- sum(xs, start), lists of ints -/
def rSumL : List V → Hp → VK → Prop := fun vs H Q => ∃ (l st : Addr) (as : List Addr) (ns : List Int) (zss : List (List Int)), vs = [.ref l, .ref st] ∧ H l = some (.lst (as.map V.ref)) ∧ IL H st ns ∧ PySem.Paired (fun b zs => IL H b zs) as zss ∧
  ns.length + zss.flatten.length ≤ 1000 ∧ ∀ (p : Addr) (H' : Hp), Same H H' → IL H' p (ns ++ zss.flatten) → Q (.ref p) H'
theorem refs_its : ∀ {as : List Addr} {its : List Value}, Vals (as.map V.ref) its → its = as.map Value.ref
  | [], _, .nil => rfl
  | a :: as, _, .cons r t => by
    have e : _ = Value.ref a := r
    rw [refs_its t, e]
    rfl
theorem paired_get {α β : Type} {R : α → β → Prop} : ∀ {as : List α} {bs : List β} {i : Nat} {a : α}, PySem.Paired R as bs → as[i]? = some a → ∃ b, bs[i]? = some b ∧ R a b
  | _, _, i, a, .nil, e => by simp at e
  | _, _, 0, a, .cons h t, e => by simp at e; subst e; exact ⟨_, rfl, h⟩
  | _, _, i + 1, a, .cons h t, e => by
    obtain ⟨b, e1, e2⟩ := paired_get (i := i) t (by simpa using e)
    exact ⟨b, by simpa using e1, e2⟩
theorem flat_take {zss : List (List Int)} {i : Nat} {zs : List Int} (h : zss[i]? = some zs) : (zss.take (i + 1)).flatten = (zss.take i).flatten ++ zs := by
  rw [List.take_add_one, h]
  simp
theorem flat_le : ∀ (zss : List (List Int)) (i : Nat), (zss.take i).flatten.length ≤ zss.flatten.length
  | [], i => by simp
  | z :: r, 0 => by simp
  | z :: r, i + 1 => by
    have h := flat_le r i
    simp only [List.take_succ_cons, List.flatten_cons, List.length_append]
    omega
theorem cr_sumL (hc : X.calm = true) : CallR X (.builtin "sum") rSumL := by
  intro pins s σ H vs us Q I r h
  obtain ⟨l, st, as, ns, zss, rfl, hl, hst, hp, hz, q⟩ := h
  cases r with
  | cons r1 r2 =>
  cases r2 with
  | cons r2 r3 =>
  cases r3
  have e1 : _ = Value.ref l := r1
  have e2 : _ = Value.ref st := r2
  subst e1; subst e2
  obtain ⟨_, its, n, rv, _, e⟩ := I.lstM hl
  obtain ⟨_, first, m, rf, lf, ef⟩ := I.lstM hst
  have eits := refs_its rv
  -- the values of each part
  have vals : ∀ (b : Addr) (zs : List Int), IL H b zs → ∃ (us : List Value) (k : Nat), Vals (zs.map V.int) us ∧ s.heap.get? b = some { cls := .type "list", data := .seq us.toArray k } := fun b zs hb => by
    obtain ⟨_, us, k, rb, _, eb⟩ := I.lstM hb
    exact ⟨us, k, rb, eb⟩
  have build : ∀ {bs : List Addr} {yss : List (List Int)}, PySem.Paired (fun b zs => IL H b zs) bs yss → ∃ uss : List (List Value), PySem.Paired (fun b us => ∃ k, s.heap.get? b = some { cls := .type "list", data := .seq us.toArray k }) bs uss ∧
      PySem.Paired (fun (us : List Value) (zs : List Int) => Vals (zs.map V.int) us) uss yss := by
    intro bs yss h
    induction h with
    | nil => exact ⟨[], .nil, .nil⟩
    | cons h1 _ ih =>
      obtain ⟨uss, p1, p2⟩ := ih
      obtain ⟨us, k, r1, e1⟩ := vals _ _ h1
      exact ⟨us :: uss, .cons ⟨k, e1⟩ p1, .cons r1 p2⟩
  obtain ⟨uss, p1, p2⟩ := build hp
  have lenU : uss.length = zss.length := PySem.Paired.length p2
  have lenA : as.length = zss.length := PySem.Paired.length hp
  have allV : ∀ i, Vals (((zss.take i).flatten).map V.int) (uss.take i).flatten := by
    have go : ∀ {xs : List (List Value)} {ys : List (List Int)}, PySem.Paired (fun (us : List Value) (zs : List Int) => Vals (zs.map V.int) us) xs ys → ∀ i, Vals (((ys.take i).flatten).map V.int) (xs.take i).flatten := by
      intro xs ys h
      induction h with
      | nil => intro i; simp; exact .nil
      | cons h1 _ ih =>
        intro i
        cases i with
        | zero => exact .nil
        | succ i =>
          simp only [List.take_succ_cons, List.flatten_cons, List.map_append]
          exact h1.append (ih i)
    exact go p2
  have accV : ∀ i, Vals ((ns ++ (zss.take i).flatten).map V.int) (first ++ (uss.take i).flatten) := fun i => by
    rw [List.map_append]
    exact rf.append (allV i)
  have accL : ∀ i, (first ++ (uss.take i).flatten).length ≤ 1000 := fun i => by
    rw [← (accV i).length, List.length_map, List.length_append]
    have := flat_le zss i
    omega
  refine sum_lists (I.ok.hd hc) ⟨_, e, rfl, n, rfl⟩ ef (fun i => first ++ (uss.take i).flatten) (by simp) (fun i v hv => ?_) fun h' tk p m' keep at' z1 z2 => ?_
  · rw [eits, List.getElem?_map] at hv
    cases ha : as[i]? with
    | none => rw [ha] at hv; cases hv
    | some b =>
      rw [ha] at hv
      obtain ⟨us, hu, k, eb⟩ := paired_get p1 ha
      refine ⟨b, us.toArray, k, (Option.some.inj hv).symm, eb, ?_, ?_⟩
      · rw [List.take_add_one, hu]
        simp
      · have h1 := accL (i + 1)
        rw [List.take_add_one, hu] at h1
        simp only [Option.toList_some, List.flatten_append, List.flatten_cons, List.flatten_nil, List.append_nil, List.length_append] at h1
        simp only [List.size_toArray, List.length_append]
        exact Nat.le_trans (show _ ≤ 1000 by omega) (by decide)
  · have lenI : its.length = zss.length := by rw [eits, List.length_map, lenA]
    have ef2 : (uss.take its.length).flatten = uss.flatten := by rw [lenI, ← lenU, List.take_length]
    have hV := accV its.length
    rw [lenI, List.take_length] at hV
    have eAcc : first ++ (uss.take zss.length).flatten = first ++ (uss.take its.length).flatten := by rw [lenI]
    rw [eAcc] at hV
    by_cases h0 : its.length = 0
    · rw [z1 h0]
      have zn : zss = [] := List.length_eq_zero_iff.mp (lenI ▸ h0)
      subst zn
      exact ⟨.ref st, H, I.kept keep, rfl, q st H (Same.refl H) (by simpa using hst)⟩
    · have hp0 := z2 (Nat.pos_of_ne_zero h0)
      have hn : H p = none := I.hok.fresh hp0
      have hlen : ((ns ++ zss.flatten).map V.int).length ≤ sizeLine := by
        rw [List.length_map, List.length_append]
        exact Nat.le_trans hz (by decide)
      exact ⟨.ref p, L2.upd H p (.lst ((ns ++ zss.flatten).map V.int)), I.laid (t' := tk) keep hp0 ⟨hlen, _, m', hV, at'⟩, rfl, q p _ (same_upd hn) (by unfold IL; exact L2.upd_same)⟩
variable {CX : CXT} {k : Nat} {f : Addr} {fd : FuncData} {ps ks : List Str} {sp : Sp} {E : XK} {x : Str} {p pos : Pos} {kws : List Keyword} {tk : TA} {g : List Value → List Value → List Value} {gV : List V → List V → List V}
/-- f(k = v, ..), nothing by place -/
theorem pe_callKw (F : FnOk X.prog X.w X.K X.mg X.base CX k f fd ps sp) (hr : Room k X.A) (hg : Gl X x) (hm : X.mg x = some (.ref f)) (hk : PySem.W.keepIn X.K (.ref f) = true) (hb : KBinds X.K fd ps ks g gV) (hx : Passes CX X E) (hkw : PK X kws tk)
    (hall : (backToKw pos (keywordEach kws X.env)).all (·.1.isSome) = true := by rfl) (hks : (backToKw pos (keywordEach kws X.env)).filterMap (·.1) = ks := by rfl) (hdb : (x == ("__debug__" : Str)) = false := by decide)
    (hpl : ((backTo pos (starEach [] X.env)).any (·.1) || (backToKw pos (keywordEach kws X.env)).any (·.1.isNone)) = false := by rfl) : PE X (.Call (.Name x p) [] kws pos) (tCallK sp gV E tNil tk) := by
  refine ⟨fun pins s σ H Q I h => wpAny_Call_Name_kw (ld_glob I hg hm ?_ hdb)⟩
  refine PySem.W.callWith_KW0 (h₀ := X.base) I.ok.mod.kin hk hall (thn (hkw.run pos pins s σ H _ I h) fun ws s1 ⟨zs, H1, I1, rz, q1⟩ => ⟨I1.kIn, ?_⟩) hpl
  rw [hks]
  exact run_fnk (us := []) (vs := []) F hr hb hx I1 .nil rz q1
end
end Ck

namespace Ck
set_option linter.all false
set_option maxRecDepth 100000
set_option maxHeartbeats 4000000
open PySem PySem.Spec PyProof.Rows L2 Mv
/-! ### lists of lists of ints as data; the texts' lengths -/
def rlD (rs : List (List Int)) : PyData := .list (rs.map ilD)
theorem ringsDp {K : PySem.W.Frag} {H0 H : Hp} {p : Addr} : ∀ {as : List Addr} {rs : List (List Int)}, PySem.Paired (fun b ns => IL H b ns ∧ H0 b = none ∧ b ≠ p) as rs → DpAll K H (as.map V.ref) (rs.map ilD)
  | _, _, .nil => .nil
  | _, _, .cons h t => .cons h.1.dp (ringsDp t)
theorem RL.dp {K : PySem.W.Frag} {H0 H : Hp} {p : Addr} {rs : List (List Int)} (h : RL H0 H p rs) : Dp K H (.ref p) (rlD rs) :=
  let ⟨_, h1, h2⟩ := h
  .lst (.inl (.inl h1)) (ringsDp h2)
theorem canLay_rl : ∀ rs : List (List Int), PyData.canLayAll0 (rs.map ilD) = true
  | [] => rfl
  | r :: t => by
    have h1 : PyData.canLay0 (ilD r) = true := canLay_il r
    show (PyData.canLay0 (ilD r) && PyData.canLayAll0 (t.map ilD)) = true
    rw [canLay_rl t, h1] <;> rfl
theorem depth_ints : ∀ ns : List Int, PyData.depthAll (ns.map PyData.int) = 0
  | [] => rfl
  | n :: t => by
    simp only [List.map_cons, PyData.depthAll, PyData.depth, depth_ints t]
    rfl
theorem depth_rl : ∀ rs : List (List Int), PyData.depthAll (rs.map ilD) ≤ 2
  | [] => by decide
  | r :: t => by
    have h1 := depth_rl t
    simp only [List.map_cons, PyData.depthAll, ilD, PyData.depth, depth_ints]
    omega
theorem shaped_rl (rs : List (List Int)) : SeqAt.shaped (rlD rs) = true := by
  unfold SeqAt.shaped
  rw [Bool.and_eq_true]
  refine ⟨canLay_rl rs, decide_eq_true ?_⟩
  have h1 := depth_rl rs
  show PyData.depth (.list (rs.map ilD)) ≤ 64
  simp only [PyData.depth]
  omega
theorem eqv_rl (rs : List (List Int)) : PyData.eqv (rlD rs) (rlD rs) = true := SeqAt.eqv_refl _ (SeqAt.canLay_of_shaped (shaped_rl rs))
theorem shaped_deep {d : PyData} (h : SeqAt.shaped d = true) : d.hasDict = false := PyData.hasDict_of_canLay d (SeqAt.canLay_of_shaped h)
/-- a register's text -/
def Two (x : Int) : Prop := 0 ≤ x ∧ x ≤ 99
theorem two_len {x : Int} (h : Two x) : (PyData.shown (.int x)).length ≤ 2 := by
  have q := PyProof.Rows.toString_length_le h.1 (k := 2) (by decide) (by have := h.2; omega)
  simpa only [PyData.shown] using q
theorem two_show {x : Int} (h : Two x) : PyData.showable (.int x) = true := by
  simp only [PyData.showable, decide_eq_true_eq]
  have h1 : x.natAbs ≤ 99 := by have := h.1; have := h.2; omega
  have h2 : x.natAbs.log2 ≤ x.natAbs := Nat.log2_le_self _
  omega
theorem shownAll_map {α : Type} (f : α → PyData) : ∀ l : List α, PyData.shownAll (l.map f) = l.map fun x => (f x).shown
  | [] => rfl
  | x :: r => by
    simp only [List.map_cons, PyData.shownAll, shownAll_map f r]
theorem showAll_map {α : Type} (f : α → PyData) : ∀ {l : List α}, (∀ x ∈ l, (f x).showable = true) → PyData.showableAll (l.map f) = true
  | [], _ => rfl
  | x :: r, h => by
    simp only [List.map_cons, PyData.showableAll, h x List.mem_cons_self, showAll_map f fun y hy => h y (List.mem_cons_of_mem _ hy), Bool.and_self]
theorem sum_le {α : Type} (f : α → Nat) (B : Nat) : ∀ {l : List α}, (∀ x ∈ l, f x ≤ B) → (l.map f).sum ≤ B * l.length
  | [], _ => Nat.zero_le _
  | x :: r, h => by
    have h1 := h x List.mem_cons_self
    have h2 := sum_le f B (l := r) fun y hy => h y (List.mem_cons_of_mem _ hy)
    simp only [List.map_cons, List.sum_cons, List.length_cons, Nat.mul_add]
    omega
theorem listD_len {α : Type} (f : α → PyData) (B : Nat) {l : List α} (h : ∀ x ∈ l, (f x).shown.length ≤ B) : (PyData.shown (.list (l.map f))).length ≤ (B + 2) * l.length + 3 := by
  simp only [PyData.shown, shownAll_map]
  have h1 := listText_len_le (l.map fun x => (f x).shown)
  rw [List.map_map, List.length_map] at h1
  have h2 := sum_le (fun x => (f x).shown.length) B h
  have e : ((fun t : Str => t.length) ∘ fun x => (f x).shown) = fun x => (f x).shown.length := rfl
  rw [e] at h1
  rw [Nat.add_mul]
  omega
theorem prD_len {p : Pr} (h1 : Two p.1) (h2 : Two p.2) : (prD p).shown.length ≤ 11 := by
  unfold prD
  rw [PyData.shown]
  have q := tupleText_len_le (PyData.shownAll [.int p.1, .int p.2])
  have e : PyData.shownAll [.int p.1, .int p.2] = [PyData.shown (.int p.1), PyData.shown (.int p.2)] := by simp only [PyData.shownAll]
  rw [e] at q ⊢
  have q1 := two_len h1
  have q2 := two_len h2
  simp only [List.map_cons, List.map_nil, List.sum_cons, List.sum_nil, List.length_cons, List.length_nil] at q
  omega
theorem plD_len {ps : List Pr} (h : ∀ p ∈ ps, Two p.1 ∧ Two p.2) : (plD ps).shown.length ≤ 13 * ps.length + 3 := listD_len prD 11 fun p hp => prD_len (h p hp).1 (h p hp).2
theorem plD_show {ps : List Pr} (h : ∀ p ∈ ps, Two p.1 ∧ Two p.2) : (plD ps).showable = true := by
  unfold plD
  rw [PyData.showable]
  refine showAll_map prD fun p hp => ?_
  unfold prD
  simp only [PyData.showable, PyData.showableAll]
  have q1 := two_show (h p hp).1
  have q2 := two_show (h p hp).2
  simp only [PyData.showable] at q1 q2
  rw [q1, q2] <;> rfl
theorem ilD_len {ns : List Int} (h : ∀ n ∈ ns, Two n) : (ilD ns).shown.length ≤ 4 * ns.length + 3 := listD_len PyData.int 2 fun n hn => two_len (h n hn)
theorem ilD_show {ns : List Int} (h : ∀ n ∈ ns, Two n) : (ilD ns).showable = true := by
  unfold ilD
  rw [PyData.showable]
  exact showAll_map PyData.int fun n hn => two_show (h n hn)
theorem rlD_len {rs : List (List Int)} (h : ∀ r ∈ rs, r.length ≤ 50 ∧ ∀ n ∈ r, Two n) : (rlD rs).shown.length ≤ 205 * rs.length + 3 := listD_len ilD 203 fun r hr => by
  have h1 := ilD_len (h r hr).2
  have h2 := (h r hr).1
  omega
theorem rlD_show {rs : List (List Int)} (h : ∀ r ∈ rs, r.length ≤ 50 ∧ ∀ n ∈ r, Two n) : (rlD rs).showable = true := by
  unfold rlD
  rw [PyData.showable]
  exact showAll_map ilD fun r hr => ilD_show (h r hr).2
theorem plD_deep (ps : List Pr) : (plD ps).depth ≤ 60 := by
  have := depth_pl ps
  simp only [plD, PyData.depth]
  omega
theorem rlD_deep (rs : List (List Int)) : (rlD rs).depth ≤ 60 := by
  have := depth_rl rs
  simp only [rlD, PyData.depth]
  omega
end Ck

namespace Ck
set_option linter.all false
set_option maxRecDepth 100000
set_option maxHeartbeats 4000000
open PySem L2 Mv
/-- where a def stands, and how its arguments bind -/
structure Here (K : PySem.W.Frag) (mg : Str → Option Value) (name : Str) (f : Addr) (fd : FuncData) (ps : List Str) : Prop where
  b : Binds K fd ps []
  k : PySem.W.keepIn K (.ref f) = true
  g : mg name = some (.ref f)
def gRev {α : Type} (us ws : List α) : List α := us ++ ws.reverse
def gApp {α : Type} (us ws : List α) : List α := us ++ ws
/-- list(xs) -/
def rLst (K : PySem.W.Frag) : List V → Hp → VK → Prop := fun xs H Q => ∃ p ys, xs = [.ref p] ∧ (SqL K H p ys ∨ SqT K H p ys) ∧ ∀ l, H l = none → Q (.ref l) (L2.upd H l (.lst ys))
/-! ### _law_right -/
abbrev sRight : Stmt := top 27
def nRight : List Str := ["_law_shuffle_here", "_law_spare", "_law_given", "_law_due", "_law_told", "_law_registers", "_law_held", "_law_wanted", "_law_ringed", "_law_many", "_law_shown", "_law_ring", "_law_pair", "_law_spot"]
theorem scRight : FnScope nRight ["_law_shuffle_here", "_law_spare"] (defScope sRight) := ⟨rfl, rfl, rfl, by decide +kernel, rfl, by decide +kernel, by decide +kernel⟩
def spRight : Sp := fun vs H Q _ => ∃ (a : Addr) (ps : List Pr) (sp : Int), vs = [.ref a, .int sp] ∧ PL H a ps ∧ Shf ps ∧ Spr sp ps ∧ ps.length ≤ 20 ∧ ∀ H', Same H H' → Q (.bl true) H'
theorem u70 {k : Nat} {A : Around} (r : Room k A) : A.units + 70 < cLine := by
  have := r.un
  omega
theorem regs_two {ps : List Pr} (hS : Shf ps) : ∀ p ∈ ps, Two p.1 ∧ Two p.2 := fun p h => by
  obtain ⟨h1, h2, h3, h4⟩ := hS.regs p h
  exact ⟨⟨h1, h2⟩, ⟨h3, h4⟩⟩
theorem keys_two {ps : List Pr} (hS : Shf ps) {x : Int} (h : x ∈ keys ps) : Two x := by
  obtain ⟨v, hv⟩ := of_keys h
  exact (regs_two hS _ hv).1
theorem reads_two {ps : List Pr} (hS : Shf ps) {x : Int} (h : x ∈ reads ps) : Two x := by
  obtain ⟨v, hv⟩ := of_reads h
  exact (regs_two hS _ hv).2
theorem part_two {ps : List Pr} {sp : Int} (hS : Shf ps) (hp : Spr sp ps) {x : Int} (h : Part sp ps x) : Two x := by
  rcases h with e | e | e
  · rw [e]
    exact ⟨hp.lo, hp.hi⟩
  · exact keys_two hS e
  · exact reads_two hS e
theorem rule_two {ps : List Pr} {sp : Int} (hS : Shf ps) (hp : Spr sp ps) : ∀ m ∈ rule sp ps, Two m.1 ∧ Two m.2 := fun m hm => by
  obtain ⟨h1, h2⟩ := rule_parts m hm
  exact ⟨part_two hS hp h1, part_two hS hp h2⟩
theorem rings_two {ps : List Pr} (hS : Shf ps) : ∀ r ∈ ringsOf (nt ps), r.length ≤ 50 ∧ ∀ n ∈ r, Two n := fun r hr => by
  obtain ⟨h1, h2⟩ := rings_parts (nd_nt hS.nd) hr
  have h3 := nt_len ps
  have h4 := hS.len
  refine ⟨by omega, fun n hn => ?_⟩
  have sub : ∀ {p}, p ∈ nt ps → p ∈ ps := fun hp => (List.mem_filter.mp hp).1
  rcases h2 n hn with e | e
  · obtain ⟨v, hv⟩ := of_keys e
    exact (regs_two hS _ (sub hv)).1
  · obtain ⟨v, hv⟩ := of_reads e
    exact (regs_two hS _ (sub hv)).2
theorem line9 : 9000 ≤ sizeLine := by decide
theorem rd_if {c : TT} {u v : TS} {D : Ends} {σ : St} {H : Hp} (h : c σ H fun b H1 => if b = true then u D σ H1 else v D σ H1) : tIfS c u v D σ H := h
theorem rd_test {t : TE} {σ : St} {H : Hp} {Q : Bool → Hp → Prop} (h : t σ H fun x H1 => ∃ k, x = .bl k ∧ Q k H1) : tTest t σ H Q := h
theorem RL.off {H0 H H' : Hp} {p t : Addr} {rs : List (List Int)} (h : RL H0 H p rs) (s : SameB t H H') (hp : p ≠ t) (h0 : H0 t ≠ none) : RL H0 H' p rs := by
  obtain ⟨as, h1, h2⟩ := h
  refine ⟨as, s _ _ hp h1, ?_⟩
  clear h1
  induction h2 with
  | nil => exact .nil
  | cons h _ ih => exact .cons ⟨s _ _ (fun z => h0 (by rw [← z]; exact h.2.1)) h.1, h.2.1, h.2.2⟩ ih
/-- each of them is a list, none long -/
def Lists (H : Hp) (bs : List Addr) (n : Nat) : Prop := ∀ b ∈ bs, ∃ ys, H b = some (.lst ys) ∧ ys.length ≤ n
theorem RL.lists {H0 H : Hp} {p : Addr} {rs : List (List Int)} {n : Nat} (hr : ∀ r ∈ rs, r.length ≤ n) : ∀ {as : List Addr}, PySem.Paired (fun b ns => IL H b ns ∧ H0 b = none ∧ b ≠ p) as rs → Lists H as n ∧ ∀ b ∈ as, H0 b = none := fun h => by
  induction h with
  | nil => exact ⟨fun b hb => (nomatch hb), fun b hb => (nomatch hb)⟩
  | cons h _ ih =>
    obtain ⟨i1, i2⟩ := ih fun r hr' => hr r (List.mem_cons_of_mem _ hr')
    refine ⟨fun b hb => ?_, fun b hb => ?_⟩
    · rcases List.mem_cons.mp hb with e | e
      · rw [e]
        exact ⟨_, h.1, by rw [List.length_map]; exact hr _ List.mem_cons_self⟩
      · exact i1 b e
    · rcases List.mem_cons.mp hb with e | e
      · rw [e]
        exact h.2.1
      · exact i2 b e
theorem Lists.same {H H' : Hp} {bs : List Addr} {n : Nat} (s : Same H H') (h : Lists H bs n) : Lists H' bs n := fun b hb => let ⟨ys, h1, h2⟩ := h b hb; ⟨ys, s _ _ h1, h2⟩
theorem Lists.app {H : Hp} {bs : List Addr} {n : Nat} {b : Addr} {ys : List V} {v : V} (h : Lists H bs n) (hb : H b = some (.lst ys)) (hl : ys.length ≤ n) : Lists (L2.upd H b (.lst (ys ++ [v]))) bs (n + 1) := fun c hc => by
  by_cases e : c = b
  · rw [e]
    exact ⟨_, L2.upd_same, by rw [List.length_append]; exact Nat.add_le_add_right hl 1⟩
  · obtain ⟨zs, h1, h2⟩ := h c hc
    exact ⟨zs, by rw [L2.upd_ne e]; exact h1, by omega⟩
/-- [list(pair) for pair in xs] -/
theorem rd_lists {K : PySem.W.Frag} {σ : St} {H : Hp} {Q : VK} {a : Addr} {ps : List Pr} {i j : Nat} (hs : σ[i]? = some (some (.ref a))) (hP : PL H a ps) (hz : ps.length ≤ 1000) (hj : j < σ.length)
    (fin : ∀ D H', H D = none → Same H H' → RL H H' D (ps.map fun p => [p.1, p.2]) → Q (.ref D) H') : tLc (iList K (tVar i)) (gName j) tYes (tCB (rLst K) (tCons (tVar j) tNil)) [j] σ H Q := by
  obtain ⟨as, hSq, hT⟩ := hP.sq (K := K)
  refine ⟨.ref a, hs, a, rfl, ⟨_, hSq⟩, fun D hD => lc_list (K := K) (a := a) (xs := as.map V.ref) (fun i H' => Same H H' ∧ RL H H' D ((ps.take i).map fun p => [p.1, p.2]) ∧ i ≤ 1000) ⟨same_upd hD, RL.nil L2.upd_same, by omega⟩ (fun i H' _ c => c.1.seq hSq) (fun i x H' hx ⟨sm, hR, hi⟩ => ?_) (fun H' ⟨sm, hR, hi⟩ => ?_)⟩
  · obtain ⟨t, p, rfl, hp, ht⟩ := hT.get hx
    refine ⟨wipe_set j _ hj, .ref t, wipe_get j _ hj, t, _, rfl, .inr (.inl (.inl (sm _ _ ht))), fun l nl => ?_⟩
    have n0 : H l = none := sm.free nl
    have hl : L2.upd H' l (.lst [.int p.1, .int p.2]) l = some (.lst (([p.1, p.2] : List Int).map V.int)) := L2.upd_same
    have neD : l ≠ D := by
      obtain ⟨as1, h1, _⟩ := hR.len
      exact (ne_of_none h1 nl).symm
    obtain ⟨as1, h1, h2, h3⟩ := (hR.same (same_upd (o := .lst [.int p.1, .int p.2]) nl)).push hl n0 neD
    have hil := idx_lt hp
    have small : as1.length < 9000 := by
      rw [h2, List.length_map, List.length_take]
      omega
    refine ⟨_, h1, by rw [List.length_map]; exact Nat.lt_of_lt_of_le small line9, SameB.upd.fresh (sm.trans (same_upd nl)) hD, ?_, by omega⟩
    rw [take_succ_map _ hp]
    exact h3
  · rw [List.length_map, hT.len, List.take_length] at hR
    exact fin D H' hD sm hR
theorem RL.parts {H0 H : Hp} {p : Addr} {rs : List (List Int)} (h : RL H0 H p rs) : ∃ as : List Addr, H p = some (.lst (as.map V.ref)) ∧ PySem.Paired (fun b zs => IL H b zs) as rs := by
  obtain ⟨as, h1, h2⟩ := h
  refine ⟨as, h1, ?_⟩
  clear h1
  induction h2 with
  | nil => exact .nil
  | cons h _ ih => exact .cons h.1 ih
theorem two_flat : ∀ ps : List Pr, (ps.map fun p => [p.1, p.2]).flatten.length = 2 * ps.length
  | [] => rfl
  | p :: r => by
    have := two_flat r
    simp only [List.map_cons, List.flatten_cons, List.length_append, List.length_cons, List.length_nil] at *
    omega
theorem mem_flat2 {ps : List Pr} {x : Int} : x ∈ (ps.map fun p => [p.1, p.2]).flatten ↔ x ∈ keys ps ∨ x ∈ reads ps := by
  induction ps with
  | nil => simp [keys, reads]
  | cons p r ih =>
    have e1 : x ∈ keys (p :: r) ↔ x = p.1 ∨ x ∈ keys r := List.mem_cons
    have e2 : x ∈ reads (p :: r) ↔ x = p.2 ∨ x ∈ reads r := List.mem_cons
    rw [e1, e2]
    simp only [List.map_cons, List.flatten_cons, List.mem_append, ih, List.mem_cons, List.not_mem_nil, or_false]
    constructor
    · rintro ((h | h) | (h | h))
      · exact .inl (.inl h)
      · exact .inr (.inl h)
      · exact .inl (.inr h)
      · exact .inr (.inr h)
    · rintro ((h | h) | (h | h))
      · exact .inl (.inl h)
      · exact .inr (.inl h)
      · exact .inl (.inr h)
      · exact .inr (.inr h)
variable {P : Program} {w : World} {K : PySem.W.Frag} {mg : Str → Option Value} {base : Heap}
theorem ok_right {f f1 f2 f3 f4 f5 f6 : Addr} {fd fd1 fd2 fd3 fd4 fd5 fd6 : FuncData} (F : Fun K "_law_right" "_law_right" sRight f fd) (T : Txt mg)
    (G1 : FnOk P w K mg base CX0 1 f1 fd1 ["_law_shuffle_here", "_law_spare"] spLRule) (h1 : Here K mg "_law_rule" f1 fd1 ["_law_shuffle_here", "_law_spare"])
    (G2 : FnOk P w K mg base CX0 5 f2 fd2 ["shuffle", "spare"] spMoves) (h2 : Here K mg "moves" f2 fd2 ["shuffle", "spare"]) (k2 : KBinds K fd2 ["shuffle", "spare"] ["spare", "shuffle"] gRev gRev)
    (G3 : FnOk P w K mg base CX0 5 f3 fd3 ["shuffle"] spRings) (h3 : Here K mg "rings" f3 fd3 ["shuffle"]) (k3 : KBinds K fd3 ["shuffle"] ["shuffle"] gApp gApp)
    (G4 : FnOk P w K mg base CX0 5 f4 fd4 ["shuffle"] spFew) (h4 : Here K mg "fewest_moves" f4 fd4 ["shuffle"]) (k4 : KBinds K fd4 ["shuffle"] ["shuffle"] gApp gApp)
    (G5 : FnOk P w K mg base CX0 1 f5 fd5 ["_law_shuffle_here"] spLRings) (h5 : Here K mg "_law_rings" f5 fd5 ["_law_shuffle_here"])
    (G6 : FnOk P w K mg base CX0 1 f6 fd6 ["_law_row", "_law_registers"] spWalked) (h6 : Here K mg "_law_walked" f6 fd6 ["_law_row", "_law_registers"]) : FnSt P w K mg base 6 f fd ["_law_shuffle_here", "_law_spare"] spRight := by
  refine still_fn F scRight (fun vs H Q E h => ?_) (fun cdv A outer s H vs Q E hs hr h => ?_)
  · obtain ⟨a, ps, sp, rfl, _⟩ := h
    rfl
  · obtain ⟨a, ps, sp, rfl, hP, hS, hp, few, q⟩ := h
    have hr1 := hr.mono (j := 1) (by decide)
    refine ⟨_, pss_cons (ps_par (i := 2) (j := 3) rfl scRight.nd rfl rfl (by decide) rfl rfl (pa_cons (pe_callTy call_list_of (by rfl) T.list (by decide +kernel) (pa_cons (pv 0) pa_nil))
        (pa_cons (pe_call G1 hr1 (by rfl) h1.g h1.k h1.b .nil pass0 (pa_cons (pv 0) (pa_cons (pv 1) pa_nil))) pa_nil)) (by rfl))
      (pss_cons (ps_set (i := 4) scRight.nd rfl (Or.inl rfl) (pe_call G2 hr (by rfl) h2.g h2.k h2.b .nil pass0 (pa_cons (pv 2) (pa_cons (pv 1) pa_nil))))
      (pss_cons (ps_if (PW.pt (pw_or (pt_cmpR op_ne (pe_callB (repr_data hs (u70 hr)) (by rfl) T.repr (by decide +kernel) (pa_cons (pv 4) pa_nil)) (pe_callB (repr_data hs (u70 hr)) (by rfl) T.repr (by decide +kernel) (pa_cons (pv 3) pa_nil)) (nomark _))
          (pw_or (pt_cmpR (op_neD hr.units) (pv 2) (pv 0) (nomark _))
          (pw_or1 (pt_cmpR (op_neD hr.units) (pe_callKw G2 hr (by rfl) h2.g h2.k k2 pass0 (pk_cons (pv 1) (pk_cons (pv 2) pk_nil))) (pv 3) (nomark _)))))) (pss_one (ps_ret pe_bl)) pss_nil)
      (pss_cons (ps_set (i := 5) scRight.nd rfl (Or.inl rfl) (pe_callB (r := rSortedSet w) (cr_sortedSet rfl) (by rfl) T.sorted (by decide +kernel) (pa_cons (pe_callTy (r := rSetLI K w) (cr_setLI rfl) (by rfl) T.set (by decide +kernel) (pa_cons
          (pe_callB (cr_sumL rfl) (by rfl) T.sum (by decide +kernel) (pa_cons
            (pe_lc (own := [("_law_pair", 12)]) (g := gName 12) rfl scRight.nd (pi_list (pv 0)) (blkOk_by (own := [("_law_pair", 12)]) (N := nRight) (sc := defScope sRight) (by decide +kernel)) (fun _ _ _ _ _ => pg_name (i := 12) scRight.nd rfl (Or.inl rfl))
              (fun _ _ _ _ _ => pts_nil) (fun _ _ _ _ _ => pe_callTy (T := "list") (r := rLst K) call_list_of (by rfl) T.list (by decide +kernel) (pa_cons (pv 12) pa_nil)))
            (pa_cons (pe_lst (pa_cons (pv 1) (pa_cons pe_int pa_nil))) pa_nil))) pa_nil)) pa_nil)))
      (pss_cons (ps_asg (pe_tup (pa_cons (pe_call G6 hr1 (by rfl) h6.g h6.k h6.b .nil pass0 (pa_cons (pv 3) (pa_cons (pv 5) pa_nil))) (pa_cons (pe_callTy (call_dictP rfl) (by rfl) T.dict (by decide +kernel) (pa_cons (pv 0) pa_nil)) pa_nil)))
          (pg_tup rfl (pgs_cons (pg_name (i := 6) scRight.nd rfl (Or.inr rfl)) (pgs_cons (pg_name (i := 7) scRight.nd rfl (Or.inr rfl)) pgs_nil))))
      (pss_cons (ps_if (pt_cmpR (op_neD hr.units) (pe_lc (own := [("_law_spot", 13)]) (g := gName 13) rfl scRight.nd (pi_list (pv 5)) (blkOk_by (own := [("_law_spot", 13)]) (N := nRight) (sc := defScope sRight) (by decide +kernel)) (fun _ _ _ _ _ => pg_name (i := 13) scRight.nd rfl (Or.inl rfl))
            (fun _ _ _ _ _ => pts_one (PW.pt (pw_and (pt_cmpR op_ne (pv 13) (pv 1) (nomark _)) (pw_and1 (pt_cmpR op_ne (pe_dget (hu_of hr) (pv 6) (pv 13) (fun _ _ => rfl)) (pe_dget2 (hu_of hr) (pv 7) (pv 13) (pv 13) ⟨rfl, rfl, rfl, rfl⟩) (nomark _)))))) (fun _ _ _ _ _ => pv 13))
          (pe_lst pa_nil) (nomark _)) (pss_one (ps_ret pe_bl)) pss_nil)
      (pss_cons (ps_par (i := 8) (j := 9) rfl scRight.nd rfl rfl (by decide) rfl rfl (pa_cons (pe_call G5 hr1 (by rfl) h5.g h5.k h5.b .nil pass0 (pa_cons (pv 0) pa_nil)) (pa_cons (pe_callB call_len_seq (by rfl) T.len PySem.boot_len (pa_cons
          (pe_lc (own := [("_law_pair", 12)]) (g := gName 12) rfl scRight.nd (pi_list (pv 0)) (blkOk_by (own := [("_law_pair", 12)]) (N := nRight) (sc := defScope sRight) (by decide +kernel)) (fun _ _ _ _ _ => pg_name (i := 12) scRight.nd rfl (Or.inl rfl))
            (fun _ _ _ _ _ => pts_one (pt_cmpR op_ne (pe_ix (r := rIxT K) ix_tup (pv 12) pe_int (fun _ _ => rfl)) (pe_ix (r := rIxT K) ix_tup (pv 12) pe_int (fun _ _ => rfl)) (nomark _))) (fun _ _ _ _ _ => pv 12)) pa_nil)) pa_nil)) (by rfl))
      (pss_cons (ps_if (PW.pt (pw_or (pt_cmpR op_ne (pe_callB (repr_data hs (u70 hr)) (by rfl) T.repr (by decide +kernel) (pa_cons (pe_call G3 hr (by rfl) h3.g h3.k h3.b .nil pass0 (pa_cons (pv 2) pa_nil)) pa_nil)) (pe_callB (repr_data hs (u70 hr)) (by rfl) T.repr (by decide +kernel) (pa_cons (pv 8) pa_nil)) (nomark _))
          (pw_or (pt_cmpR op_ne (pe_callB SkE.call_repr_int (by rfl) T.repr (by decide +kernel) (pa_cons (pe_call G4 hr (by rfl) h4.g h4.k h4.b .nil pass0 (pa_cons (pv 2) pa_nil)) pa_nil))
              (pe_callB SkE.call_repr_int (by rfl) T.repr (by decide +kernel) (pa_cons (pe_op op_add (pv 9) (pe_callB call_len_seq (by rfl) T.len PySem.boot_len (pa_cons (pv 8) pa_nil))) pa_nil)) (nomark _))
          (pw_or1 (pt_cmpR op_ne (pe_callB call_len_seq (by rfl) T.len PySem.boot_len (pa_cons (pv 3) pa_nil)) (pe_op op_add (pv 9) (pe_callB call_len_seq (by rfl) T.len PySem.boot_len (pa_cons (pv 8) pa_nil))) (nomark _)))))) (pss_one (ps_ret pe_bl)) pss_nil)
      (pss_cons (ps_set (i := 10) scRight.nd rfl (Or.inl rfl) (pe_callKw G3 hr (by rfl) h3.g h3.k k3 pass0 (pk_cons (pv 2) pk_nil)))
      (pss_cons (ps_for PassesOwn.never rfl (pi_list (pe_op op_cat (pv 10) (pe_lst (pa_cons (pv 4) (pa_cons (pv 10) pa_nil))))) (pg_name (i := 11) scRight.nd rfl (Or.inl rfl))
        (pss_one (ps_expr (pe_bm PySem.F.plainAttrs_list PySem.F.slot_list_append PySem.F.type_list_append mt_append (pv 11) (pa_cons pe_non pa_nil)))))
      (pss_one (ps_ret (pe_and (pe_cmpR op_eq (pe_callKw G4 hr (by rfl) h4.g h4.k k4 pass0 (pk_cons (pv 2) pk_nil)) (pe_callB call_len_seq (by rfl) T.len PySem.boot_len (pa_cons (pv 3) pa_nil)) (nomark _))
        (pe_and (pe_cmpR (op_eqD hr.units) (pe_call G2 hr (by rfl) h2.g h2.k h2.b .nil pass0 (pa_cons (pv 2) (pa_cons (pv 1) pa_nil))) (pv 3) (nomark _))
        (pe_and (pe_cmpR (op_eqD hr.units) (pe_call G3 hr (by rfl) h3.g h3.k h3.b .nil pass0 (pa_cons (pv 2) pa_nil)) (pv 8) (nomark _))
        (pe_one (pe_cmpR (op_eqD hr.units) (pv 2) (pv 0) (nomark _))))))))))))))))), ?_⟩
    have hg := good_of hS hp
    have two := rule_two hS hp
    have rlen : (rule sp ps).length ≤ 40 := by have := rule_few hg; omega
    have rln := plD_len two
    have rsh := plD_show two
    have ring2 := rings_two hS
    have rcnt : (ringsOf (nt ps)).length ≤ 20 := by
      have h1 := rings_few (nt ps)
      have h2 := nt_len ps
      omega
    have kln := rlD_len ring2
    have ksh := rlD_show ring2
    obtain ⟨as, hA, hT⟩ := id hP
    refine rd_seq (rd_par (rd_cons (rd_cb (rd_cons ?_))))
    refine ⟨.ref a, rfl, a, as.map V.ref, rfl, .inl (.inl (.inl hA)), fun gv ngv => ?_⟩
    have s1 : Same H (L2.upd H gv (.lst (as.map V.ref))) := same_upd ngv
    have hG1 : PL (L2.upd H gv (.lst (as.map V.ref))) gv ps := ⟨as, L2.upd_same, hT.same s1⟩
    generalize L2.upd H gv (.lst (as.map V.ref)) = H1 at s1 hG1 ⊢
    refine ⟨.ref a, rfl, .int sp, rfl, a, ps, sp, rfl, hP.same s1, Nat.le_trans few (by decide), hg, fun H2 du s2 ndu hD2 => ⟨_, _, rfl, ?_⟩⟩
    dsimp only
    have hG2 := hG1.same s2
    refine rd_seq (rd_asg ⟨.ref gv, rfl, .int sp, rfl, gv, ps, sp, rfl, hG2, hS, hp, fun H3 tv s3 ntv hT3 => ?_⟩)
    dsimp only
    have hD3 := hD2.same s3
    have hG3 := hG2.same s3
    have s13 := (s1.trans s2).trans s3
    refine rd_seq ?_
    refine ⟨.ref tv, rfl, tv, plD (rule sp ps), rfl, hT3.dp, rsh, shaped_deep (shaped_pl _), plD_deep _, Nat.le_trans rln (Nat.le_trans (show 13 * (rule sp ps).length + 3 ≤ 9000 by omega) line9), ?_⟩
    refine ⟨.ref du, rfl, du, plD (rule sp ps), rfl, hD3.dp, rsh, shaped_deep (shaped_pl _), plD_deep _, Nat.le_trans rln (Nat.le_trans (show 13 * (rule sp ps).length + 3 ≤ 9000 by omega) line9), ?_⟩
    refine ⟨rfl, _, rfl, ?_⟩
    rw [decide_eq_true rfl]
    refine iteF ⟨.ref gv, rfl, .ref a, rfl, _, _, hG3.dp, (hP.same s13).dp, shaped_pl _, shaped_pl _, _, rfl, ?_⟩
    rw [eqv_pl]
    refine iteF ⟨.int sp, rfl, .ref gv, rfl, gv, ps, sp, rfl, hG3, hS, hp, fun H4 t4 s4 nt4 hT4 => ?_⟩
    refine ⟨.ref du, rfl, _, _, hT4.dp, (hD3.same s4).dp, shaped_pl _, shaped_pl _, _, rfl, ?_⟩
    rw [eqv_pl]
    refine iteF (rd_next ?_)
    dsimp only
    have s14 := s13.trans s4
    have hG4 := hG3.same s4
    have hD4 := hD3.same s4
    have hP4 := hP.same s14
    have hV4 := hT3.same s4
    -- the registers
    refine rd_seq (rd_asg (rd_cb (rd_cons (rd_cb (rd_cons (rd_cb (rd_cons ?_)))))))
    refine rd_lists (i := 0) rfl hP4 (Nat.le_trans few (by decide)) (by show 12 < 14; decide) fun D H5 nD s5 hR5 => ?_
    refine ⟨.int sp, rfl, by show 2 ≤ sizeLine; decide, fun st nst => ?_⟩
    obtain ⟨bs, hb, hpb⟩ := (hR5.same (same_upd (o := .lst [.int sp, .int 90]) nst)).parts
    refine ⟨D, st, bs, [sp, 90], _, rfl, hb, L2.upd_same, hpb, ?_, fun p6 H6 s6 hI6 => ?_⟩
    · rw [two_flat]
      show 2 + 2 * ps.length ≤ 1000
      omega
    refine ⟨p6, _, rfl, .inl (.inl hI6), ?_, fun q6 c hc nq => ?_⟩
    · rw [List.length_append, two_flat]
      show 2 + 2 * ps.length ≤ 1000
      omega
    have hc42 : c ≤ 42 := by
      rw [List.length_append, two_flat] at hc
      have : ([sp, 90] : List Int).length = 2 := rfl
      omega
    refine ⟨q6, _, c, rfl, L2.upd_same, by omega, fun rs rg hpw hmem hlen nrg => ?_⟩
    dsimp only
    have s7 := (((s5.trans (same_upd (o := .lst [.int sp, .int 90]) nst)).trans s6).trans (same_upd (o := SetO w q6 (fun j => decide (j ∈ [sp, 90] ++ (ps.map fun p => [p.1, p.2]).flatten)) c) nq)).trans (same_upd (o := .lst (rs.map V.int)) nrg)
    have hRg : IL (L2.upd (L2.upd H6 q6 (SetO w q6 (fun j => decide (j ∈ [sp, 90] ++ (ps.map fun p => [p.1, p.2]).flatten)) c)) rg (.lst (rs.map V.int))) rg rs := L2.upd_same
    generalize L2.upd (L2.upd H6 q6 (SetO w q6 (fun j => decide (j ∈ [sp, 90] ++ (ps.map fun p => [p.1, p.2]).flatten)) c)) rg (.lst (rs.map V.int)) = H7 at s7 hRg ⊢
    have rnd : rs.Nodup := hpw.imp fun h => Int.ne_of_lt h
    have rmem : ∀ k, k ∈ rs ↔ (k = sp ∨ k = 90) ∨ (k ∈ keys ps ∨ k ∈ reads ps) := fun k => by
      rw [hmem k, decide_eq_true_eq, List.mem_append, mem_flat2]
      simp
    have rfew : rs.length ≤ 42 := by omega
    clear hmem hlen
    have s17 := s14.trans s7
    have hP7 := hP4.same s7
    have hG7 := hG4.same s7
    have hD7 := hD4.same s7
    have hV7 := hV4.same s7
    have pin : ∀ p ∈ rule sp ps, p.1 ∈ rs ∧ p.2 ∈ rs := fun p hp => by
      obtain ⟨h1, h2⟩ := rule_parts p hp
      exact ⟨(rmem _).mpr (h1.imp (fun e => .inl e) fun e => e), (rmem _).mpr (h2.imp (fun e => .inl e) fun e => e)⟩
    -- walked, wanted
    refine rd_seq (rd_asgG (rd_tup (rd_cons ?_)))
    obtain ⟨as7, hA7, hT7⟩ := id hP7
    refine ⟨.ref du, rfl, .ref rg, rfl, du, rg, rule sp ps, rs, rfl, hD7, hRg, by omega, rnd, pin, fun H8 hv s8 nhv hH8 => ?_⟩
    refine ⟨.ref a, rfl, a, as7, kvsOf ps, rfl, .inl (.inl (s8 _ _ hA7)), tups_paired (hT7.same s8), fun wv nwv => ⟨by show 2 ≤ sizeLine; decide, fun tt ntt => ⟨tt, _, rfl, .inl (.inl L2.upd_same), rfl, _, _, rfl, _, _, rfl, rfl, ?_⟩⟩⟩
    rw [merge_nil hS.nd] at ntt ⊢
    have s9 := (s8.trans (same_upd (o := .dK (kvsOf ps)) nwv)).trans (same_upd (o := .tup [.ref hv, .ref wv]) ntt)
    have hH9 := same_upd (o := .tup [.ref hv, .ref wv]) ntt _ _ (same_upd (o := .dK (kvsOf ps)) nwv _ _ hH8)
    have hW9 := same_upd (o := .tup [.ref hv, .ref wv]) ntt _ _ (show (L2.upd H8 wv (.dK (kvsOf ps))) wv = some (.dK (kvsOf ps)) from L2.upd_same)
    generalize L2.upd (L2.upd H8 wv (.dK (kvsOf ps))) tt (.tup [.ref hv, .ref wv]) = H9 at s9 hH9 hW9 ⊢
    have s19 := s17.trans s9
    have hP9 := hP7.same s9
    have hG9 := hG7.same s9
    have hD9 := hD7.same s9
    have hV9 := hV7.same s9
    have hR9 := hRg.same s9
    have does := rule_does hg (fun x => (look ps x).getD x) (fun d s h => by
      show (look ps d).getD d = s
      rw [(look_some hS.nd).mpr h]
      rfl) (fun x h => by
      show (look ps x).getD x = x
      rw [look_none.mpr h]
      rfl)
    dsimp only
    refine rd_seq (rd_if (rd_test (rd_op ?_)))
    refine rd_ii (s := 5) rfl hR9 (by omega) (fun _ => []) rfl (fun i k D H' hk hD sm c => ?_) fun D H10 nD10 s10 hl10 => ?_
    · have hkr : k ∈ rs := List.mem_of_getElem? hk
      refine ⟨rfl, .int k, rfl, .int sp, rfl, rfl, _, rfl, ?_⟩
      by_cases ek : k = sp
      · rw [ek, decide_eq_true rfl]
        exact iteF (iteF (c.skip (Same.refl _) rfl))
      · rw [decide_eq_false fun z => ek (V.int.inj z)]
        have hq1 := dget_at (.inl (sm _ _ hH9)) k
        rw [look_env _ rnd hkr] at hq1
        have hq2 := dget_at (.inl (sm _ _ hW9)) k
        have ey : ((look ps k).map V.int).getD (.int k) = V.int ((look ps k).getD k) := by cases look ps k <;> rfl
        refine iteT ⟨.ref hv, rfl, .int k, rfl, hv, _, rfl, hq1, .ref wv, rfl, wv, rfl, .inl ⟨_, .inl (sm _ _ hW9)⟩, .int k, rfl, .int k, rfl, _, hq2, ?_⟩
        rw [ey]
        refine ⟨rfl, _, rfl, ?_⟩
        rw [does k ek, decide_eq_true rfl]
        exact iteF (c.skip (Same.refl _) rfl)
    · refine ⟨by decide, fun e1 ne1 => ?_⟩
      have s11 := s10.trans (same_upd (o := .lst []) ne1)
      refine ⟨ilD [], .list [], IL.dp (ns := []) (IL.same (same_upd ne1) hl10), lst_dp L2.upd_same, shaped_il _, shaped_nil, _, rfl, ?_⟩
      rw [eqv_il_nil]
      refine iteF (rd_next ?_)
      have s1b := s19.trans s11
      have hP11 := hP9.same s11
      have hG11 := hG9.same s11
      have hD11 := hD9.same s11
      have hV11 := hV9.same s11
      generalize L2.upd H10 e1 (.lst []) = H11 at s1b hP11 hG11 hD11 hV11 ⊢
      clear does hH9 hW9 hR9
      dsimp only
      refine rd_seq (rd_par (rd_cons ?_))
      refine ⟨.ref a, rfl, a, ps, rfl, hP11, by omega, hS.nd, fun H12 kg s12 nkg hK12 => rd_cons (rd_cb (rd_cons ?_))⟩
      refine rd_nt (s := 0) rfl (hP11.same s12) (by omega) (by show 12 < 14; decide) fun D13 H13 nD13 s13' p13 => ?_
      obtain ⟨cs, hc13, tc13⟩ := id p13
      refine ⟨D13, _, rfl, .inl (.inl (.inl hc13)), ⟨_, _, rfl, ?_⟩⟩
      rw [List.length_map, tc13.len]
      have sx := s1b.trans (s12.trans s13')
      have hP13 := hP11.same (s12.trans s13')
      have hG13 := hG11.same (s12.trans s13')
      have hD13 := hD11.same (s12.trans s13')
      have hV13 := hV11.same (s12.trans s13')
      have hK13 := hK12.same s13'
      have kV : H11 tv ≠ none := by
        obtain ⟨vs', hv', _⟩ := hV11
        rw [hv']
        simp
      clear hc13 tc13 p13 nD13
      have rr := rule_rings hg
      have big : ∀ i : Int, 0 ≤ i → i ≤ 100 → i.natAbs.log2 < 1920 := fun i h0 h1 => Nat.lt_of_le_of_lt (Nat.log2_le_self _) (by omega)
      have ntl := nt_len ps
      dsimp only
      refine rd_seq (rd_if ?_)
      refine ⟨.ref gv, rfl, gv, ps, rfl, hG13, hS, fun H14 r4 s14' nr4 hR4 => ?_⟩
      have hK14 := hK13.same s14'
      refine ⟨r4, rlD (ringsOf (nt ps)), rfl, hR4.dp, ksh, shaped_deep (shaped_rl _), rlD_deep _, Nat.le_trans kln (Nat.le_trans (show 205 * (ringsOf (nt ps)).length + 3 ≤ 9000 by omega) line9), ?_⟩
      refine ⟨.ref kg, rfl, kg, rlD (ringsOf (nt ps)), rfl, hK14.dp, ksh, shaped_deep (shaped_rl _), rlD_deep _, Nat.le_trans kln (Nat.le_trans (show 205 * (ringsOf (nt ps)).length + 3 ≤ 9000 by omega) line9), ?_⟩
      refine ⟨rfl, _, rfl, ?_⟩
      rw [decide_eq_true rfl]
      refine iteF ⟨.ref gv, rfl, gv, ps, rfl, hG13.same s14', hS, fun H15 s15 => ⟨_, rfl, big _ (by omega) (by omega), ?_⟩⟩
      have hK15 := hK14.same s15
      obtain ⟨cs, hcs, lcs⟩ := hK15.len
      refine ⟨.int ((nt ps).length : Nat), rfl, .ref kg, rfl, kg, _, rfl, .inl (.inl (.inl hcs)), _, _, rfl, rfl, _, rfl, ?_⟩
      rw [List.length_map, lcs]
      refine ⟨big _ (by omega) (by omega), rfl, _, rfl, ?_⟩
      rw [decide_eq_true rfl]
      have hD15 := hD13.same (s14'.trans s15)
      obtain ⟨ds, hds, tds⟩ := id hD15
      refine iteF ⟨.ref du, rfl, du, _, rfl, .inl (.inl (.inl hds)), .int ((nt ps).length : Nat), rfl, .ref kg, rfl, kg, _, rfl, .inl (.inl (.inl hcs)), _, _, rfl, rfl, rfl, _, rfl, ?_⟩
      rw [List.length_map, List.length_map, lcs, tds.len, rr]
      rw [decide_eq_true (by rw [Int.natCast_add] : V.int (((nt ps).length + (ringsOf (nt ps)).length : Nat) : Int) = V.int (((nt ps).length : Nat) + ((ringsOf (nt ps)).length : Nat)))]
      refine iteF (rd_next ?_)
      dsimp only
      have sy := sx.trans (s14'.trans s15)
      have hP15 := hP13.same (s14'.trans s15)
      have hG15 := hG13.same (s14'.trans s15)
      have hV15 := hV13.same (s14'.trans s15)
      clear hcs lcs hds tds
      have hD15' := hD13.same (s14'.trans s15)
      obtain ⟨vs15, hv15, tv15⟩ := id hV15
      have s02 := s1.trans s2
      have nHtv : H tv = none := s02.free ntv
      have ga : gv ≠ tv := hG2.ne ntv
      have da : du ≠ tv := hD2.ne ntv
      have aa : a ≠ tv := (hP.same s02).ne ntv
      have ka : kg ≠ tv := fun z => kV (by rw [← z]; exact nkg)
      refine rd_seq (rd_asg ⟨.ref gv, rfl, gv, ps, rfl, hG15, hS, fun H16 sh s16 nsh hS16 => ?_⟩)
      dsimp only
      obtain ⟨as16, hs16, hp16⟩ := id hS16
      obtain ⟨ls16, no16⟩ := RL.lists (n := 50) (fun r hr => (ring2 r hr).1) hp16
      have len16 : as16.length = (ringsOf (nt ps)).length := PySem.Paired.length hp16
      refine rd_seq ?_
      refine ⟨.ref sh, rfl, .ref tv, rfl, .ref sh, rfl, by show 2 ≤ sizeLine; decide, fun e2 ne2 => ?_⟩
      have s17b := same_upd (o := .lst [.ref tv, .ref sh]) ne2
      refine ⟨sh, e2, as16.map V.ref, [.ref tv, .ref sh], rfl, rfl, s17b _ _ hs16, L2.upd_same, ?_, fun lq nlq => ?_⟩
      · rw [List.length_map, len16]
        exact Nat.le_trans (show (ringsOf (nt ps)).length + 2 ≤ 9000 by omega) line9
      have exs : as16.map V.ref ++ [V.ref tv, V.ref sh] = (as16 ++ [tv, sh]).map V.ref := by rw [List.map_append]; rfl
      rw [exs]
      have all17 : Lists (L2.upd H16 e2 (.lst [.ref tv, .ref sh])) (as16 ++ [tv, sh]) 100 := fun b hb => by
        rcases List.mem_append.mp hb with e | e
        · obtain ⟨ys, h1, h2⟩ := (ls16.same s17b) b e
          exact ⟨ys, h1, by omega⟩
        · rcases List.mem_cons.mp e with e | e
          · rw [e]
            refine ⟨_, s17b _ _ (s16 _ _ hv15), ?_⟩
            rw [List.length_map, tv15.len]
            omega
          · rw [List.mem_singleton.mp e]
            refine ⟨_, s17b _ _ hs16, ?_⟩
            rw [List.length_map, len16]
            omega
      have new17 : ∀ b ∈ as16 ++ [tv, sh], b = tv ∨ H15 b = none := fun b hb => by
        rcases List.mem_append.mp hb with e | e
        · exact .inr (no16 b e)
        · rcases List.mem_cons.mp e with e | e
          · exact .inl e
          · rw [List.mem_singleton.mp e]
            exact .inr nsh
      have offq : ∀ b ∈ as16 ++ [tv, sh], b ≠ lq := fun b hb => by
        obtain ⟨ys, h1, _⟩ := all17 b hb
        exact ne_of_none h1 nlq
      have cnt : (as16 ++ [tv, sh]).length ≤ 30 := by
        rw [List.length_append, len16]
        show (ringsOf (nt ps)).length + 2 ≤ 30
        omega
      generalize as16 ++ [tv, sh] = bs at exs all17 new17 offq cnt ⊢
      have s18b := same_upd (o := .lst (bs.map V.ref)) nlq
      refine ⟨lq, rfl, ⟨_, .inl (.inl L2.upd_same)⟩, for_list (K := K) (a := lq) (xs := bs.map V.ref) (fun i σ H' => ∃ y11, σ = [some (.ref a), some (.int sp), some (.ref gv), some (.ref du), some (.ref tv), some (.ref rg), some (.ref hv), some (.ref wv), some (.ref kg), some (.int ((nt ps).length : Nat)), some (.ref sh), y11, none, none] ∧
        SameB tv H15 H' ∧ H' lq = some (.lst (bs.map V.ref)) ∧ Lists H' bs (100 + i))
        ⟨_, rfl, fun b o _ e => s18b _ _ (s17b _ _ (s16 _ _ e)), L2.upd_same, all17.same s18b⟩ (fun i σ H' _ ⟨_, _, _, hq, _⟩ => .inl (.inl hq)) ?_ ?_⟩
      · rintro i x σ H' hx ⟨y11, rfl, sb, hq, hl⟩
        rw [List.getElem?_map] at hx
        cases hb : bs[i]? with
        | none => rw [hb] at hx; cases hx
        | some b =>
          rw [hb] at hx
          obtain rfl : V.ref b = x := Option.some.inj hx
          have hmem := List.mem_of_getElem? hb
          have hil := idx_lt hb
          obtain ⟨ys, h1, h2⟩ := hl b hmem
          refine ⟨.ref b, rfl, .inl ⟨rfl, _, .inl (.inl h1)⟩, b, ys, .non, rfl, rfl, h1, Nat.lt_of_le_of_lt h2 (Nat.lt_of_lt_of_le (show 100 + i < 9000 by omega) line9), ?_⟩
          refine ⟨_, rfl, fun c o n e => ?_, ?_, hl.app h1 h2⟩
          · have nb : c ≠ b := fun z => by
              rcases new17 b hmem with q | q
              · exact n (z.trans q)
              · rw [← z, e] at q
                cases q
            rw [L2.upd_ne nb]
            exact sb c o n e
          · rw [L2.upd_ne (offq b hmem).symm]
            exact hq
      · rintro σ H' ⟨y11, rfl, sb, _, _⟩
        dsimp only
        have sH := sb.fresh sy nHtv
        have hGf := sb.pl hv15 ga hG15
        have hDf := sb.pl hv15 da hD15'
        have hPf := sb.pl hv15 aa hP15
        have hKf := hK15.off sb ka kV
        clear sb all17 new17 offq hS16 hp16 ls16 no16
        refine rd_ret ?_
        refine ⟨.ref gv, rfl, gv, ps, rfl, hGf, hS, fun J1 j1 => ?_⟩
        obtain ⟨ds, hds, tds⟩ := hDf.same j1
        refine ⟨.ref du, rfl, du, _, rfl, .inl (.inl (.inl hds)), rfl, _, rfl, ?_⟩
        rw [List.length_map, tds.len, rr]
        rw [decide_eq_true (by rw [Int.natCast_add] : V.int (((nt ps).length : Nat) + ((ringsOf (nt ps)).length : Nat)) = V.int (((nt ps).length + (ringsOf (nt ps)).length : Nat) : Int))]
        refine iteT ⟨.ref gv, rfl, .int sp, rfl, gv, ps, sp, rfl, hGf.same j1, hS, hp, fun J2 m2 j2 nm2 hM2 => ?_⟩
        refine ⟨.ref du, rfl, _, _, hM2.dp, (hDf.same (j1.trans j2)).dp, shaped_pl _, shaped_pl _, _, rfl, ?_⟩
        rw [eqv_pl]
        refine iteT ⟨.ref gv, rfl, gv, ps, rfl, hGf.same (j1.trans j2), hS, fun J3 m3 j3 nm3 hM3 => ?_⟩
        have j13 := (j1.trans j2).trans j3
        refine ⟨.ref kg, rfl, _, _, hM3.dp, (hKf.same j13).dp, shaped_rl _, shaped_rl _, _, rfl, ?_⟩
        rw [eqv_rl]
        refine iteT ⟨.ref gv, rfl, .ref a, rfl, _, _, (hGf.same j13).dp, (hPf.same j13).dp, shaped_pl _, shaped_pl _, ?_⟩
        rw [eqv_pl]
        exact q J3 (sH.trans j13)
end Ck

namespace Ck
set_option linter.all false
set_option maxRecDepth 100000
set_option maxHeartbeats 4000000
open PySem L2 Mv
abbrev sLaw : Stmt := top 28
def nLaw : List Str := ["_law_script", "_law_generator_here", "_law_most", "_law_base", "_law_free", "_law_shuffle_here", "_law_small", "_law_wheel", "_law_place", "_law_one", "_law_other", "_law_at"]
theorem scLaw : FnScope nLaw ["_law_script"] (defScope sLaw) := ⟨rfl, rfl, rfl, by decide +kernel, rfl, by decide +kernel, by decide +kernel⟩
def spLaw (K : PySem.W.Frag) : Sp := fun vs H Q _ => ∃ (a : Addr) (ns : List Int), vs = [.ref a] ∧ SqL K H a (ns.map V.int) ∧ ∀ H', Q (.bl true) H'
theorem shf_shift {b : Int} {M : Nat} {ps : List Pr} (h0 : 0 ≤ b) (h1 : b ≤ 90) (hM : M ≤ 10) (d : Drawn M ps) : Shf (shiftBy b ps) ∧ (shiftBy b ps).length ≤ 20 := by
  have hl := len_within d.nd d.k
  have hl2 : (shiftBy b ps).length = ps.length := List.length_map ..
  refine ⟨⟨fun p hp => ?_, by omega, nodup_shift d.nd⟩, by omega⟩
  obtain ⟨u, hu, rfl⟩ := List.mem_map.mp hp
  have k := d.k u hu
  have r := d.r u hu
  exact ⟨by show 0 ≤ u.1 + b; omega, by show u.1 + b ≤ 99; omega, by show 0 ≤ u.2 + b; omega, by show u.2 + b ≤ 99; omega⟩
theorem spr_shift {b x : Int} {M : Nat} {ps : List Pr} (hM : M ≤ 10) (d : Drawn M ps) (hx : x ∈ freeL b 100) : Spr x (shiftBy b ps) := by
  obtain ⟨x0, x1, x2⟩ := mem_freeL hx
  refine ⟨x0, x1, fun h => ?_, fun h => ?_⟩
  · obtain ⟨v, hv⟩ := of_keys h
    obtain ⟨u, hu, e⟩ := List.mem_map.mp hv
    have k := d.k u hu
    have e1 : u.1 + b = x := congrArg Prod.fst e
    exact x2 ⟨by omega, by omega⟩
  · obtain ⟨v, hv⟩ := of_reads h
    obtain ⟨u, hu, e⟩ := List.mem_map.mp hv
    have k := d.r u hu
    have e1 : u.2 + b = x := congrArg Prod.snd e
    exact x2 ⟨by omega, by omega⟩
theorem good_nine {ps : List Pr} (d : Drawn 3 ps) : Good 9 (nt ps) := by
  refine ⟨nd_nt d.nd, fun p hp => (nt_sub hp).2, fun h => ?_⟩
  obtain ⟨v, hv⟩ := of_keys (keys_nt h)
  have k := (d.k _ hv).2
  have : (9 : Int) < ((3 : Nat) : Int) := k
  omega
def lstA : List Pr := [(0, 1), (1, 0), (2, 0)]
def lstB : List Pr := [(0, 1), (1, 0)]
theorem shfA : Shf lstA ∧ Spr 9 lstA := ⟨⟨by unfold Regs; decide +kernel, by decide +kernel, by decide +kernel⟩, ⟨by decide, by decide, by decide +kernel, by decide +kernel⟩⟩
theorem shfB : Shf lstB ∧ Spr 9 lstB := ⟨⟨by unfold Regs; decide +kernel, by decide +kernel, by decide +kernel⟩, ⟨by decide, by decide, by decide +kernel, by decide +kernel⟩⟩
theorem shfC : Shf [] ∧ Spr 0 [] := ⟨⟨by unfold Regs; decide +kernel, by decide +kernel, by decide +kernel⟩, ⟨by decide, by decide, by decide +kernel, by decide +kernel⟩⟩
theorem shfD : Shf [(5, 5)] ∧ Spr 0 [(5, 5)] := ⟨⟨by unfold Regs; decide +kernel, by decide +kernel, by decide +kernel⟩, ⟨by decide, by decide, by decide +kernel, by decide +kernel⟩⟩
theorem shfW : Shf wheel ∧ Spr 99 wheel := ⟨⟨by unfold Regs; decide +kernel, by decide +kernel, by decide +kernel⟩, ⟨by decide, by decide, by decide +kernel, by decide +kernel⟩⟩
theorem pl3 {H : Hp} {t1 t2 t3 l : Addr} {a b c d e f : Int} (n1 : H t1 = none) (n2 : (L2.upd H t1 (.tup [.int a, .int b])) t2 = none) (n3 : (L2.upd (L2.upd H t1 (.tup [.int a, .int b])) t2 (.tup [.int c, .int d])) t3 = none)
    (n4 : (L2.upd (L2.upd (L2.upd H t1 (.tup [.int a, .int b])) t2 (.tup [.int c, .int d])) t3 (.tup [.int e, .int f])) l = none) :
    PL (L2.upd (L2.upd (L2.upd (L2.upd H t1 (.tup [.int a, .int b])) t2 (.tup [.int c, .int d])) t3 (.tup [.int e, .int f])) l (.lst [.ref t1, .ref t2, .ref t3])) l [(a, b), (c, d), (e, f)] ∧
    Same H (L2.upd (L2.upd (L2.upd (L2.upd H t1 (.tup [.int a, .int b])) t2 (.tup [.int c, .int d])) t3 (.tup [.int e, .int f])) l (.lst [.ref t1, .ref t2, .ref t3])) := by
  have s1 := same_upd (o := .tup [.int a, .int b]) n1
  have s2 := same_upd (o := .tup [.int c, .int d]) n2
  have s3 := same_upd (o := .tup [.int e, .int f]) n3
  have s4 := same_upd (o := .lst [.ref t1, .ref t2, .ref t3]) n4
  exact ⟨⟨[t1, t2, t3], L2.upd_same, .cons (s4 _ _ (s3 _ _ (s2 _ _ L2.upd_same))) (.cons (s4 _ _ (s3 _ _ L2.upd_same)) (.cons (s4 _ _ L2.upd_same) .nil))⟩, ((s1.trans s2).trans s3).trans s4⟩
theorem pl2 {H : Hp} {t1 t2 l : Addr} {a b c d : Int} (n1 : H t1 = none) (n2 : (L2.upd H t1 (.tup [.int a, .int b])) t2 = none) (n4 : (L2.upd (L2.upd H t1 (.tup [.int a, .int b])) t2 (.tup [.int c, .int d])) l = none) :
    PL (L2.upd (L2.upd (L2.upd H t1 (.tup [.int a, .int b])) t2 (.tup [.int c, .int d])) l (.lst [.ref t1, .ref t2])) l [(a, b), (c, d)] ∧
    Same H (L2.upd (L2.upd (L2.upd H t1 (.tup [.int a, .int b])) t2 (.tup [.int c, .int d])) l (.lst [.ref t1, .ref t2])) := by
  have s1 := same_upd (o := .tup [.int a, .int b]) n1
  have s2 := same_upd (o := .tup [.int c, .int d]) n2
  have s4 := same_upd (o := .lst [.ref t1, .ref t2]) n4
  exact ⟨⟨[t1, t2], L2.upd_same, .cons (s4 _ _ (s2 _ _ L2.upd_same)) (.cons (s4 _ _ L2.upd_same) .nil)⟩, (s1.trans s2).trans s4⟩
theorem pl1 {H : Hp} {t1 l : Addr} {a b : Int} (n4 : (L2.upd H t1 (.tup [.int a, .int b])) l = none) : PL (L2.upd (L2.upd H t1 (.tup [.int a, .int b])) l (.lst [.ref t1])) l [(a, b)] :=
  ⟨[t1], L2.upd_same, .cons (same_upd (o := .lst [.ref t1]) n4 _ _ L2.upd_same) .nil⟩
theorem wheel_at {i : Nat} (h : i < 40) : wheel.take (i + 1) = wheel.take i ++ [((i : Int), ((i : Int) + 1) % 40)] := by
  have e : wheel[i]? = some ((i : Int), ((i : Int) + 1) % 40) := by
    unfold wheel
    rw [List.getElem?_map, List.getElem?_range h]
    rfl
  rw [List.take_add_one, e]
  rfl
theorem wheel_len : wheel.length = 40 := rfl
variable {P : Program} {w : World} {K : PySem.W.Frag} {mg : Str → Option Value} {base : Heap}
theorem ok_law {f f1 f2 f3 f4 f5 f6 f7 f8 : Addr} {fd fd1 fd2 fd3 fd4 fd5 fd6 fd7 fd8 : FuncData} (F : Fun K "law" "law" sLaw f fd) (T : Txt mg)
    (G1 : FnOk P w K mg base CX0 1 f1 fd1 ["_law_shuffle_here", "_law_spare"] spLRule) (h1 : Here K mg "_law_rule" f1 fd1 ["_law_shuffle_here", "_law_spare"])
    (G2 : FnOk P w K mg base CX0 5 f2 fd2 ["shuffle", "spare"] spMoves) (h2 : Here K mg "moves" f2 fd2 ["shuffle", "spare"])
    (G3 : FnOk P w K mg base CX0 5 f3 fd3 ["shuffle"] spRings) (h3 : Here K mg "rings" f3 fd3 ["shuffle"])
    (G4 : FnSt P w K mg base 6 f4 fd4 ["_law_shuffle_here", "_law_spare"] spRight) (h4 : Here K mg "_law_right" f4 fd4 ["_law_shuffle_here", "_law_spare"])
    (G5 : FnOk P w K mg base CX0 2 f5 fd5 ["_law_script", "_law_index"] (spGen K)) (h5 : Here K mg "_law_generator" f5 fd5 ["_law_script", "_law_index"])
    (G6 : FnOk P w K mg base CX0 2 f6 fd6 ["_law_generator_here", "_law_bound"] spRandom) (h6 : Here K mg "_law_random" f6 fd6 ["_law_generator_here", "_law_bound"])
    (G7 : FnOk P w K mg base CX0 3 f7 fd7 ["_law_generator_here", "_law_most"] spShuf) (h7 : Here K mg "_law_shuffle" f7 fd7 ["_law_generator_here", "_law_most"])
    (G8 : FnOk P w K mg base CX0 1 f8 fd8 ["_law_shuffle_here", "_law_spare", "_law_registers"] spShort) (h8 : Here K mg "_law_shortest" f8 fd8 ["_law_shuffle_here", "_law_spare", "_law_registers"]) :
    FnSt P w K mg base 7 f fd ["_law_script"] (spLaw K) := by
  refine still_fn F scLaw (fun vs H Q E h => ?_) (fun cdv A outer s H vs Q E hs hr h => ?_)
  · obtain ⟨a, ns, rfl, _⟩ := h
    rfl
  · obtain ⟨a, ns, rfl, hA, q⟩ := h
    have r1 := hr.mono (j := 1) (by decide)
    have r2 := hr.mono (j := 2) (by decide)
    have r3 := hr.mono (j := 3) (by decide)
    have r5 := hr.mono (j := 5) (by decide)
    refine ⟨_, pss_cons (ps_set (i := 1) scLaw.nd rfl (Or.inl rfl) (pe_call G5 r2 (by rfl) h5.g h5.k h5.b .nil pass0 (pa_cons (pv 0) (pa_cons pe_int pa_nil))))
      (pss_cons (ps_for PassesOwn.never rfl (pi_list (pe_lst (pa_cons pe_int (pa_cons pe_int (pa_cons pe_int pa_nil))))) (pg_name (i := 2) scLaw.nd rfl (Or.inl rfl))
        (pss_cons (ps_set (i := 3) scLaw.nd rfl (Or.inr rfl) (pe_ix (r := rIxL K) ix_list (pe_lst (pa_cons pe_int (pa_cons (pe_call G6 r2 (by rfl) h6.g h6.k h6.b .nil pass0 (pa_cons (pv 1) (pa_cons pe_int pa_nil))) (pa_cons pe_int pa_nil))))
            (pe_call G6 r2 (by rfl) h6.g h6.k h6.b .nil pass0 (pa_cons (pv 1) (pa_cons pe_int pa_nil))) (fun _ _ => rfl)))
        (pss_cons (ps_setLc (i := 4) (own := [("_law_place", 8)]) (g := gName 8) rfl scLaw.nd rfl rfl (sw_true rfl rfl rfl (by decide +kernel)) (pi_range1 (by rfl) T.range (pa_cons pe_int pa_nil))
            (blkOk_by (own := [("_law_place", 8)]) (N := nLaw) (sc := defScope sLaw) (by decide +kernel)) (fun _ _ _ _ _ => pg_name (i := 8) scLaw.nd rfl (Or.inl rfl))
            (fun _ _ _ _ _ => pts_one (pt_not (pt_chain op_le op_lt (pv 3) (pv 8) (pe_op op_add (pv 3) pe_int)))) (fun _ _ _ _ _ => pv 8))
        (pss_cons (ps_setLc (i := 5) (own := [("_law_one", 9), ("_law_other", 10)]) (g := gTup K 2 (gCons (gName 9) (gCons (gName 10) gNil))) rfl scLaw.nd rfl rfl (sw_true rfl rfl rfl (by decide +kernel))
            (pi_list (pe_call G7 r3 (by rfl) h7.g h7.k h7.b .nil pass0 (pa_cons (pv 1) (pa_cons (pv 2) pa_nil))))
            (blkOk_by (own := [("_law_one", 9), ("_law_other", 10)]) (N := nLaw) (sc := defScope sLaw) (by decide +kernel))
            (fun _ _ _ _ _ => pg_tup rfl (pgs_cons (pg_name (i := 9) scLaw.nd rfl (Or.inl rfl)) (pgs_cons (pg_name (i := 10) scLaw.nd rfl (Or.inl rfl)) pgs_nil)))
            (fun _ _ _ _ _ => pts_nil) (fun _ _ _ _ _ => pe_tup (pa_cons (pe_op op_add (pv 9) (pv 3)) (pa_cons (pe_op op_add (pv 10) (pv 3)) pa_nil))))
        (pss_one (ps_if (pt_not (pt_val (pe_callSt G4 hs hr (by rfl) h4.g h4.k h4.b pass0 (pa_cons (pv 5) (pa_cons (pe_ix (r := rIxL K) ix_list (pv 4)
              (pe_call G6 r2 (by rfl) h6.g h6.k h6.b .nil pass0 (pa_cons (pv 1) (pa_cons (pe_callB (r := rLenS K) call_len_seq (by rfl) T.len PySem.boot_len (pa_cons (pv 4) pa_nil)) pa_nil))) (fun _ _ => rfl)) pa_nil)))))
            (pss_one (ps_ret pe_bl)) pss_nil))))))
      (pss_cons (ps_set (i := 6) scLaw.nd rfl (Or.inl rfl) (pe_call G7 r3 (by rfl) h7.g h7.k h7.b .nil pass0 (pa_cons (pv 1) (pa_cons pe_int pa_nil))))
      (pss_cons (ps_if (pt_cmpR op_ne (pe_call G8 r1 (by rfl) h8.g h8.k h8.b .nil pass0 (pa_cons (pv 6) (pa_cons pe_int (pa_cons (pe_lst (pa_cons pe_int (pa_cons pe_int (pa_cons pe_int (pa_cons pe_int pa_nil))))) pa_nil))))
            (pe_callB call_len_seq (by rfl) T.len PySem.boot_len (pa_cons (pe_call G1 r1 (by rfl) h1.g h1.k h1.b .nil pass0 (pa_cons (pv 6) (pa_cons pe_int pa_nil))) pa_nil)) (nomark _)) (pss_one (ps_ret pe_bl)) pss_nil)
      (pss_cons (ps_if (PW.pt (pw_or (pt_cmpR (op_neD hr.units) (pe_call G2 r5 (by rfl) h2.g h2.k h2.b .nil pass0 (pa_cons (pe_lst (pa_cons (pe_tup (pa_cons pe_int (pa_cons pe_int pa_nil))) (pa_cons (pe_tup (pa_cons pe_int (pa_cons pe_int pa_nil))) (pa_cons (pe_tup (pa_cons pe_int (pa_cons pe_int pa_nil))) pa_nil)))) (pa_cons pe_int pa_nil)))
              (pe_lst (pa_cons (pe_tup (pa_cons pe_int (pa_cons pe_int pa_nil))) (pa_cons (pe_tup (pa_cons pe_int (pa_cons pe_int pa_nil))) (pa_cons (pe_tup (pa_cons pe_int (pa_cons pe_int pa_nil))) pa_nil)))) (nomark _))
            (pw_or1 (pt_cmpR (op_neD hr.units) (pe_call G2 r5 (by rfl) h2.g h2.k h2.b .nil pass0 (pa_cons (pe_lst (pa_cons (pe_tup (pa_cons pe_int (pa_cons pe_int pa_nil))) (pa_cons (pe_tup (pa_cons pe_int (pa_cons pe_int pa_nil))) pa_nil))) (pa_cons pe_int pa_nil)))
              (pe_lst (pa_cons (pe_tup (pa_cons pe_int (pa_cons pe_int pa_nil))) (pa_cons (pe_tup (pa_cons pe_int (pa_cons pe_int pa_nil))) (pa_cons (pe_tup (pa_cons pe_int (pa_cons pe_int pa_nil))) pa_nil)))) (nomark _))))) (pss_one (ps_ret pe_bl)) pss_nil)
      (pss_cons (ps_setLc (i := 7) (own := [("_law_at", 11)]) (g := gName 11) rfl scLaw.nd rfl rfl (sw_true rfl rfl rfl (by decide +kernel)) (pi_range1 (by rfl) T.range (pa_cons pe_int pa_nil))
          (blkOk_by (own := [("_law_at", 11)]) (N := nLaw) (sc := defScope sLaw) (by decide +kernel)) (fun _ _ _ _ _ => pg_name (i := 11) scLaw.nd rfl (Or.inl rfl)) (fun _ _ _ _ _ => pts_nil)
          (fun _ _ _ _ _ => pe_tup (pa_cons (pv 11) (pa_cons (pe_op op_mod (pe_callTy call_int1 (by rfl) T.int (by decide +kernel) (pa_cons (pe_op op_add (pv 11) pe_int) pa_nil)) pe_int) pa_nil))))
      (pss_one (ps_ret (pe_and (pe_cmpR op_eq (pe_callB call_len_seq (by rfl) T.len PySem.boot_len (pa_cons (pe_call G2 r5 (by rfl) h2.g h2.k h2.b .nil pass0 (pa_cons (pv 7) (pa_cons pe_int pa_nil))) pa_nil)) pe_int (nomark _))
        (pe_and (pe_cmpR (op_eqD hr.units) (pe_call G3 r5 (by rfl) h3.g h3.k h3.b .nil pass0 (pa_cons (pv 7) pa_nil)) (pe_lst (pa_cons (pe_listRg rfl (by rfl) T.list (prg_1 (by rfl) T.range pe_int)) pa_nil)) (nomark _))
        (pe_and (pe_cmpR (op_eqD hr.units) (pe_call G2 r5 (by rfl) h2.g h2.k h2.b .nil pass0 (pa_cons (pe_lst pa_nil) (pa_cons pe_int pa_nil))) (pe_lst pa_nil) (nomark _))
        (pe_one (pe_cmpR (op_eqD hr.units) (pe_call G2 r5 (by rfl) h2.g h2.k h2.b .nil pass0 (pa_cons (pe_lst (pa_cons (pe_tup (pa_cons pe_int (pa_cons pe_int pa_nil))) pa_nil)) (pa_cons pe_int pa_nil))) (pe_lst pa_nil) (nomark _))))))))))))), ?_⟩
    refine rd_seq (rd_asg ⟨.ref a, rfl, a, ns, rfl, hA, fun g H1 s1 ng hG1 => ?_⟩)
    dsimp only
    refine rd_seq ?_
    refine ⟨by show 3 ≤ sizeLine; decide, fun lq nlq => ?_⟩
    have gq : g ≠ lq := by
      obtain ⟨xs, h⟩ := hG1.lst
      exact ne_of_none h nlq
    have hG2 := hG1.same (same_upd (o := .lst [.int 3, .int 6, .int 10]) nlq)
    refine ⟨lq, rfl, ⟨_, .inl (.inl L2.upd_same)⟩, for_list (K := K) (a := lq) (xs := [.int 3, .int 6, .int 10]) (fun i σ H' => ∃ (y2 y3 y4 y5 : Option V) (n : Nat), σ = [some (.ref a), some (.ref g), y2, y3, y4, y5, none, none, none, none, none, none] ∧
        H' lq = some (.lst [.int 3, .int 6, .int 10]) ∧ GenAt H' g n ∧ n ≤ 100 * i)
      ⟨_, _, _, _, 0, rfl, L2.upd_same, hG2, by omega⟩ (fun i σ H' _ ⟨_, _, _, _, _, _, hq, _⟩ => .inl (.inl hq)) ?_ ?_⟩
    · rintro i x σ H' hx ⟨y2, y3, y4, y5, n, rfl, hq, hG, hn⟩
      have hi3 := idx_lt hx
      have hM : ∃ M : Nat, x = .int (M : Nat) ∧ 1 ≤ M ∧ M ≤ 10 := by
        match i, hx with
        | 0, hx => exact ⟨3, (Option.some.inj hx).symm, by decide, by decide⟩
        | 1, hx => exact ⟨6, (Option.some.inj hx).symm, by decide, by decide⟩
        | 2, hx => exact ⟨10, (Option.some.inj hx).symm, by decide, by decide⟩
      obtain ⟨M, rfl, hM1, hM2⟩ := hM
      have hi : i < 3 := hi3
      refine rd_seq (rd_asg (rd_op ?_))
      refine ⟨.ref g, rfl, g, 90, n, rfl, hG, by omega, by decide, by decide, fun r H2 sb2 G2' z0 z1 => ⟨by show 3 ≤ sizeLine; decide, fun e1 ne1 => ?_⟩⟩
      have q2 := sb2 _ _ gq.symm hq
      have G3' := G2'.same (same_upd (o := .lst [.int 0, .int r, .int 90]) ne1)
      have q3 := same_upd (o := .lst [.int 0, .int r, .int 90]) ne1 _ _ q2
      have e13 : (L2.upd H2 e1 (.lst [.int 0, .int r, .int 90])) e1 = some (.lst [.int 0, .int r, .int 90]) := L2.upd_same
      have ge1 : g ≠ e1 := by
        obtain ⟨xs, h⟩ := G2'.lst
        exact ne_of_none h ne1
      generalize L2.upd H2 e1 (.lst [.int 0, .int r, .int 90]) = H3 at G3' q3 e13 ⊢
      refine ⟨.ref g, rfl, g, 3, n + 1, rfl, G3', by omega, by decide, by decide, fun r2 H4 sb4 G4' y0 y1 => ?_⟩
      have q4 := sb4 _ _ gq.symm q3
      have e14 := sb4 _ _ ge1.symm e13
      have hb : ∃ b : Int, (0 ≤ b ∧ b ≤ 90) ∧ atI [V.int 0, V.int r, V.int 90] r2 = some (V.int b) := by
        have e : r2 = 0 ∨ r2 = 1 ∨ r2 = 2 := by omega
        rcases e with e | e | e
        · exact ⟨0, by omega, by rw [e]; exact atI_nat (j := 0) rfl⟩
        · exact ⟨r, by omega, by rw [e]; exact atI_nat (j := 1) rfl⟩
        · exact ⟨90, by omega, by rw [e]; exact atI_nat (j := 2) rfl⟩
      obtain ⟨b, ⟨b0, b1⟩, hat⟩ := hb
      refine ⟨e1, _, r2, .int b, rfl, rfl, .inl (.inl e14), hat, ?_⟩
      dsimp only
      refine rd_seq (rd_asg ?_)
      refine ⟨_, rfl, by decide, by decide, fun D nD => ?_⟩
      have gD : g ≠ D := by
        obtain ⟨xs, h⟩ := G4'.lst
        exact ne_of_none h nD
      refine lc_range (lo := 0) (n := 100) (CI H4 D (freeL b)) (CI.start nD rfl) (fun j H' hj c => ?_) (fun H5 c => ?_)
      · have ez : (0 : Int) + (j : Int) = (j : Int) := Int.zero_add _
        rw [ez]
        refine ⟨rfl, .int b, rfl, .int (j : Int), rfl, b, (j : Int), rfl, rfl, decide (b ≤ (j : Int)), rfl, ?_⟩
        by_cases c1 : b ≤ (j : Int)
        · rw [decide_eq_true c1]
          refine iteT ⟨.int b, rfl, _, _, rfl, rfl, (j : Int), b + 10, rfl, rfl, _, rfl, ?_⟩
          by_cases c2 : (j : Int) < b + 10
          · rw [decide_eq_true c2]
            exact iteF (c.skip (Same.refl _) (freeL_f (by unfold outside; rw [decide_eq_true c1, decide_eq_true c2]; rfl)))
          · rw [decide_eq_false c2]
            exact iteT ⟨.int (j : Int), rfl, c.push nD (Same.refl _) (Nat.lt_trans hj (by decide)) (freeL_t (by unfold outside; rw [decide_eq_true c1, decide_eq_false c2]; rfl))⟩
        · rw [decide_eq_false c1]
          exact iteF ⟨_, rfl, iteT ⟨.int (j : Int), rfl, c.push nD (Same.refl _) (Nat.lt_trans hj (by decide)) (freeL_t (by unfold outside; rw [decide_eq_false c1]; rfl))⟩⟩
      · have s5 : Same H4 H5 := c.1
        have hF5 : IL H5 D (freeL b 100) := c.2.1
        have G5' := G4'.same s5
        have q5 := s5 _ _ q4
        dsimp only
        refine rd_seq (rd_asg ?_)
        refine ⟨.ref g, rfl, .int (M : Nat), rfl, g, M, n + 1 + 1, rfl, G5', by omega, hM1, by omega, fun H6 p ps sb6 np G6' hPs dr => ?_⟩
        have hF6 := sb6.il gD.symm hF5
        have q6 := sb6 _ _ gq.symm q5
        obtain ⟨as6, hSq, hT6⟩ := hPs.sq (K := K)
        have pl := len_within dr.nd dr.k
        refine ⟨p, rfl, ⟨_, hSq⟩, fun D2 nD2 => ?_⟩
        have gD2 : g ≠ D2 := by
          obtain ⟨xs, h⟩ := G6'.lst
          exact ne_of_none h nD2
        refine lc_list (K := K) (a := p) (xs := as6.map V.ref) (CP H6 D2 (fun i => shiftBy b (ps.take i))) (CP.start nD2 rfl) (fun i H _ c => c.sql hSq) (fun i x H' hx c => ?_) (fun H7 c => ?_)
        · obtain ⟨t, p', rfl, hp', ht'⟩ := hT6.get hx
          refine ⟨t, _, rfl, .inl (.inl (c.1 _ _ ht')), rfl, _, _, rfl, _, _, rfl, rfl, rfl, .int p'.1, rfl, .int b, rfl, _, _, rfl, rfl, .int p'.2, rfl, .int b, rfl, _, _, rfl, rfl, by show 2 ≤ sizeLine; decide, fun t' nt' => ?_⟩
          have hil := idx_lt hp'
          exact c.push nD2 (same_upd nt') (Nat.lt_of_lt_of_le (show i < 9000 by omega) line9) (p := (p'.1 + b, p'.2 + b)) L2.upd_same (take_succ_map _ hp')
        · have s7 : Same H6 H7 := c.1
          have hl7 : PL H7 D2 (shiftBy b ps) := by
            have h : PL H7 D2 (shiftBy b (ps.take (as6.map V.ref).length)) := c.2.1
            rw [List.length_map, hT6.len, List.take_length] at h
            exact h
          have hF7 := hF6.same s7
          have q7 := s7 _ _ q6
          have G7' := G6'.same s7
          obtain ⟨hShf, hfew⟩ := shf_shift b0 b1 (by omega) dr
          have hpos := freeL_pos b0 b1
          have hmax := freeL_len b 100
          dsimp only
          refine rd_if ?_
          refine ⟨.ref D2, rfl, .ref D, rfl, .ref g, rfl, .ref D, rfl, D, _, rfl, .inl (.inl (.inl hF7)), ?_⟩
          rw [List.length_map]
          refine ⟨g, _, _, rfl, G7', by omega, by omega, by omega, fun r5 H8 sb8 G8' x0 x1 => ?_⟩
          have e5 : r5 = ((r5.toNat : Nat) : Int) := by omega
          have hlt : r5.toNat < (freeL b 100).length := by omega
          have hF8 := sb8.il gD.symm hF7
          have q8 := sb8 _ _ gq.symm q7
          have hl8 : PL H8 D2 (shiftBy b ps) := by
            obtain ⟨xs, h⟩ := G7'.lst
            exact sb8.pl h gD2.symm hl7
          refine ⟨D, _, r5, .int (freeL b 100)[r5.toNat], rfl, rfl, .inl (.inl hF8), ?_, ?_⟩
          · have at5 : atI ((freeL b 100).map V.int) ((r5.toNat : Nat) : Int) = some (V.int (freeL b 100)[r5.toNat]) := atI_nat (by rw [List.getElem?_map, List.getElem?_eq_getElem hlt]; rfl)
            rw [← e5] at at5
            exact at5
          · refine ⟨D2, shiftBy b ps, _, rfl, hl8, hShf, spr_shift (by omega) dr (List.getElem_mem hlt), hfew, fun H9 s9 => ⟨true, rfl, ?_⟩⟩
            exact iteF ⟨_, _, _, _, _, rfl, s9 _ _ q8, G8'.same s9, by omega⟩
    · rintro σ H' ⟨y2, y3, y4, y5, n, rfl, hq, hG, hn⟩
      have hn' : n ≤ 300 := hn
      dsimp only
      refine rd_seq (rd_asg ⟨.ref g, rfl, g, 3, n, rfl, hG, by omega, by decide, by decide, fun H2 p ps sb2 np G2' hPs dr => ?_⟩)
      dsimp only
      refine rd_seq (rd_if ?_)
      refine ⟨.ref p, rfl, by show 4 ≤ sizeLine; decide, fun rg nrg => ?_⟩
      have s3 := same_upd (o := .lst [.int 0, .int 1, .int 2, .int 9]) nrg
      have k3 : ∀ u ∈ ps, 0 ≤ u.1 ∧ u.1 < 3 := fun u hu => dr.k u hu
      have v3 : ∀ u ∈ ps, 0 ≤ u.2 ∧ u.2 < 3 := fun u hu => dr.r u hu
      have pl := len_within dr.nd dr.k
      refine ⟨p, rg, ps, (rule 9 ps).length, rfl, hPs.same s3, dr.nd, L2.upd_same, small_ok dr.nd k3 v3, fun H4 s4 => ?_⟩
      have hP4 := (hPs.same s3).same s4
      refine ⟨.ref p, rfl, p, ps, 9, rfl, hP4, by omega, good_nine dr, fun H5 l5 s5 nl5 hL5 => ?_⟩
      obtain ⟨cs, hcs, tcs⟩ := id hL5
      refine ⟨l5, _, rfl, .inl (.inl (.inl hcs)), rfl, _, rfl, ?_⟩
      rw [List.length_map, tcs.len, decide_eq_true rfl]
      refine iteF (rd_next ?_)
      dsimp only
      refine rd_seq (rd_if ?_)
      refine ⟨by show 2 ≤ sizeLine; decide, fun t1 n1 => ⟨by show 2 ≤ sizeLine; decide, fun t2 n2 => ⟨by show 2 ≤ sizeLine; decide, fun t3 n3 => ⟨by show 3 ≤ sizeLine; decide, fun la nla => ?_⟩⟩⟩⟩
      refine ⟨la, lstA, 9, rfl, (pl3 n1 n2 n3 nla).1, shfA.1, shfA.2, fun H6 m6 s6 nm6 hM6 => ?_⟩
      refine ⟨by show 2 ≤ sizeLine; decide, fun t4 n4 => ⟨by show 2 ≤ sizeLine; decide, fun t5 n5 => ⟨by show 2 ≤ sizeLine; decide, fun t6 n6 => ⟨by show 3 ≤ sizeLine; decide, fun lb nlb => ?_⟩⟩⟩⟩
      have x1 := pl3 n4 n5 n6 nlb
      refine ⟨_, _, (hM6.same x1.2).dp, x1.1.dp, shaped_pl _, shaped_pl _, _, rfl, ?_⟩
      rw [show rule 9 lstA = [(2, 0), (0, 1), (1, 2)] from rule_a, eqv_pl]
      refine iteF ⟨by show 2 ≤ sizeLine; decide, fun t1 n1 => ⟨by show 2 ≤ sizeLine; decide, fun t2 n2 => ⟨by show 2 ≤ sizeLine; decide, fun lc nlc => ?_⟩⟩⟩
      refine ⟨lc, lstB, 9, rfl, (pl2 n1 n2 nlc).1, shfB.1, shfB.2, fun H7 m7 s7 nm7 hM7 => ?_⟩
      refine ⟨by show 2 ≤ sizeLine; decide, fun t4 n4 => ⟨by show 2 ≤ sizeLine; decide, fun t5 n5 => ⟨by show 2 ≤ sizeLine; decide, fun t6 n6 => ⟨by show 3 ≤ sizeLine; decide, fun ld nld => ?_⟩⟩⟩⟩
      have x2 := pl3 n4 n5 n6 nld
      refine ⟨_, _, (hM7.same x2.2).dp, x2.1.dp, shaped_pl _, shaped_pl _, _, rfl, ?_⟩
      rw [show rule 9 lstB = [(9, 0), (0, 1), (1, 9)] from rule_b, eqv_pl]
      refine iteF (rd_next ?_)
      dsimp only
      generalize L2.upd _ ld _ = H8
      refine rd_seq (rd_asg ?_)
      refine ⟨_, rfl, by decide, by decide, fun D nD => ?_⟩
      refine lc_range (lo := 0) (n := 40) (CP H8 D (fun i => wheel.take i)) (CP.start nD rfl) (fun j H' hj c => ?_) (fun H9 c => ?_)
      · have ez : (0 : Int) + (j : Int) = (j : Int) := Int.zero_add _
        rw [ez]
        refine ⟨rfl, .int (j : Int), rfl, .int (j : Int), rfl, _, _, rfl, rfl, .inl ⟨_, rfl, _, _, rfl, rfl, by show (0 : Int) < 40; decide, by show 2 ≤ sizeLine; decide, fun t nt => ?_⟩⟩
        exact c.push nD (same_upd nt) (Nat.lt_trans hj (by decide)) (p := ((j : Int), ((j : Int) + 1) % 40)) L2.upd_same (wheel_at hj)
      · have hW : PL H9 D wheel := c.2.1
        dsimp only
        refine rd_ret ?_
        refine ⟨.ref D, rfl, D, wheel, 99, rfl, hW, shfW.1, shfW.2, fun J1 m1 j1 nm1 hM1 => ?_⟩
        obtain ⟨ds, hds, tds⟩ := id hM1
        refine ⟨m1, _, rfl, .inl (.inl (.inl hds)), rfl, _, rfl, ?_⟩
        rw [List.length_map, tds.len, wheel_rule]
        refine iteT ⟨.ref D, rfl, D, wheel, rfl, hW.same j1, shfW.1, fun J2 m2 j2 nm2 hM2 => ?_⟩
        refine ⟨_, rfl, RgOk.of_le (by decide) (by decide) (by decide) (by decide), fun lr nlr => ⟨by show 1 ≤ sizeLine; decide, fun l3 nl3 => ?_⟩⟩
        have y1 := same_upd (o := .lst (rgV 0 40)) nlr
        have y2 := same_upd (o := .lst [.ref lr]) nl3
        have hI : IL (L2.upd (L2.upd J2 lr (.lst (rgV 0 40))) l3 (.lst [.ref lr])) lr (firstN 40) := by
          unfold IL
          refine y2 _ _ ?_
          rw [L2.upd_same]
          exact congrArg (fun z => some (HO.lst z)) (rgV_upTo 40)
        refine ⟨_, rlD [firstN 40], (hM2.same (y1.trans y2)).dp, .lst (.inl (.inl L2.upd_same)) (.cons hI.dp .nil), shaped_rl _, shaped_rl _, _, rfl, ?_⟩
        rw [wheel_rings, eqv_rl]
        refine iteT ⟨by show 0 ≤ sizeLine; decide, fun l4 nl4 => ?_⟩
        refine ⟨l4, [], 0, rfl, PL.nil L2.upd_same, shfC.1, shfC.2, fun J3 m3 j3 nm3 hM3 => ⟨by show 0 ≤ sizeLine; decide, fun l5 nl5 => ?_⟩⟩
        refine ⟨_, _, (hM3.same (same_upd nl5)).dp, lst_dp L2.upd_same, shaped_pl _, shaped_nil, _, rfl, ?_⟩
        rw [rule_c, eqv_pl_nil]
        refine iteT ⟨by show 2 ≤ sizeLine; decide, fun t7 n7 => ⟨by show 1 ≤ sizeLine; decide, fun l6 nl6 => ?_⟩⟩
        refine ⟨l6, [(5, 5)], 0, rfl, pl1 nl6, shfD.1, shfD.2, fun J4 m4 j4 nm4 hM4 => ⟨by show 0 ≤ sizeLine; decide, fun l7 nl7 => ?_⟩⟩
        refine ⟨_, _, (hM4.same (same_upd nl7)).dp, lst_dp L2.upd_same, shaped_pl _, shaped_nil, ?_⟩
        rw [rule_d, eqv_pl_nil]
        exact q _
end Ck

namespace Ck
set_option linter.all false
set_option maxRecDepth 100000
set_option maxHeartbeats 4000000
open PySem L2 Mv
/-- shuffle and spare by name, the spare first -/
theorem names2 {K : PySem.W.Frag} {fd : FuncData} (b0 : ∀ a b : Value, bindArgs fd ⟨[], [(("spare" : Str), a), (("shuffle" : Str), b)]⟩ = pure [(("shuffle" : Str), b), (("spare" : Str), a)]) (b1 : ∀ a b : Value, bindArgs fd ⟨[a], [(("spare" : Str), b)]⟩ = pure [(("shuffle" : Str), a), (("spare" : Str), b)])
    (b2 : ∀ a b : Value, bindArgs fd ⟨[a, b], []⟩ = pure [(("shuffle" : Str), a), (("spare" : Str), b)]) : KBinds K fd ["shuffle", "spare"] ["spare", "shuffle"] gRev gRev := by
  refine ⟨fun s us ws _ hl => ?_, fun r rz => r.append rz.reverse⟩
  unfold gRev at hl ⊢
  rw [List.length_append, List.length_reverse] at hl
  match us, ws, hl with
  | [], [a, b], _ => exact .of_eq (b0 a b)
  | [a], [b], _ => exact .of_eq (b1 a b)
  | [a, b], [], _ => exact .of_eq (b2 a b)
  | [], [], hl => exact absurd hl (by simp)
  | [], [_], hl => exact absurd hl (by simp)
  | [], _ :: _ :: _ :: _, hl => exact absurd hl (by simp)
  | [_], [], hl => exact absurd hl (by simp)
  | [_], _ :: _ :: _, hl => exact absurd hl (by simp; omega)
  | [_, _], _ :: _, hl => exact absurd hl (by simp)
  | _ :: _ :: _ :: _, _, hl => exact absurd hl (by simp; omega)
theorem names1 {K : PySem.W.Frag} {fd : FuncData} (b0 : ∀ a : Value, bindArgs fd ⟨[], [(("shuffle" : Str), a)]⟩ = pure [(("shuffle" : Str), a)]) (b1 : ∀ a : Value, bindArgs fd ⟨[a], []⟩ = pure [(("shuffle" : Str), a)]) : KBinds K fd ["shuffle"] ["shuffle"] gApp gApp := by
  refine ⟨fun s us ws _ hl => ?_, fun r rz => r.append rz⟩
  unfold gApp at hl ⊢
  rw [List.length_append] at hl
  match us, ws, hl with
  | [], [a], _ => exact .of_eq (b0 a)
  | [a], [], _ => exact .of_eq (b1 a)
  | [], [], hl => exact absurd hl (by simp)
  | [], _ :: _ :: _, hl => exact absurd hl (by simp)
  | [_], _ :: _, hl => exact absurd hl (by simp)
  | _ :: _ :: _, _, hl => exact absurd hl (by simp; omega)
/-! ### what the top has written -/
theorem all_here {l : PySem.W.OpenLaw} {w : World} {K : PySem.W.Frag} {h : Heap} {mg : Str → Option Value} {fa f1 f2 f3 f4 f5 f6 f7 f8 f9 f10 f11 f12 f13 f14 f15 f16 f17 f18 f19 f20 f21 : Addr} (X : K.In h) (G : h.Ns mainGlobals mg) (hfa : mg "law" = some (.ref fa))
    {od1 an1 od2 an2 od3 an3 od4 an4 od5 an5 od6 an6 od7 an7 od8 an8 od9 an9 od10 an10 od11 an11 od12 an12 od13 an13 od14 an14 od15 an15 od16 an16 od17 an17 od18 an18 od19 an19 od20 an20 od21 an21 : Option Addr} {sl1 sl2 sl3 sl4 sl5 sl6 sl7 sl8 sl9 sl10 sl11 sl12 sl13 sl14 sl15 sl16 sl17 sl18 sl19 sl20 sl21 : Array (Option Value)} {oc1 kV1 dc1 pm1 cd1 ct1 oc2 kV2 dc2 pm2 cd2 ct2 oc3 kV3 dc3 pm3 cd3 ct3 oc4 kV4 dc4 pm4 cd4 ct4 oc5 kV5 dc5 pm5 cd5 ct5 oc6 kV6 dc6 pm6 cd6 ct6 oc7 kV7 dc7 pm7 cd7 ct7 oc8 kV8 dc8 pm8 cd8 ct8 oc9 kV9 dc9 pm9 cd9 ct9 oc10 kV10 dc10 pm10 cd10 ct10 oc11 kV11 dc11 pm11 cd11 ct11 oc12 kV12 dc12 pm12 cd12 ct12 oc13 kV13 dc13 pm13 cd13 ct13 oc14 kV14 dc14 pm14 cd14 ct14 oc15 kV15 dc15 pm15 cd15 ct15 oc16 kV16 dc16 pm16 cd16 ct16 oc17 kV17 dc17 pm17 cd17 ct17 oc18 kV18 dc18 pm18 cd18 ct18 oc19 kV19 dc19 pm19 cd19 ct19 oc20 kV20 dc20 pm20 cd20 ct20 oc21 kV21 dc21 pm21 cd21 ct21 : Value} {tr ts : Tok}
    (a1 : PySem.W.nsIn K mainGlobals "is_register" = some (some (.ref f1))) (l1 : K.lookup f1 = some ⟨oc1, od1, .func (PySem.W.fnOf "is_register" "is_register" (defArgs sIsReg) (defBody sIsReg) (defScope sIsReg) .none kV1 dc1 pm1 an1 cd1 ct1), sl1⟩) (c1 : PySem.W.codeIn K cd1 "is_register" = true) (k1 : PySem.W.keepIn K (.ref f1) = true)
    (a2 : PySem.W.nsIn K mainGlobals "is_move_row" = some (some (.ref f2))) (l2 : K.lookup f2 = some ⟨oc2, od2, .func (PySem.W.fnOf "is_move_row" "is_move_row" (defArgs sIsRow) (defBody sIsRow) (defScope sIsRow) .none kV2 dc2 pm2 an2 cd2 ct2), sl2⟩) (c2 : PySem.W.codeIn K cd2 "is_move_row" = true) (k2 : PySem.W.keepIn K (.ref f2) = true)
    (a3 : PySem.W.nsIn K mainGlobals "is_shuffle_by" = some (some (.ref f3))) (l3 : K.lookup f3 = some ⟨oc3, od3, .func (PySem.W.fnOf "is_shuffle_by" "is_shuffle_by" (defArgs sIsShf) (defBody sIsShf) (defScope sIsShf) .none kV3 dc3 pm3 an3 cd3 ct3), sl3⟩) (c3 : PySem.W.codeIn K cd3 "is_shuffle_by" = true) (k3 : PySem.W.keepIn K (.ref f3) = true)
    (a4 : PySem.W.nsIn K mainGlobals "moves_by" = some (some (.ref f4))) (l4 : K.lookup f4 = some ⟨oc4, od4, .func (PySem.W.fnOf "moves_by" "moves_by" (defArgs sMovesBy) (defBody sMovesBy) (defScope sMovesBy) .none kV4 dc4 pm4 an4 cd4 ct4), sl4⟩) (c4 : PySem.W.codeIn K cd4 "moves_by" = true) (k4 : PySem.W.keepIn K (.ref f4) = true)
    (a5 : PySem.W.nsIn K mainGlobals "rings_by" = some (some (.ref f5))) (l5 : K.lookup f5 = some ⟨oc5, od5, .func (PySem.W.fnOf "rings_by" "rings_by" (defArgs sRingsBy) (defBody sRingsBy) (defScope sRingsBy) .none kV5 dc5 pm5 an5 cd5 ct5), sl5⟩) (c5 : PySem.W.codeIn K cd5 "rings_by" = true) (k5 : PySem.W.keepIn K (.ref f5) = true)
    (a6 : PySem.W.nsIn K mainGlobals "check_shuffle" = some (some (.ref f6))) (l6 : K.lookup f6 = some ⟨oc6, od6, .func (PySem.W.fnOf "check_shuffle" "check_shuffle" (defArgs sChkS) (defBody sChkS) (defScope sChkS) .none kV6 dc6 pm6 an6 cd6 ct6), sl6⟩) (c6 : PySem.W.codeIn K cd6 "check_shuffle" = true) (k6 : PySem.W.keepIn K (.ref f6) = true)
    (a7 : PySem.W.nsIn K mainGlobals "check_spare" = some (some (.ref f7))) (l7 : K.lookup f7 = some ⟨oc7, od7, .func (PySem.W.fnOf "check_spare" "check_spare" (defArgs sChkP) (defBody sChkP) (defScope sChkP) .none kV7 dc7 pm7 an7 cd7 ct7), sl7⟩) (c7 : PySem.W.codeIn K cd7 "check_spare" = true) (k7 : PySem.W.keepIn K (.ref f7) = true)
    (a8 : PySem.W.nsIn K mainGlobals "moves" = some (some (.ref f8))) (l8 : K.lookup f8 = some ⟨oc8, od8, .func (PySem.W.fnOf "moves" "moves" (defArgs sMoves) (defBody sMoves) (defScope sMoves) .none kV8 dc8 pm8 an8 cd8 ct8), sl8⟩) (c8 : PySem.W.codeIn K cd8 "moves" = true) (k8 : PySem.W.keepIn K (.ref f8) = true)
    (a9 : PySem.W.nsIn K mainGlobals "rings" = some (some (.ref f9))) (l9 : K.lookup f9 = some ⟨oc9, od9, .func (PySem.W.fnOf "rings" "rings" (defArgs sRings) (defBody sRings) (defScope sRings) .none kV9 dc9 pm9 an9 cd9 ct9), sl9⟩) (c9 : PySem.W.codeIn K cd9 "rings" = true) (k9 : PySem.W.keepIn K (.ref f9) = true)
    (a10 : PySem.W.nsIn K mainGlobals "fewest_moves" = some (some (.ref f10))) (l10 : K.lookup f10 = some ⟨oc10, od10, .func (PySem.W.fnOf "fewest_moves" "fewest_moves" (defArgs sFew) (defBody sFew) (defScope sFew) .none kV10 dc10 pm10 an10 cd10 ct10), sl10⟩) (c10 : PySem.W.codeIn K cd10 "fewest_moves" = true) (k10 : PySem.W.keepIn K (.ref f10) = true)
    (a11 : PySem.W.nsIn K mainGlobals "_law_hash" = some (some (.ref f11))) (l11 : K.lookup f11 = some ⟨oc11, od11, .func (PySem.W.fnOf "_law_hash" "_law_hash" (defArgs sHash) (defBody sHash) (defScope sHash) .none kV11 dc11 pm11 an11 cd11 ct11), sl11⟩) (c11 : PySem.W.codeIn K cd11 "_law_hash" = true) (k11 : PySem.W.keepIn K (.ref f11) = true)
    (a12 : PySem.W.nsIn K mainGlobals "_law_random" = some (some (.ref f12))) (l12 : K.lookup f12 = some ⟨oc12, od12, .func (PySem.W.fnOf "_law_random" "_law_random" (defArgs sRandom) (defBody sRandom) (defScope sRandom) .none kV12 dc12 pm12 an12 cd12 ct12), sl12⟩) (c12 : PySem.W.codeIn K cd12 "_law_random" = true) (k12 : PySem.W.keepIn K (.ref f12) = true)
    (a13 : PySem.W.nsIn K mainGlobals "_law_cell" = some (some (.ref f13))) (l13 : K.lookup f13 = some ⟨oc13, od13, .func (PySem.W.fnOf "_law_cell" "_law_cell" (defArgs sCell) (defBody sCell) (defScope sCell) .none kV13 dc13 pm13 an13 cd13 ct13), sl13⟩) (c13 : PySem.W.codeIn K cd13 "_law_cell" = true) (k13 : PySem.W.keepIn K (.ref f13) = true)
    (a14 : PySem.W.nsIn K mainGlobals "_law_generator" = some (some (.ref f14))) (l14 : K.lookup f14 = some ⟨oc14, od14, .func (PySem.W.fnOf "_law_generator" "_law_generator" (defArgs sGen) (defBody sGen) (defScope sGen) .none kV14 dc14 pm14 an14 cd14 ct14), sl14⟩) (c14 : PySem.W.codeIn K cd14 "_law_generator" = true) (k14 : PySem.W.keepIn K (.ref f14) = true)
    (a15 : PySem.W.nsIn K mainGlobals "_law_shuffle" = some (some (.ref f15))) (l15 : K.lookup f15 = some ⟨oc15, od15, .func (PySem.W.fnOf "_law_shuffle" "_law_shuffle" (defArgs sShuf) (defBody sShuf) (defScope sShuf) .none kV15 dc15 pm15 an15 cd15 ct15), sl15⟩) (c15 : PySem.W.codeIn K cd15 "_law_shuffle" = true) (k15 : PySem.W.keepIn K (.ref f15) = true)
    (a16 : PySem.W.nsIn K mainGlobals "_law_walked" = some (some (.ref f16))) (l16 : K.lookup f16 = some ⟨oc16, od16, .func (PySem.W.fnOf "_law_walked" "_law_walked" (defArgs sWalked) (defBody sWalked) (defScope sWalked) .none kV16 dc16 pm16 an16 cd16 ct16), sl16⟩) (c16 : PySem.W.codeIn K cd16 "_law_walked" = true) (k16 : PySem.W.keepIn K (.ref f16) = true)
    (a17 : PySem.W.nsIn K mainGlobals "_law_rule" = some (some (.ref f17))) (l17 : K.lookup f17 = some ⟨oc17, od17, .func (PySem.W.fnOf "_law_rule" "_law_rule" (defArgs sLRule) (defBody sLRule) (defScope sLRule) .none kV17 dc17 pm17 an17 cd17 ct17), sl17⟩) (c17 : PySem.W.codeIn K cd17 "_law_rule" = true) (k17 : PySem.W.keepIn K (.ref f17) = true)
    (a18 : PySem.W.nsIn K mainGlobals "_law_rings" = some (some (.ref f18))) (l18 : K.lookup f18 = some ⟨oc18, od18, .func (PySem.W.fnOf "_law_rings" "_law_rings" (defArgs sLRings) (defBody sLRings) (defScope sLRings) .none kV18 dc18 pm18 an18 cd18 ct18), sl18⟩) (c18 : PySem.W.codeIn K cd18 "_law_rings" = true) (k18 : PySem.W.keepIn K (.ref f18) = true)
    (a19 : PySem.W.nsIn K mainGlobals "_law_shortest" = some (some (.ref f19))) (l19 : K.lookup f19 = some ⟨oc19, od19, .func (PySem.W.fnOf "_law_shortest" "_law_shortest" (defArgs sShort) (defBody sShort) (defScope sShort) .none kV19 dc19 pm19 an19 cd19 ct19), sl19⟩) (c19 : PySem.W.codeIn K cd19 "_law_shortest" = true) (k19 : PySem.W.keepIn K (.ref f19) = true)
    (a20 : PySem.W.nsIn K mainGlobals "_law_right" = some (some (.ref f20))) (l20 : K.lookup f20 = some ⟨oc20, od20, .func (PySem.W.fnOf "_law_right" "_law_right" (defArgs sRight) (defBody sRight) (defScope sRight) .none kV20 dc20 pm20 an20 cd20 ct20), sl20⟩) (c20 : PySem.W.codeIn K cd20 "_law_right" = true) (k20 : PySem.W.keepIn K (.ref f20) = true)
    (a21 : PySem.W.nsIn K mainGlobals "law" = some (some (.ref f21))) (l21 : K.lookup f21 = some ⟨oc21, od21, .func (PySem.W.fnOf "law" "law" (defArgs sLaw) (defBody sLaw) (defScope sLaw) .none kV21 dc21 pm21 an21 cd21 ct21), sl21⟩) (c21 : PySem.W.codeIn K cd21 "law" = true) (k21 : PySem.W.keepIn K (.ref f21) = true)
    (mr : PySem.W.nsIn K mainGlobals "MOST_REGISTER" = some (some (.int 99 tr))) (ms : PySem.W.nsIn K mainGlobals "MOST_SHUFFLE" = some (some (.int 40 ts)))
    (z0 : PySem.W.nsIn K mainGlobals "int" = some none) (z1 : PySem.W.nsIn K mainGlobals "bool" = some none) (z2 : PySem.W.nsIn K mainGlobals "isinstance" = some none) (z3 : PySem.W.nsIn K mainGlobals "list" = some none) (z4 : PySem.W.nsIn K mainGlobals "tuple" = some none) (z5 : PySem.W.nsIn K mainGlobals "len" = some none) (z6 : PySem.W.nsIn K mainGlobals "set" = some none) (z7 : PySem.W.nsIn K mainGlobals "dict" = some none) (z8 : PySem.W.nsIn K mainGlobals "sorted" = some none) (z9 : PySem.W.nsIn K mainGlobals "min" = some none) (z10 : PySem.W.nsIn K mainGlobals "max" = some none) (z11 : PySem.W.nsIn K mainGlobals "sum" = some none) (z12 : PySem.W.nsIn K mainGlobals "range" = some none) (z13 : PySem.W.nsIn K mainGlobals "repr" = some none) (z14 : PySem.W.nsIn K mainGlobals "zip" = some none) :
    ∃ fd : FuncData, (∀ (s : Shared) (v : Value), BindsTo s fd ⟨[v], []⟩ [("_law_script", v)]) ∧ ∀ base : Heap, FnSt l.prog w K mg base 7 fa fd ["_law_script"] (spLaw K) := by
  have e := hfa.symm.trans (PySem.W.mg_of X G a21)
  cases e
  have T : Txt mg := ⟨PySem.W.mg_none_of X G z0, PySem.W.mg_none_of X G z1, PySem.W.mg_none_of X G z2, PySem.W.mg_none_of X G z3, PySem.W.mg_none_of X G z4, PySem.W.mg_none_of X G z5, PySem.W.mg_none_of X G z6, PySem.W.mg_none_of X G z7, PySem.W.mg_none_of X G z8, PySem.W.mg_none_of X G z9, PySem.W.mg_none_of X G z10, PySem.W.mg_none_of X G z11, PySem.W.mg_none_of X G z12, PySem.W.mg_none_of X G z13, PySem.W.mg_none_of X G z14, ⟨tr, PySem.W.mg_of X G mr⟩, ⟨ts, PySem.W.mg_of X G ms⟩⟩
  have F1 := fun_mk (st := sIsReg) l1 c1 k1
  have b1 := F1.binds (ps := ["value"]) fun _ _ _ _ _ _ us hl => match us, hl with | [_], _ => rfl
  have m1 := PySem.W.mg_of X G a1
  have h1 : Here K mg "is_register" f1 _ ["value"] := ⟨b1, k1, m1⟩
  have F2 := fun_mk (st := sIsRow) l2 c2 k2
  have b2 := F2.binds (ps := ["value"]) fun _ _ _ _ _ _ us hl => match us, hl with | [_], _ => rfl
  have m2 := PySem.W.mg_of X G a2
  have h2 : Here K mg "is_move_row" f2 _ ["value"] := ⟨b2, k2, m2⟩
  have F3 := fun_mk (st := sIsShf) l3 c3 k3
  have b3 := F3.binds (ps := ["value"]) fun _ _ _ _ _ _ us hl => match us, hl with | [_], _ => rfl
  have m3 := PySem.W.mg_of X G a3
  have h3 : Here K mg "is_shuffle_by" f3 _ ["value"] := ⟨b3, k3, m3⟩
  have F4 := fun_mk (st := sMovesBy) l4 c4 k4
  have b4 := F4.binds (ps := ["shuffle", "spare"]) fun _ _ _ _ _ _ us hl => match us, hl with | [_, _], _ => rfl
  have m4 := PySem.W.mg_of X G a4
  have h4 : Here K mg "moves_by" f4 _ ["shuffle", "spare"] := ⟨b4, k4, m4⟩
  have F5 := fun_mk (st := sRingsBy) l5 c5 k5
  have b5 := F5.binds (ps := ["shuffle"]) fun _ _ _ _ _ _ us hl => match us, hl with | [_], _ => rfl
  have m5 := PySem.W.mg_of X G a5
  have h5 : Here K mg "rings_by" f5 _ ["shuffle"] := ⟨b5, k5, m5⟩
  have F6 := fun_mk (st := sChkS) l6 c6 k6
  have b6 := F6.binds (ps := ["shuffle"]) fun _ _ _ _ _ _ us hl => match us, hl with | [_], _ => rfl
  have m6 := PySem.W.mg_of X G a6
  have h6 : Here K mg "check_shuffle" f6 _ ["shuffle"] := ⟨b6, k6, m6⟩
  have F7 := fun_mk (st := sChkP) l7 c7 k7
  have b7 := F7.binds (ps := ["shuffle", "spare"]) fun _ _ _ _ _ _ us hl => match us, hl with | [_, _], _ => rfl
  have m7 := PySem.W.mg_of X G a7
  have h7 : Here K mg "check_spare" f7 _ ["shuffle", "spare"] := ⟨b7, k7, m7⟩
  have F8 := fun_mk (st := sMoves) l8 c8 k8
  have b8 := F8.binds (ps := ["shuffle", "spare"]) fun _ _ _ _ _ _ us hl => match us, hl with | [_, _], _ => rfl
  have m8 := PySem.W.mg_of X G a8
  have h8 : Here K mg "moves" f8 _ ["shuffle", "spare"] := ⟨b8, k8, m8⟩
  have F9 := fun_mk (st := sRings) l9 c9 k9
  have b9 := F9.binds (ps := ["shuffle"]) fun _ _ _ _ _ _ us hl => match us, hl with | [_], _ => rfl
  have m9 := PySem.W.mg_of X G a9
  have h9 : Here K mg "rings" f9 _ ["shuffle"] := ⟨b9, k9, m9⟩
  have F10 := fun_mk (st := sFew) l10 c10 k10
  have b10 := F10.binds (ps := ["shuffle"]) fun _ _ _ _ _ _ us hl => match us, hl with | [_], _ => rfl
  have m10 := PySem.W.mg_of X G a10
  have h10 : Here K mg "fewest_moves" f10 _ ["shuffle"] := ⟨b10, k10, m10⟩
  have F11 := fun_mk (st := sHash) l11 c11 k11
  have b11 := F11.binds (ps := ["_law_seed", "_law_index"]) fun _ _ _ _ _ _ us hl => match us, hl with | [_, _], _ => rfl
  have m11 := PySem.W.mg_of X G a11
  have h11 : Here K mg "_law_hash" f11 _ ["_law_seed", "_law_index"] := ⟨b11, k11, m11⟩
  have F12 := fun_mk (st := sRandom) l12 c12 k12
  have b12 := F12.binds (ps := ["_law_generator_here", "_law_bound"]) fun _ _ _ _ _ _ us hl => match us, hl with | [_, _], _ => rfl
  have m12 := PySem.W.mg_of X G a12
  have h12 : Here K mg "_law_random" f12 _ ["_law_generator_here", "_law_bound"] := ⟨b12, k12, m12⟩
  have F13 := fun_mk (st := sCell) l13 c13 k13
  have b13 := F13.binds (ps := ["_law_script", "_law_index"]) fun _ _ _ _ _ _ us hl => match us, hl with | [_, _], _ => rfl
  have m13 := PySem.W.mg_of X G a13
  have h13 : Here K mg "_law_cell" f13 _ ["_law_script", "_law_index"] := ⟨b13, k13, m13⟩
  have F14 := fun_mk (st := sGen) l14 c14 k14
  have b14 := F14.binds (ps := ["_law_script", "_law_index"]) fun _ _ _ _ _ _ us hl => match us, hl with | [_, _], _ => rfl
  have m14 := PySem.W.mg_of X G a14
  have h14 : Here K mg "_law_generator" f14 _ ["_law_script", "_law_index"] := ⟨b14, k14, m14⟩
  have F15 := fun_mk (st := sShuf) l15 c15 k15
  have b15 := F15.binds (ps := ["_law_generator_here", "_law_most"]) fun _ _ _ _ _ _ us hl => match us, hl with | [_, _], _ => rfl
  have m15 := PySem.W.mg_of X G a15
  have h15 : Here K mg "_law_shuffle" f15 _ ["_law_generator_here", "_law_most"] := ⟨b15, k15, m15⟩
  have F16 := fun_mk (st := sWalked) l16 c16 k16
  have b16 := F16.binds (ps := ["_law_row", "_law_registers"]) fun _ _ _ _ _ _ us hl => match us, hl with | [_, _], _ => rfl
  have m16 := PySem.W.mg_of X G a16
  have h16 : Here K mg "_law_walked" f16 _ ["_law_row", "_law_registers"] := ⟨b16, k16, m16⟩
  have F17 := fun_mk (st := sLRule) l17 c17 k17
  have b17 := F17.binds (ps := ["_law_shuffle_here", "_law_spare"]) fun _ _ _ _ _ _ us hl => match us, hl with | [_, _], _ => rfl
  have m17 := PySem.W.mg_of X G a17
  have h17 : Here K mg "_law_rule" f17 _ ["_law_shuffle_here", "_law_spare"] := ⟨b17, k17, m17⟩
  have F18 := fun_mk (st := sLRings) l18 c18 k18
  have b18 := F18.binds (ps := ["_law_shuffle_here"]) fun _ _ _ _ _ _ us hl => match us, hl with | [_], _ => rfl
  have m18 := PySem.W.mg_of X G a18
  have h18 : Here K mg "_law_rings" f18 _ ["_law_shuffle_here"] := ⟨b18, k18, m18⟩
  have F19 := fun_mk (st := sShort) l19 c19 k19
  have b19 := F19.binds (ps := ["_law_shuffle_here", "_law_spare", "_law_registers"]) fun _ _ _ _ _ _ us hl => match us, hl with | [_, _, _], _ => rfl
  have m19 := PySem.W.mg_of X G a19
  have h19 : Here K mg "_law_shortest" f19 _ ["_law_shuffle_here", "_law_spare", "_law_registers"] := ⟨b19, k19, m19⟩
  have F20 := fun_mk (st := sRight) l20 c20 k20
  have b20 := F20.binds (ps := ["_law_shuffle_here", "_law_spare"]) fun _ _ _ _ _ _ us hl => match us, hl with | [_, _], _ => rfl
  have m20 := PySem.W.mg_of X G a20
  have h20 : Here K mg "_law_right" f20 _ ["_law_shuffle_here", "_law_spare"] := ⟨b20, k20, m20⟩
  have F21 := fun_mk (st := sLaw) l21 c21 k21
  refine ⟨PySem.W.fnOf "law" "law" (defArgs sLaw) (defBody sLaw) (defScope sLaw) .none kV21 dc21 pm21 an21 cd21 ct21, fun s v => .of_eq rfl, fun base => ?_⟩
  have G1 := ok_isReg (P := l.prog) (w := w) (base := base) F1 T
  have G2 := ok_isRow (P := l.prog) (w := w) (base := base) F2 F1 b1 m1 T
  have G3 := ok_isShf F3 G2 b2 k2 m2 T
  have G6 := ok_chkS F6 G3 b3 k3 m3
  have G7 := ok_chkP F7 G1 b1 k1 m1
  have G4 := ok_movesBy (P := l.prog) (w := w) (mg := mg) (base := base) F4
  have G5 := ok_ringsBy (P := l.prog) (w := w) (base := base) F5 T
  have G8 := ok_moves F8 G6 b6 k6 m6 G7 b7 k7 m7 G4 b4 k4 m4
  have G9 := ok_rings F9 G6 b6 k6 m6 G5 b5 k5 m5
  have G10 := ok_few F10 T G6 b6 k6 m6 G5 b5 k5 m5
  have G11 := ok_hash (P := l.prog) (w := w) (base := base) F11 T
  have G12 := ok_random F12 T G11 b11 k11 m11
  have G13 := ok_cell (P := l.prog) (w := w) (base := base) F13 T
  have G14 := ok_gen F14 T G13 b13 k13 m13
  have G15 := ok_shuf F15 T G12 b12 k12 m12
  have G16 := ok_walked (P := l.prog) (w := w) (base := base) F16 T
  have G17 := ok_lRule (P := l.prog) (w := w) (mg := mg) (base := base) F17
  have G18 := ok_lRings (P := l.prog) (w := w) (base := base) F18 T
  have G19 := ok_short (P := l.prog) (w := w) (base := base) F19 T
  have q2 : KBinds K _ ["shuffle", "spare"] ["spare", "shuffle"] gRev gRev := names2 (fd := PySem.W.fnOf "moves" "moves" (defArgs sMoves) (defBody sMoves) (defScope sMoves) .none kV8 dc8 pm8 an8 cd8 ct8) (fun _ _ => rfl) (fun _ _ => rfl) fun _ _ => rfl
  have q3 : KBinds K _ ["shuffle"] ["shuffle"] gApp gApp := names1 (fd := PySem.W.fnOf "rings" "rings" (defArgs sRings) (defBody sRings) (defScope sRings) .none kV9 dc9 pm9 an9 cd9 ct9) (fun _ => rfl) fun _ => rfl
  have q4 : KBinds K _ ["shuffle"] ["shuffle"] gApp gApp := names1 (fd := PySem.W.fnOf "fewest_moves" "fewest_moves" (defArgs sFew) (defBody sFew) (defScope sFew) .none kV10 dc10 pm10 an10 cd10 ct10) (fun _ => rfl) fun _ => rfl
  have G20 := ok_right F20 T G17 h17 G8 h8 q2 G9 h9 q3 G10 h10 q4 G18 h18 G16 h16
  exact ok_law F21 T G17 h17 G8 h8 G9 h9 G20 h20 G14 h14 G12 h12 G15 h15 G19 h19
end Ck

open PySem PySem.W PyProof.Rows in
set_option maxRecDepth 100000 in
set_option maxHeartbeats 0 in
theorem PySem.Challenge.cw_cellbills_k50_whole_moves_at_once_holds : PySem.Challenge.rw_cellbills_k50_whole_moves_at_once.Holds := by
  w_on; o_law; k_head; (case hw => w_witness2)
  k_fill
  refine Ck.still_walk (l := PySem.Challenge.rw_cellbills_k50_whole_moves_at_once) (n := 63) (k := 7) (x := "_law_script") (sp := Ck.spLaw) rfl (by decide) rfl ⟨rfl, by decide, by decide⟩ (fun w h Y => PySem.W.kIn_of Y) ?F (fun K H a ns _ hS => ⟨a, ns, rfl, hS, fun _ => rfl⟩)
  case F =>
    intro w mg fa h KX G hmg
    refine' Ck.all_here KX G hmg ?a1 ?l1 ?c1 ?k1 ?a2 ?l2 ?c2 ?k2 ?a3 ?l3 ?c3 ?k3 ?a4 ?l4 ?c4 ?k4 ?a5 ?l5 ?c5 ?k5 ?a6 ?l6 ?c6 ?k6 ?a7 ?l7 ?c7 ?k7 ?a8 ?l8 ?c8 ?k8 ?a9 ?l9 ?c9 ?k9 ?a10 ?l10 ?c10 ?k10 ?a11 ?l11 ?c11 ?k11 ?a12 ?l12 ?c12 ?k12 ?a13 ?l13 ?c13 ?k13 ?a14 ?l14 ?c14 ?k14 ?a15 ?l15 ?c15 ?k15 ?a16 ?l16 ?c16 ?k16 ?a17 ?l17 ?c17 ?k17 ?a18 ?l18 ?c18 ?k18 ?a19 ?l19 ?c19 ?k19 ?a20 ?l20 ?c20 ?k20 ?a21 ?l21 ?c21 ?k21 ?mr ?ms ?z0 ?z1 ?z2 ?z3 ?z4 ?z5 ?z6 ?z7 ?z8 ?z9 ?z10 ?z11 ?z12 ?z13 ?z14
    (case a1 => k_is)
    (case l1 => k_is)
    (case c1 => k_is)
    (case k1 => k_is)
    (case a2 => k_is)
    (case l2 => k_is)
    (case c2 => k_is)
    (case k2 => k_is)
    (case a3 => k_is)
    (case l3 => k_is)
    (case c3 => k_is)
    (case k3 => k_is)
    (case a4 => k_is)
    (case l4 => k_is)
    (case c4 => k_is)
    (case k4 => k_is)
    (case a5 => k_is)
    (case l5 => k_is)
    (case c5 => k_is)
    (case k5 => k_is)
    (case a6 => k_is)
    (case l6 => k_is)
    (case c6 => k_is)
    (case k6 => k_is)
    (case a7 => k_is)
    (case l7 => k_is)
    (case c7 => k_is)
    (case k7 => k_is)
    (case a8 => k_is)
    (case l8 => k_is)
    (case c8 => k_is)
    (case k8 => k_is)
    (case a9 => k_is)
    (case l9 => k_is)
    (case c9 => k_is)
    (case k9 => k_is)
    (case a10 => k_is)
    (case l10 => k_is)
    (case c10 => k_is)
    (case k10 => k_is)
    (case a11 => k_is)
    (case l11 => k_is)
    (case c11 => k_is)
    (case k11 => k_is)
    (case a12 => k_is)
    (case l12 => k_is)
    (case c12 => k_is)
    (case k12 => k_is)
    (case a13 => k_is)
    (case l13 => k_is)
    (case c13 => k_is)
    (case k13 => k_is)
    (case a14 => k_is)
    (case l14 => k_is)
    (case c14 => k_is)
    (case k14 => k_is)
    (case a15 => k_is)
    (case l15 => k_is)
    (case c15 => k_is)
    (case k15 => k_is)
    (case a16 => k_is)
    (case l16 => k_is)
    (case c16 => k_is)
    (case k16 => k_is)
    (case a17 => k_is)
    (case l17 => k_is)
    (case c17 => k_is)
    (case k17 => k_is)
    (case a18 => k_is)
    (case l18 => k_is)
    (case c18 => k_is)
    (case k18 => k_is)
    (case a19 => k_is)
    (case l19 => k_is)
    (case c19 => k_is)
    (case k19 => k_is)
    (case a20 => k_is)
    (case l20 => k_is)
    (case c20 => k_is)
    (case k20 => k_is)
    (case a21 => k_is)
    (case l21 => k_is)
    (case c21 => k_is)
    (case k21 => k_is)
    (case mr => k_is)
    (case ms => k_is)
    (case z0 => k_is)
    (case z1 => k_is)
    (case z2 => k_is)
    (case z3 => k_is)
    (case z4 => k_is)
    (case z5 => k_is)
    (case z6 => k_is)
    (case z7 => k_is)
    (case z8 => k_is)
    (case z9 => k_is)
    (case z10 => k_is)
    (case z11 => k_is)
    (case z12 => k_is)
    (case z13 => k_is)
    (case z14 => k_is)
