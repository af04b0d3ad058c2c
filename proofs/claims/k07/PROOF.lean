import PyProof.Rows.All
import Wide.All
import OpenK.AllK
import Wide.FinOn
import HandS.TupSets
import KE.KDictKeyed
import KE.SortData
import HandS.Deep
import HandS.Words
import HandS.DictComp
import HandS.OwnEq
import HandS.Conv
import HandS.Nested
import HandS.ForMost
import HandS.IsInst
import HandS.Style
import HandS.Flow
import HandS.Walk
import HandS.More
import HandS.Defaults
import HandS.HeadHook1
import HandS.HeadHook2
import HandS.HeadHook3
import HandS.HeadHook4
import HandS.EndTab
import KE.KNest
import KE.KNestM
import KE.KLam
import PySem.Challenge.RW_nevercrossed_k07_whole_sets_of_edges
set_option Elab.async false
set_option linter.all false
set_option maxRecDepth 100000
/-! The plain laws: edges of squared paper as pairs of pairs of ints, their order, strictly rising lists as sets, turning, shifting. No program here. -/
namespace NC
abbrev Pt := Int × Int
abbrev Ed := Pt × Pt
def ltP (p q : Pt) : Prop := p.1 < q.1 ∨ (p.1 = q.1 ∧ p.2 < q.2)
instance (p q : Pt) : Decidable (ltP p q) := by unfold ltP; infer_instance
def ltE (e f : Ed) : Prop := ltP e.1 f.1 ∨ (e.1 = f.1 ∧ ltP e.2 f.2)
instance (e f : Ed) : Decidable (ltE e f) := by unfold ltE; infer_instance
def okP (p : Pt) : Prop := 0 ≤ p.1 ∧ p.1 ≤ 30 ∧ 0 ≤ p.2 ∧ p.2 ≤ 30
def okE (e : Ed) : Prop := okP e.1 ∧ okP e.2 ∧ (e.2 = (e.1.1 + 1, e.1.2) ∨ e.2 = (e.1.1, e.1.2 + 1))
def SP (ps : List Pt) : Prop := ps.Pairwise ltP
def SS (es : List Ed) : Prop := es.Pairwise ltE

/-! ### the order -/
theorem pt_ext {p q : Pt} (h1 : p.1 = q.1) (h2 : p.2 = q.2) : p = q := Prod.ext h1 h2
theorem ed_ext {e f : Ed} (h1 : e.1.1 = f.1.1) (h2 : e.1.2 = f.1.2) (h3 : e.2.1 = f.2.1) (h4 : e.2.2 = f.2.2) : e = f :=
  Prod.ext (pt_ext h1 h2) (pt_ext h3 h4)
theorem ltP_irr (p : Pt) : ¬ ltP p p := by unfold ltP; omega
theorem ltP_tr {p q r : Pt} (h1 : ltP p q) (h2 : ltP q r) : ltP p r := by unfold ltP at *; omega
theorem ltP_tri (p q : Pt) : ltP p q ∨ p = q ∨ ltP q p := by
  by_cases h1 : p.1 = q.1
  · by_cases h2 : p.2 = q.2
    · exact .inr (.inl (pt_ext h1 h2))
    · unfold ltP; omega
  · unfold ltP; omega
theorem ltE_irr (e : Ed) : ¬ ltE e e := fun h => by
  rcases h with h | ⟨_, h⟩
  · exact ltP_irr _ h
  · exact ltP_irr _ h
theorem ltE_tr {e f g : Ed} (h1 : ltE e f) (h2 : ltE f g) : ltE e g := by
  rcases h1 with h1 | ⟨a, h1⟩
  · rcases h2 with h2 | ⟨b, h2⟩
    · exact .inl (ltP_tr h1 h2)
    · exact .inl (b ▸ h1)
  · rcases h2 with h2 | ⟨b, h2⟩
    · exact .inl (a ▸ h2)
    · exact .inr ⟨a.trans b, ltP_tr h1 h2⟩
theorem ltE_tri (e f : Ed) : ltE e f ∨ e = f ∨ ltE f e := by
  rcases ltP_tri e.1 f.1 with h | h | h
  · exact .inl (.inl h)
  · rcases ltP_tri e.2 f.2 with k | k | k
    · exact .inl (.inr ⟨h, k⟩)
    · exact .inr (.inl (Prod.ext h k))
    · exact .inr (.inr (.inr ⟨h.symm, k⟩))
  · exact .inr (.inr (.inl h))
theorem ltE_ne {e f : Ed} (h : ltE e f) : e ≠ f := fun z => ltE_irr f (z ▸ h)
theorem ltP_ne {e f : Pt} (h : ltP e f) : e ≠ f := fun z => ltP_irr f (z ▸ h)

/-! ### strictly rising lists -/
section
variable {α : Type} {r : α → α → Prop}
theorem rising_one (irr : ∀ a, ¬ r a a) (tr : ∀ a b c, r a b → r b c → r a c) : ∀ {l m : List α}, l.Pairwise r → m.Pairwise r → (∀ x, x ∈ l ↔ x ∈ m) → l = m
  | [], [], _, _, _ => rfl
  | [], b :: m, _, _, h => absurd ((h b).mpr List.mem_cons_self) (by simp)
  | a :: l, [], _, _, h => absurd ((h a).mp List.mem_cons_self) (by simp)
  | a :: l, b :: m, hl, hm, h => by
    obtain ⟨la, hl1⟩ := List.pairwise_cons.mp hl
    obtain ⟨mb, hm1⟩ := List.pairwise_cons.mp hm
    have e : a = b := by
      rcases List.mem_cons.mp ((h a).mp List.mem_cons_self) with e | e
      · exact e
      · rcases List.mem_cons.mp ((h b).mpr List.mem_cons_self) with f | f
        · exact f.symm
        · exact absurd (tr _ _ _ (la b f) (mb a e)) (irr a)
    subst e
    have hh : ∀ x, x ∈ l ↔ x ∈ m := fun x => by
      constructor
      · intro hx
        rcases List.mem_cons.mp ((h x).mp (List.mem_cons_of_mem _ hx)) with e | e
        · subst e; exact absurd (la x hx) (irr x)
        · exact e
      · intro hx
        rcases List.mem_cons.mp ((h x).mpr (List.mem_cons_of_mem _ hx)) with e | e
        · subst e; exact absurd (mb x hx) (irr x)
        · exact e
    exact congrArg (a :: ·) (rising_one irr tr hl1 hm1 hh)
theorem rising_nodup (irr : ∀ a, ¬ r a a) {l : List α} (h : l.Pairwise r) : l.Nodup :=
  h.imp fun {a b} hab e => by subst e; exact irr _ hab
/-- sorted by the order's «not greater», no item twice: strictly rising -/
theorem rising_of {l : List α} (hn : l.Nodup) (tri : ∀ a b, r a b ∨ a = b ∨ r b a) (h : l.Pairwise fun a b => ¬ r b a) : l.Pairwise r :=
  (List.Pairwise.and hn h).imp fun {a b} ⟨hne, hle⟩ => by
    rcases tri a b with q | q | q
    · exact q
    · exact absurd q hne
    · exact absurd q hle
theorem nodup_len [DecidableEq α] : ∀ {l m : List α}, l.Nodup → (∀ x ∈ l, x ∈ m) → l.length ≤ m.length
  | [], _, _, _ => Nat.zero_le _
  | x :: l, m, hn, hs => by
    obtain ⟨h1, h2⟩ := List.nodup_cons.mp hn
    have hx : x ∈ m := hs x List.mem_cons_self
    have ih := nodup_len (l := l) (m := m.erase x) h2 fun y hy => (List.mem_erase_of_ne (show y ≠ x from fun e => by subst e; exact h1 hy)).2 (hs y (List.mem_cons_of_mem _ hy))
    have e := List.length_erase_of_mem hx
    have p := List.length_pos_of_mem hx
    rw [List.length_cons]
    omega
end
theorem SS.one {a b : List Ed} (ha : SS a) (hb : SS b) (h : ∀ e, e ∈ a ↔ e ∈ b) : a = b := rising_one ltE_irr (fun _ _ _ => ltE_tr) ha hb h
theorem SP.one {a b : List Pt} (ha : SP a) (hb : SP b) (h : ∀ e, e ∈ a ↔ e ∈ b) : a = b := rising_one ltP_irr (fun _ _ _ => ltP_tr) ha hb h
theorem SS.nodup {a : List Ed} (ha : SS a) : a.Nodup := rising_nodup ltE_irr ha
theorem SP.nodup {a : List Pt} (ha : SP a) : a.Nodup := rising_nodup ltP_irr ha
theorem SS.filter {a : List Ed} (ha : SS a) (p : Ed → Bool) : SS (a.filter p) := List.Pairwise.filter p ha
theorem SS.len {a b : List Ed} (ha : SS a) (h : ∀ e ∈ a, e ∈ b) : a.length ≤ b.length := nodup_len ha.nodup h

/-! ### turning: k = 0 a quarter, else mirrored -/
def tP (k : Bool) (p : Pt) : Pt := if k then (30 - p.1, p.2) else (30 - p.2, p.1)
def nrm (p q : Pt) : Ed := if ltP p q then (p, q) else (q, p)
def tE (k : Bool) (e : Ed) : Ed := nrm (tP k e.1) (tP k e.2)
theorem tP_ok {k : Bool} {p : Pt} (h : okP p) : okP (tP k p) := by
  unfold okP at *
  cases k <;> simp only [tP, if_true, if_false, Bool.false_eq_true] <;> omega
theorem tP_inj {k : Bool} {p q : Pt} (h : tP k p = tP k q) : p = q := by
  cases k
  · simp only [tP, Bool.false_eq_true, if_false, Prod.mk.injEq] at h
    exact pt_ext (by omega) (by omega)
  · simp only [tP, if_true, Prod.mk.injEq] at h
    exact pt_ext (by omega) (by omega)
theorem okE_lt {e : Ed} (h : okE e) : ltP e.1 e.2 := by
  obtain ⟨_, _, h | h⟩ := h <;> rw [h] <;> unfold ltP <;> simp <;> omega
theorem okE_ne {e : Ed} (h : okE e) : e.1 ≠ e.2 := ltP_ne (okE_lt h)
theorem nrm_cases (p q : Pt) : (ltP p q ∧ nrm p q = (p, q)) ∨ (¬ ltP p q ∧ nrm p q = (q, p)) := by
  unfold nrm
  by_cases h : ltP p q
  · exact .inl ⟨h, if_pos h⟩
  · exact .inr ⟨h, if_neg h⟩
theorem tE_ok {k : Bool} {e : Ed} (h : okE e) : okE (tE k e) := by
  obtain ⟨⟨⟨a, b⟩, ⟨c, d⟩⟩, h0⟩ : ∃ f : Ed, f = e := ⟨e, rfl⟩
  subst h0
  obtain ⟨h1, h2, h3⟩ := h
  unfold okP at h1 h2
  simp only [Prod.mk.injEq] at h1 h2 h3
  have key : okE (tE k ((a, b), (c, d))) := by
    unfold tE
    rcases nrm_cases (tP k (a, b)) (tP k (c, d)) with ⟨hl, he⟩ | ⟨hl, he⟩ <;> rw [he] <;> cases k <;>
      simp only [tP, ltP, if_true, if_false, Bool.false_eq_true] at hl ⊢ <;>
      (refine ⟨?_, ?_, ?_⟩ <;> simp only [okP, Prod.mk.injEq] <;> omega)
  exact key
theorem nrm_inj {p q p' q' : Pt} (h : nrm p q = nrm p' q') : (p = p' ∧ q = q') ∨ (p = q' ∧ q = p') := by
  rcases nrm_cases p q with ⟨_, e⟩ | ⟨_, e⟩ <;> rcases nrm_cases p' q' with ⟨_, f⟩ | ⟨_, f⟩ <;> rw [e, f] at h
  · exact .inl ⟨congrArg Prod.fst h, congrArg Prod.snd h⟩
  · exact .inr ⟨congrArg Prod.fst h, congrArg Prod.snd h⟩
  · exact .inr ⟨congrArg Prod.snd h, congrArg Prod.fst h⟩
  · exact .inl ⟨congrArg Prod.snd h, congrArg Prod.fst h⟩
theorem tE_inj {k : Bool} {e f : Ed} (he : okE e) (hf : okE f) (h : tE k e = tE k f) : e = f := by
  rcases nrm_inj h with ⟨h1, h2⟩ | ⟨h1, h2⟩
  · exact Prod.ext (tP_inj h1) (tP_inj h2)
  · have a := okE_lt he
    have b := okE_lt hf
    rw [tP_inj h1, tP_inj h2] at a
    exact absurd (ltP_tr a b) (ltP_irr _)
/-- the set of the turned edges, in order -/
structure Turned (k : Bool) (es es' : List Ed) : Prop where
  ss : SS es'
  mem : ∀ e, e ∈ es' ↔ ∃ f ∈ es, e = tE k f
theorem Turned.ok {k : Bool} {es es' : List Ed} (t : Turned k es es') (h : ∀ e ∈ es, okE e) : ∀ e ∈ es', okE e := fun e he => by
  obtain ⟨f, hf, rfl⟩ := (t.mem e).mp he
  exact tE_ok (h f hf)
theorem Turned.one {k : Bool} {es a b : List Ed} (ta : Turned k es a) (tb : Turned k es b) : a = b := ta.ss.one tb.ss fun e => (ta.mem e).trans (tb.mem e).symm
/-- turned lists: no edge twice -/
theorem map_tE_nodup {k : Bool} : ∀ {es : List Ed}, es.Nodup → (∀ e ∈ es, okE e) → (es.map (tE k)).Nodup
  | [], _, _ => List.nodup_nil
  | e :: es, h, ok => by
    obtain ⟨h1, h2⟩ := List.nodup_cons.mp h
    rw [List.map_cons]
    refine List.nodup_cons.mpr ⟨fun m => ?_, map_tE_nodup h2 fun f hf => ok f (List.mem_cons_of_mem _ hf)⟩
    obtain ⟨f, hf, q⟩ := List.mem_map.mp m
    have := tE_inj (ok f (List.mem_cons_of_mem _ hf)) (ok e List.mem_cons_self) q
    exact h1 (this ▸ hf)

/-! ### put together -/
def putOp (k : Nat) (a b : Bool) : Bool := match k with
  | 0 => a || b
  | 1 => a && b
  | 2 => a && !b
  | _ => a != b
structure Put (k : Nat) (a b c : List Ed) : Prop where
  ss : SS c
  mem : ∀ e, decide (e ∈ c) = putOp k (decide (e ∈ a)) (decide (e ∈ b))
theorem Put.one {k : Nat} {a b c d : List Ed} (x : Put k a b c) (y : Put k a b d) : c = d := x.ss.one y.ss fun e => by
  have q := (x.mem e).trans (y.mem e).symm
  rw [decide_eq_decide] at q
  exact q
theorem Put.sub {k : Nat} {a b c : List Ed} (x : Put k a b c) : ∀ e ∈ c, e ∈ a ∨ e ∈ b := fun e he => by
  have q := x.mem e
  rw [decide_eq_true he] at q
  by_cases h1 : e ∈ a
  · exact .inl h1
  · by_cases h2 : e ∈ b
    · exact .inr h2
    · rw [decide_eq_false h1, decide_eq_false h2] at q
      match k, q with
      | 0, q => exact absurd q (by decide)
      | 1, q => exact absurd q (by decide)
      | 2, q => exact absurd q (by decide)
      | (_ + 3), q => exact absurd q (by simp [putOp])
theorem Put.ok {k : Nat} {a b c : List Ed} (x : Put k a b c) (ha : ∀ e ∈ a, okE e) (hb : ∀ e ∈ b, okE e) : ∀ e ∈ c, okE e := fun e he => (x.sub e he).elim (ha e) (hb e)
/-- put together with another one by ^ twice -/
theorem xor_twice {a b c d : List Ed} (ha : SS a) (x : Put 3 a b c) (y : Put 3 c b d) : d = a := y.ss.one ha fun e => by
  have q1 := x.mem e
  have q2 := y.mem e
  rw [q1] at q2
  by_cases h1 : e ∈ a <;> by_cases h2 : e ∈ b <;> simp only [h1, h2, decide_true, decide_false, putOp] at q2 <;> simp_all
/-- turned and put together in either order -/
theorem xor_turned {k : Bool} {a b c c' a' b' d : List Ed} (oa : ∀ e ∈ a, okE e) (ob : ∀ e ∈ b, okE e) (x : Put 3 a b c) (t : Turned k c c') (ta : Turned k a a') (tb : Turned k b b') (y : Put 3 a' b' d) : c' = d := t.ss.one y.ss fun e => by
  have q := y.mem e
  have ha : e ∈ a' ↔ ∃ f ∈ a, e = tE k f := ta.mem e
  have hb : e ∈ b' ↔ ∃ f ∈ b, e = tE k f := tb.mem e
  have mx : ∀ f, f ∈ c ↔ ((f ∈ a ∧ f ∉ b) ∨ (f ∉ a ∧ f ∈ b)) := fun f => by
    have q := x.mem f
    by_cases h1 : f ∈ a <;> by_cases h2 : f ∈ b <;> simp only [h1, h2, decide_true, decide_false, putOp] at q <;> simp_all
  have my : e ∈ d ↔ ((e ∈ a' ∧ e ∉ b') ∨ (e ∉ a' ∧ e ∈ b')) := by
    by_cases h1 : e ∈ a' <;> by_cases h2 : e ∈ b' <;> simp only [h1, h2, decide_true, decide_false, putOp] at q <;> simp_all
  rw [t.mem, my]
  constructor
  · rintro ⟨f, hf, rfl⟩
    rcases (mx f).mp hf with ⟨h1, h2⟩ | ⟨h1, h2⟩
    · refine .inl ⟨ha.mpr ⟨f, h1, rfl⟩, fun z => ?_⟩
      obtain ⟨g, hg, e⟩ := hb.mp z
      exact h2 (tE_inj (oa f h1) (ob g hg) e ▸ hg)
    · refine .inr ⟨fun z => ?_, hb.mpr ⟨f, h2, rfl⟩⟩
      obtain ⟨g, hg, e⟩ := ha.mp z
      exact h1 (tE_inj (ob f h2) (oa g hg) e ▸ hg)
  · rintro (⟨h1, h2⟩ | ⟨h1, h2⟩)
    · obtain ⟨f, hf, rfl⟩ := ha.mp h1
      exact ⟨f, (mx f).mpr (.inl ⟨hf, fun z => h2 (hb.mpr ⟨f, z, rfl⟩)⟩), rfl⟩
    · obtain ⟨f, hf, rfl⟩ := hb.mp h2
      exact ⟨f, (mx f).mpr (.inr ⟨fun z => h1 (ha.mpr ⟨f, z, rfl⟩), hf⟩), rfl⟩

/-! ### shifting -/
def sP (dx dy : Int) (p : Pt) : Pt := (p.1 + dx, p.2 + dy)
def sE (dx dy : Int) (e : Ed) : Ed := (sP dx dy e.1, sP dx dy e.2)
structure Shifted (dx dy : Int) (es es' : List Ed) : Prop where
  ss : SS es'
  mem : ∀ e, e ∈ es' ↔ ∃ f ∈ es, e = sE dx dy f
theorem sE_nrm (dx dy : Int) {e : Ed} (h : okE e) : nrm (sP dx dy e.1) (sP dx dy e.2) = sE dx dy e := by
  have h := okE_lt h
  unfold nrm
  rw [if_pos]
  · rfl
  · unfold ltP at h ⊢
    simp only [sP]
    omega
theorem sE_ok {dx dy : Int} {e : Ed} (h : okE e) (h1 : okP (sP dx dy e.1)) (h2 : okP (sP dx dy e.2)) : okE (sE dx dy e) := by
  refine ⟨h1, h2, ?_⟩
  rcases h.2.2 with q | q
  · left; simp only [sE, sP]; rw [q]; exact pt_ext (by show e.1.1 + 1 + dx = e.1.1 + dx + 1; omega) rfl
  · right; simp only [sE, sP]; rw [q]; exact pt_ext rfl (by show e.1.2 + 1 + dy = e.1.2 + dy + 1; omega)
theorem shift_back {dx dy : Int} {a b c : List Ed} (ha : SS a) (x : Shifted dx dy a b) (y : Shifted (-dx) (-dy) b c) : c = a := y.ss.one ha fun e => by
  have back : ∀ f : Ed, sE (-dx) (-dy) (sE dx dy f) = f := fun f => by
    refine ed_ext ?_ ?_ ?_ ?_ <;> simp only [sE, sP] <;> omega
  rw [y.mem]
  constructor
  · rintro ⟨f, hf, rfl⟩
    obtain ⟨g, hg, rfl⟩ := (x.mem f).mp hf
    rw [back]
    exact hg
  · intro he
    exact ⟨sE dx dy e, (x.mem _).mpr ⟨e, he, rfl⟩, (back e).symm⟩

/-! ### points, degrees -/
def ptsOf (es : List Ed) (p : Pt) : Prop := ∃ e ∈ es, p = e.1 ∨ p = e.2
def b1 (b : Bool) : Nat := if b then 1 else 0
def deg (es : List Ed) (p : Pt) : Nat :=
  b1 (decide ((p, (p.1 + 1, p.2)) ∈ es)) + b1 (decide ((p, (p.1, p.2 + 1)) ∈ es)) + b1 (decide (((p.1 - 1, p.2), p) ∈ es)) + b1 (decide (((p.1, p.2 - 1), p) ∈ es))
/-- the four directions' steps -/
def stp : Nat → Pt
  | 0 => (1, 0)
  | 1 => (0, 1)
  | 2 => (-1, 0)
  | _ => (0, -1)
def nb (p : Pt) (i : Nat) : Pt := (p.1 + (stp i).1, p.2 + (stp i).2)
def at4 (es : List Ed) (p : Pt) (i : Nat) : Bool := decide ((p, nb p i) ∈ es) || decide ((nb p i, p) ∈ es)
theorem deg_at4 {es : List Ed} (ok : ∀ e ∈ es, okE e) (p : Pt) : b1 (at4 es p 0) + b1 (at4 es p 1) + b1 (at4 es p 2) + b1 (at4 es p 3) = deg es p := by
  have no : ∀ a b : Pt, ltP b a → decide ((a, b) ∈ es) = false := fun a b h => decide_eq_false fun m => by
    have q := okE_lt (ok _ m)
    exact ltP_irr _ (ltP_tr q h)
  have e0 : nb p 0 = (p.1 + 1, p.2) := pt_ext (by simp [nb, stp]) (by simp [nb, stp])
  have e1 : nb p 1 = (p.1, p.2 + 1) := pt_ext (by simp [nb, stp]) (by simp [nb, stp])
  have e2 : nb p 2 = (p.1 - 1, p.2) := pt_ext (by simp [nb, stp]; omega) (by simp [nb, stp])
  have e3 : nb p 3 = (p.1, p.2 - 1) := pt_ext (by simp [nb, stp]) (by simp [nb, stp]; omega)
  have f0 : at4 es p 0 = decide ((p, (p.1 + 1, p.2)) ∈ es) := by
    unfold at4; rw [e0, no (p.1 + 1, p.2) p (.inl (by show p.1 < p.1 + 1; omega)), Bool.or_false]
  have f1 : at4 es p 1 = decide ((p, (p.1, p.2 + 1)) ∈ es) := by
    unfold at4; rw [e1, no (p.1, p.2 + 1) p (.inr ⟨rfl, by show p.2 < p.2 + 1; omega⟩), Bool.or_false]
  have f2 : at4 es p 2 = decide (((p.1 - 1, p.2), p) ∈ es) := by
    unfold at4; rw [e2, no p (p.1 - 1, p.2) (.inl (by show p.1 - 1 < p.1; omega)), Bool.false_or]
  have f3 : at4 es p 3 = decide (((p.1, p.2 - 1), p) ∈ es) := by
    unfold at4; rw [e3, no p (p.1, p.2 - 1) (.inr ⟨rfl, by show p.2 - 1 < p.2; omega⟩), Bool.false_or]
  rw [f0, f1, f2, f3]
  rfl

/-! ### how many edges there are -/
/-- t deeds on the sets of edges within U: behind a deed of putting, behind a turn -/
def Few (U F : List Ed) (t : Nat) : Prop :=
  (∃ A : List Ed, A.length ≤ 34 * t ∧ ∀ e ∈ F, e ∈ A ∨ e ∈ U) ∨ (∃ A : List Ed, A.length ≤ 34 * (t + 1) ∧ ∀ e ∈ F, e ∈ A)
theorem Few.cover {U F : List Ed} {t : Nat} (h : Few U F t) (hU : U.length ≤ 68) (ht : t ≤ 8) : ∃ W : List Ed, W.length ≤ 374 ∧ (∀ e ∈ F, e ∈ W) ∧ ∀ e ∈ U, e ∈ W := by
  rcases h with ⟨A, hA, h⟩ | ⟨A, hA, h⟩
  · exact ⟨A ++ U, by rw [List.length_append]; omega, fun e he => List.mem_append.mpr (h e he), fun e he => List.mem_append_right _ he⟩
  · exact ⟨A ++ U, by rw [List.length_append]; omega, fun e he => List.mem_append_left _ (h e he), fun e he => List.mem_append_right _ he⟩
theorem Few.put {U F G R : List Ed} {t k : Nat} (h : Few U F t) (hR : ∀ e ∈ R, e ∈ U) (x : Put k F R G) : Few U G (t + 1) := by
  rcases h with ⟨A, hA, h⟩ | ⟨A, hA, h⟩
  · refine .inl ⟨A, by omega, fun e he => ?_⟩
    rcases x.sub e he with q | q
    · exact h e q
    · exact .inr (hR e q)
  · refine .inl ⟨A, hA, fun e he => ?_⟩
    rcases x.sub e he with q | q
    · exact .inl (h e q)
    · exact .inr (hR e q)
theorem Few.turn {U F G : List Ed} {t : Nat} {k : Bool} (h : Few U F t) (hU : U.length ≤ 68) (x : Turned k F G) : Few U G (t + 1) := by
  rcases h with ⟨A, hA, h⟩ | ⟨A, hA, h⟩
  · refine .inr ⟨(A ++ U).map (tE k), by rw [List.length_map, List.length_append]; omega, fun e he => ?_⟩
    obtain ⟨f, hf, rfl⟩ := (x.mem e).mp he
    exact List.mem_map.mpr ⟨f, List.mem_append.mpr (h f hf), rfl⟩
  · refine .inr ⟨A.map (tE k), by rw [List.length_map]; omega, fun e he => ?_⟩
    obtain ⟨f, hf, rfl⟩ := (x.mem e).mp he
    exact List.mem_map.mpr ⟨f, h f hf, rfl⟩
theorem Few.start {U F : List Ed} (h : ∀ e ∈ F, e ∈ U) : Few U F 0 := .inl ⟨[], Nat.zero_le _, fun e he => .inr (h e he)⟩
theorem Turned.cover {k : Bool} {F G W : List Ed} (x : Turned k F G) (h : ∀ e ∈ F, e ∈ W) : ∀ e ∈ G, e ∈ W.map (tE k) := fun e he => by
  obtain ⟨f, hf, rfl⟩ := (x.mem e).mp he
  exact List.mem_map.mpr ⟨f, h f hf, rfl⟩
end NC
/-! Sets of the model at any size up to some hundreds: each slot is met on the way of each hash, for tables of 2^k slots. -/
namespace NC
open PySem PySem.Spec PyProof.Rows L2

/-! ### i -> 5 i + 1 runs through all of 2^k -/
def fN : Nat → Nat
  | 0 => 0
  | n + 1 => 5 * fN n + 1
theorem fN_pow (n : Nat) : 4 * fN n + 1 = 5 ^ n := by
  induction n with
  | zero => rfl
  | succ n ih => rw [Nat.pow_succ, ← ih]; show 4 * (5 * fN n + 1) + 1 = _; omega
theorem fN_add (a b : Nat) : fN (a + b) = 5 ^ a * fN b + fN a := by
  induction b with
  | zero => show fN a = 5 ^ a * 0 + fN a; omega
  | succ b ih =>
    show 5 * fN (a + b) + 1 = 5 ^ a * (5 * fN b + 1) + fN a
    have h := fN_pow a
    rw [ih, Nat.mul_add 5, Nat.mul_add (5 ^ a), Nat.mul_left_comm 5 (5 ^ a), Nat.mul_one]
    omega
theorem fN_two (k : Nat) : ∃ q, fN (2 ^ k) = 2 ^ k * (2 * q + 1) := by
  induction k with
  | zero => exact ⟨0, rfl⟩
  | succ k ih =>
    obtain ⟨q, hq⟩ := ih
    have e : fN (2 ^ (k + 1)) = 2 * fN (2 ^ k) * (2 * fN (2 ^ k) + 1) := by
      have h2 : 2 ^ (k + 1) = 2 ^ k + 2 ^ k := by rw [Nat.pow_succ]; omega
      rw [h2, fN_add, ← fN_pow]
      generalize fN (2 ^ k) = x
      rw [Nat.add_mul, Nat.mul_add, Nat.one_mul, Nat.mul_one]
      have e1 : 4 * x * x = 2 * x * (2 * x) := by rw [Nat.mul_mul_mul_comm]; simp [Nat.mul_assoc]
      omega
    refine ⟨fN (2 ^ k) * (2 * q + 1) + q, ?_⟩
    rw [e]
    generalize fN (2 ^ k) = x at hq
    have e2 : 2 * (x * (2 * q + 1) + q) + 1 = (2 * q + 1) * (2 * x + 1) := by
      rw [Nat.mul_add (2 * q + 1), Nat.mul_one, Nat.mul_left_comm, Nat.mul_comm (2 * q + 1) x]
      omega
    rw [e2, Nat.pow_succ, Nat.mul_comm (2 ^ k) 2, Nat.mul_assoc 2 (2 ^ k), ← Nat.mul_assoc (2 ^ k), ← hq, Nat.mul_assoc]
theorem fN_cover : ∀ (k j : Nat), j < 2 ^ k → ∃ b, b < 2 ^ k ∧ fN b % 2 ^ k = j
  | 0, j, h => ⟨0, by decide, by
    have : j = 0 := by simpa using h
    rw [this]; rfl⟩
  | k + 1, j, h => by
    have hp : 0 < 2 ^ k := Nat.pow_pos (by decide)
    have e2 : 2 ^ (k + 1) = 2 ^ k + 2 ^ k := by rw [Nat.pow_succ]; omega
    obtain ⟨b, hb, e⟩ := fN_cover k (j % 2 ^ k) (Nat.mod_lt _ hp)
    -- the two residues above
    have cases2 : ∀ x : Nat, x % 2 ^ k = j % 2 ^ k → x % 2 ^ (k + 1) = j ∨ (x + 2 ^ k) % 2 ^ (k + 1) = j := fun x hx => by
      have hj := Nat.mod_add_div j (2 ^ k)
      have hxx := Nat.mod_add_div x (2 ^ k)
      have hjd : j / 2 ^ k < 2 := Nat.div_lt_of_lt_mul (by omega)
      have hx2 : x % 2 ^ (k + 1) = x % 2 ^ k + 2 ^ k * (x / 2 ^ k % 2) := by rw [Nat.pow_succ, Nat.mod_mul]
      have hy2 : (x + 2 ^ k) % 2 ^ (k + 1) = x % 2 ^ k + 2 ^ k * ((x / 2 ^ k + 1) % 2) := by
        rw [Nat.pow_succ, Nat.mod_mul, Nat.add_mod_right, Nat.add_div_right _ hp]
      rw [hx2, hy2, hx]
      have c1 : x / 2 ^ k % 2 = j / 2 ^ k ∨ (x / 2 ^ k + 1) % 2 = j / 2 ^ k := by
        generalize x / 2 ^ k = u
        generalize j / 2 ^ k = v at hjd
        omega
      rcases c1 with c | c
      · left; rw [c]; exact hj
      · right; rw [c]; exact hj
    rcases cases2 (fN b) e with c | c
    · exact ⟨b, by omega, c⟩
    · refine ⟨b + 2 ^ k, by omega, ?_⟩
      obtain ⟨q, hq⟩ := fN_two k
      rw [fN_add, hq]
      -- 5^b is odd
      have ho := fN_pow b
      have e3 : 5 ^ b * (2 ^ k * (2 * q + 1)) = 2 ^ k + 2 ^ (k + 1) * (q + 2 * fN b * (2 * q + 1)) := by
        rw [← ho, Nat.pow_succ, Nat.mul_left_comm, Nat.mul_assoc]
        have e4 : (4 * fN b + 1) * (2 * q + 1) = 1 + 2 * (q + 2 * fN b * (2 * q + 1)) := by
          have z : ∀ F r : Nat, 4 * F * r = 2 * (2 * F * r) := fun F r => by
            rw [Nat.mul_assoc, Nat.mul_assoc]
            omega
          rw [Nat.add_mul, Nat.one_mul, z, Nat.mul_add 2 q]
          omega
        rw [e4, Nat.mul_add, Nat.mul_one]
      rw [e3, Nat.add_right_comm, Nat.add_mul_mod_self_left, Nat.add_comm]
      exact c
theorem lcgN_f (m : Nat) : ∀ n, lcgN m n = fN n % (m + 1)
  | 0 => (Nat.zero_mod _).symm
  | n + 1 => by
    show (lcgN m n * 5 + 1) % (m + 1) = (5 * fN n + 1) % (m + 1)
    rw [lcgN_f m n, Nat.mul_comm 5, Nat.add_mod, Nat.mul_mod, Nat.mod_mod, ← Nat.mul_mod, ← Nat.add_mod]
/-- the masks that come here -/
def Mk (m : Nat) : Prop := ∃ k, 3 ≤ k ∧ m + 1 = 2 ^ k
theorem Mk.seven : Mk 7 := ⟨3, Nat.le_refl _, rfl⟩
theorem Mk.odd {m : Nat} (h : Mk m) : m % 2 = 1 := by
  obtain ⟨k, hk, e⟩ := h
  obtain ⟨j, rfl⟩ : ∃ j, k = j + 1 := ⟨k - 1, by omega⟩
  rw [Nat.pow_succ] at e
  omega
theorem lcg_allK {m : Nat} (hm : Mk m) {j : Nat} (hj : j ≤ m) : ∃ b, b ≤ m ∧ lcgN m b = j := by
  obtain ⟨k, _, e⟩ := hm
  obtain ⟨b, hb, eb⟩ := fN_cover k j (by omega)
  exact ⟨b, by omega, by rw [lcgN_f, e]; exact eb⟩
theorem lcg_roundK {m : Nat} (hm : Mk m) : lcgN m (m + 1) = 0 := by
  obtain ⟨k, _, e⟩ := hm
  obtain ⟨q, hq⟩ := fN_two k
  rw [lcgN_f, e, hq]
  exact Nat.mul_mod_right _ _
theorem lcgN_modK {m : Nat} (hm : Mk m) : ∀ k, lcgN m (m + 1 + k) = lcgN m k
  | 0 => lcg_roundK hm
  | k + 1 => congrArg (fun z => (z * 5 + 1) % (m + 1)) (lcgN_modK hm k)
theorem lcgI_allK {m : Nat} (hm : Mk m) {i j : Nat} (hi : i ≤ m) (hj : j ≤ m) : ∃ k, k ≤ m ∧ lcgI m i k = j := by
  obtain ⟨a, ha, rfl⟩ := lcg_allK hm hi
  obtain ⟨b, hb, rfl⟩ := lcg_allK hm hj
  by_cases c : a ≤ b
  · exact ⟨b - a, by omega, by rw [lcgN_add]; congr 1; omega⟩
  · exact ⟨b + (m + 1) - a, by omega, by rw [lcgN_add, ← lcgN_modK hm b]; congr 1; omega⟩
theorem run_meetsK {m : Nat} (hm : Mk m) (h : Int) {j : Nat} (hj : j ≤ m) : ∃ n, n ≤ m + 12 ∧ runI m (SetTable.bits h) n = j := by
  obtain ⟨k, hk, e⟩ := lcgI_allK hm (runI_le m (SetTable.bits h) 12) hj
  exact ⟨12 + k, by omega, (runI_tail (bits_lt h) k).trans e⟩
theorem nth_meetsK {m : Nat} (hm : Mk m) (h : Int) {j : Nat} (hj : j ≤ m) : ∃ k, k < 10 * SetTable.turns m ∧ way m h k = j := by
  obtain ⟨n, hn, e⟩ := run_meetsK hm h hj
  obtain ⟨k, hk, e2⟩ := run_nth m (SetTable.bits h) n
  exact ⟨k, by unfold SetTable.turns; omega, (congrArg SetTable.Probe.j e2).trans e⟩
theorem wayK_le (m : Nat) (h : Int) (k : Nat) : way m h k ≤ m := by
  have hi : SetTable.bits h % (m + 1) ≤ m := Nat.le_of_lt_succ (Nat.mod_lt _ (Nat.succ_pos _))
  have r := runEnd_bd hi
  have q := nth_in (m := m) k (runAt m (SetTable.bits h % (m + 1)) (SetTable.bits h)) (by
    show SetTable.bits h % (m + 1) + (SetTable.runEnd m (SetTable.bits h % (m + 1)) - SetTable.bits h % (m + 1)) ≤ m
    omega)
  exact Nat.le_trans (Nat.le_add_right _ _) q

/-! ### the table's word -/
structure TabK (t : SetTable) (hs : List Int) : Prop where
  ris : Ris t.place.toList
  dm : t.dummies = #[]
  sz : t.place.size = hs.length
  mok : Mk t.mask
  bd : ∀ x ∈ t.place.toList, x ≤ t.mask
  reach : ∀ (i : Nat) (h : Int) (j : Nat), hs[i]? = some h → t.place.toList[i]? = some j → ∃ k, way t.mask h k = j ∧ ∀ k', k' < k → way t.mask h k' ∈ t.place.toList
theorem TabK.first {t : SetTable} {hs : List Int} (T : TabK t hs) (hl : hs.length ≤ t.mask) (h : Int) :
    ∃ K, K < 10 * SetTable.turns t.mask ∧ way t.mask h K ∉ t.place.toList ∧ ∀ k, k < K → way t.mask h k ∈ t.place.toList := by
  obtain ⟨j, hj, hn⟩ := st_missing t.place.toList (t.mask + 1) (by rw [Array.length_toList, T.sz]; omega)
  obtain ⟨k, hk, e⟩ := nth_meetsK T.mok h (Nat.le_of_lt_succ hj)
  obtain ⟨K, h1, h2, h3⟩ := st_least (p := fun k => way t.mask h k ∉ t.place.toList) k (fun z => hn (e ▸ z))
  exact ⟨K, Nat.lt_of_le_of_lt h1 hk, h2, fun k' hk' => Classical.byContradiction fun c => h3 k' hk' c⟩
theorem TabK.before {t : SetTable} {hs : List Int} (T : TabK t hs) {h : Int} {K i j : Nat} (hK : way t.mask h K ∉ t.place.toList) (hi : hs[i]? = some h) (hj : t.place.toList[i]? = some j) :
    ∃ k, k < K ∧ way t.mask h k = j := by
  obtain ⟨k, e, hb⟩ := T.reach i h j hi hj
  refine ⟨k, Nat.lt_of_not_le fun c => ?_, e⟩
  rcases Nat.lt_or_eq_of_le c with c | c
  · exact hK (hb K c)
  · exact hK (by rw [c, e]; exact List.mem_of_getElem? hj)
theorem TabK.put {t : SetTable} {hs : List Int} (T : TabK t hs) {h : Int} {K : Nat} (hK : way t.mask h K ∉ t.place.toList) (hb : ∀ k, k < K → way t.mask h k ∈ t.place.toList) :
    ∃ p t1, t.put (way t.mask h K) = (t1, p) ∧ p ≤ hs.length ∧ TabK t1 (hs.take p ++ h :: hs.drop p) ∧ t1.mask = t.mask ∧ t1.led = t.led ∧ t1.plain = t.plain ∧ t1.fill = hs.length + 1 := by
  generalize hj : way t.mask h K = j at hK
  have hjm : j ≤ t.mask := hj ▸ wayK_le _ _ _
  obtain ⟨c1, _, _⟩ := below_cut T.ris j
  have hszl : t.place.toList.length = hs.length := (Array.length_toList).trans T.sz
  have hpl : SetTable.below t.place j ≤ t.place.toList.length := by rw [Array.length_toList]; exact c1
  have hph : SetTable.below t.place j ≤ hs.length := hszl ▸ hpl
  have hpp := put_place t j
  have hin : ∀ {x : Nat}, x ∈ (t.put j).1.place.toList ↔ x = j ∨ x ∈ t.place.toList := fun {x} => by rw [hpp]; exact mem_ins
  have hsize : (t.put j).1.place.size = hs.length + 1 := by
    rw [← Array.length_toList, hpp, len_ins _ hpl, hszl]
  refine ⟨SetTable.below t.place j, (t.put j).1, rfl, hph, ⟨?_, put_dm T.dm j, by rw [len_ins _ hph]; exact hsize, T.mok, fun x hx => ?_, fun i h' j' h1 h2 => ?_⟩, rfl, rfl, rfl, ?_⟩
  · exact ris_insert T.ris fun e => hK (List.mem_of_getElem? (by rw [Array.getElem?_toList]; exact e))
  · rcases hin.mp hx with rfl | z
    · exact hjm
    · exact T.bd x z
  · have old : ∀ i' : Nat, hs[i']? = some h' → t.place.toList[i']? = some j' → ∃ k, way (t.put j).1.mask h' k = j' ∧ ∀ k', k' < k → way (t.put j).1.mask h' k' ∈ (t.put j).1.place.toList := fun i' a b => by
      obtain ⟨k, e, z⟩ := T.reach i' h' j' a b
      exact ⟨k, e, fun k' hk' => hin.mpr (.inr (z k' hk'))⟩
    rw [tins_get hs hph] at h1
    rw [hpp, tins_get _ hpl] at h2
    by_cases c : i < SetTable.below t.place j
    · rw [if_pos c] at h1 h2
      exact old i h1 h2
    · rw [if_neg c] at h1 h2
      by_cases d : i = SetTable.below t.place j
      · rw [if_pos d] at h1 h2
        cases h1
        cases h2
        exact ⟨K, hj, fun k' hk' => hin.mpr (.inr (hb k' hk'))⟩
      · rw [if_neg d] at h1 h2
        exact old (i - 1) h1 h2
  · show (t.put j).1.place.size + (t.put j).1.dummies.size = _
    rw [hsize, put_dm T.dm j]
    rfl

/-! ### laid anew -/
theorem free_findK {m : Nat} (hm : Mk m) (owner : Array (Option Nat)) (h : Int) {j : Nat} (hj : j ≤ m) (hf : oAt owner j = none) :
    ∃ K, SetTable.layClean.free m owner (SetTable.turns m) (SetTable.bits h % (m + 1)) (SetTable.bits h) = some (way m h K) ∧ oAt owner (way m h K) = none ∧ ∀ k, k < K → oAt owner (way m h k) ≠ none := by
  obtain ⟨n, hn, e⟩ := run_meetsK hm h hj
  have hw : way m h (off m (SetTable.bits h % (m + 1)) (SetTable.bits h) n) = j := by
    have z := nth_off m n (SetTable.bits h % (m + 1)) (SetTable.bits h)
    rw [itL_run] at z
    exact (congrArg SetTable.Probe.j z).trans e
  obtain ⟨K, k1, k2, k3⟩ := st_least (p := fun k => oAt owner (way m h k) = none) _ (by show oAt owner (way m h (off m (SetTable.bits h % (m + 1)) (SetTable.bits h) n)) = none; rw [hw]; exact hf)
  refine ⟨K, free_spec m owner (SetTable.turns m) n _ _ K (by unfold SetTable.turns; omega) k1 (fun k hk => ?_) (by rw [k2]; rfl), k2, k3⟩
  cases z : oAt owner (way m h k) with
  | none => exact absurd z (k3 k hk)
  | some _ => rfl
theorem own_stepK {m : Nat} (hm : Mk m) {done : List Int} {owner : Array (Option Nat)} (W : Own m done owner) (hl : done.length ≤ m) (h : Int) :
    ∃ j, SetTable.layClean.free m owner (SetTable.turns m) (SetTable.bits h % (m + 1)) (SetTable.bits h) = some j ∧ Own m (done ++ [h]) (owner.setIfInBounds j (some done.length)) := by
  obtain ⟨ps, hps, hin⟩ := W.ps
  obtain ⟨j0, h0, hn0⟩ := st_missing ps (m + 1) (by omega)
  have hj0 : oAt owner j0 = none := Classical.byContradiction fun z => hn0 (hin j0 (Nat.le_of_lt_succ h0) z)
  obtain ⟨K, e1, e2, e3⟩ := free_findK hm owner h (Nat.le_of_lt_succ h0) hj0
  have hjm := wayK_le m h K
  generalize hj : way m h K = j at e1 e2 hjm
  have hjs : j < owner.size := by rw [W.sz]; omega
  have hself := oAt_set_self (some done.length) hjs
  have hoth : ∀ {i : Nat}, i ≠ j → oAt (owner.setIfInBounds j (some done.length)) i = oAt owner i := fun {i} c => oAt_set_ne _ c
  have mono : ∀ {i : Nat}, oAt owner i ≠ none → oAt (owner.setIfInBounds j (some done.length)) i ≠ none := fun {i} hi => by
    rw [hoth fun c => hi (by rw [c]; exact e2)]
    exact hi
  refine ⟨j, e1, by rw [Array.size_setIfInBounds]; exact W.sz, fun i k hi e => ?_, fun k hk => ?_, j :: ps, by simp [hps], fun i hi e => ?_⟩
  · by_cases c : i = j
    · subst c
      rw [hself] at e
      cases e
      exact ⟨h, K, by simp, hj, fun k' hk' => mono (e3 k' hk')⟩
    · rw [hoth c] at e
      obtain ⟨h', K', a1, a2, a3⟩ := W.at_ i k hi e
      exact ⟨h', K', by rw [List.getElem?_append_left (List.getElem?_eq_some_iff.mp a1).1]; exact a1, a2, fun k' hk' => mono (a3 k' hk')⟩
  · by_cases c : k < done.length
    · obtain ⟨i, hi, e⟩ := W.all k c
      exact ⟨i, hi, by rw [hoth fun z => by rw [z, e2] at e; cases e]; exact e⟩
    · have ek : k = done.length := by simp at hk; omega
      exact ⟨j, hjm, by rw [ek]; exact hself⟩
  · by_cases c : i = j
    · exact c ▸ List.mem_cons_self
    · rw [hoth c] at e
      exact List.mem_cons_of_mem _ (hin i hi e)
theorem fold_okK {m : Nat} (hm : Mk m) : ∀ (rest done : List Int) (owner : Array (Option Nat)), Own m done owner → done.length + rest.length ≤ m →
    ∃ owner', rest.foldl (stepF m) (some (owner, done.length)) = some (owner', (done ++ rest).length) ∧ Own m (done ++ rest) owner'
  | [], done, owner, W, _ => ⟨owner, by rw [List.append_nil]; rfl, by rw [List.append_nil]; exact W⟩
  | h :: rest, done, owner, W, hl => by
    rw [List.length_cons] at hl
    obtain ⟨j, e, W'⟩ := own_stepK hm W (by omega) h
    obtain ⟨owner', f, W2⟩ := fold_okK hm rest (done ++ [h]) _ W' (by simp; omega)
    have ea : done ++ [h] ++ rest = done ++ h :: rest := by simp
    rw [ea] at f W2
    refine ⟨owner', ?_, W2⟩
    rw [List.foldl_cons, stepF_some e, ← f]
    simp
theorem layClean_okK {m : Nat} (hm : Mk m) {hs : Array Int} (hn : hs.size ≤ m) : ∃ owner, SetTable.layClean m hs = some owner ∧ Own m hs.toList owner := by
  obtain ⟨owner, f, W⟩ := fold_okK hm hs.toList [] _ (Own.init m) (by simpa using hn)
  rw [List.nil_append] at W
  refine ⟨owner, ?_, W⟩
  have f' : hs.toList.foldl (stepF m) (some (Array.replicate (m + 1) none, 0)) = some (owner, ([] ++ hs.toList).length) := f
  rw [layClean_eq, f']
  rfl
theorem relaid_okK (t : SetTable) {hs : Array Int} {wanted M : Nat} (hw : SetTable.sizeAbove wanted - 1 = M) (hM : Mk M) (hn : hs.size ≤ M) :
    ∃ t' order, t.relaid hs wanted = some (t', order) ∧ order.toList.Perm (List.range hs.size) ∧ TabK t' (order.toList.map fun i => hs.getD i 0) ∧ t'.mask = M ∧ t'.led = t.led ∧ t'.plain = t.plain := by
  obtain ⟨owner, e, W⟩ := layClean_okK hM hn
  have hr : t.relaid hs wanted = some (tabOf t M owner, ((liveOf M owner).map (·.2)).toArray) := by
    rw [relaid_eq, hw, e]
    rfl
  obtain ⟨r1, r2⟩ : Ris ((liveOf M owner).map (·.1)) ∧ ∀ x ∈ (liveOf M owner).map (·.1), x ∈ List.range (M + 1) :=
    ris_live (fun j => owner.getD j none) (List.range (M + 1)) (by unfold Ris; exact List.pairwise_lt_range)
  have nd : ((liveOf M owner).map (·.1)).Nodup := r1.imp fun h => Nat.ne_of_lt h
  have cov : ∀ k, k < hs.size → k ∈ (liveOf M owner).map (·.2) := fun k hk => by
    obtain ⟨j, b1, b2⟩ := W.all k (by rw [Array.length_toList]; exact hk)
    exact List.mem_map.mpr ⟨(j, k), (mem_live W.sz).2 ⟨b1, b2⟩, rfl⟩
  have hlen : (liveOf M owner).length = hs.size := by
    obtain ⟨ps, p1, p2⟩ := W.ps
    have a := nat_nodup_len ((liveOf M owner).map (·.1)) ps nd fun x hx => by
      obtain ⟨⟨y, k⟩, hq, rfl⟩ := List.mem_map.mp hx
      obtain ⟨b1, b2⟩ := (mem_live W.sz).1 hq
      exact p2 y b1 (by rw [b2]; exact fun z => nomatch z)
    have b := nat_nodup_len (List.range hs.size) ((liveOf M owner).map (·.2)) List.nodup_range fun k hk => cov k (List.mem_range.mp hk)
    have hz : hs.toList.length = hs.size := Array.length_toList
    rw [List.length_map, p1] at a
    rw [List.length_map, List.length_range] at b
    omega
  refine ⟨tabOf t M owner, _, hr, perm_range hs.size _ (by simpa using hlen) fun k hk => by simpa using cov k hk, ⟨r1, rfl, ?_, hM, fun x hx => Nat.le_of_lt_succ (List.mem_range.mp (r2 x hx)), fun i h j h1 h2 => ?_⟩, rfl, rfl, rfl⟩
  · show ((liveOf M owner).map (·.1)).toArray.size = _
    simp
  · have h1' : (((liveOf M owner).map (·.2)).map fun i => hs.getD i 0)[i]? = some h := h1
    have h2' : ((liveOf M owner).map (·.1))[i]? = some j := h2
    rw [List.getElem?_map, List.getElem?_map] at h1'
    rw [List.getElem?_map] at h2'
    cases hq : (liveOf M owner)[i]? with
    | none => rw [hq] at h2'; cases h2'
    | some q =>
      obtain ⟨y, k⟩ := q
      rw [hq] at h1' h2'
      obtain rfl : y = j := Option.some.inj h2'
      obtain rfl : hs.getD k 0 = h := Option.some.inj h1'
      obtain ⟨b1, b2⟩ := (mem_live W.sz).1 (List.mem_of_getElem? hq)
      obtain ⟨h0, K, a1, a2, a3⟩ := W.at_ y k b1 b2
      have e0 : hs.getD k 0 = h0 := by
        rw [Array.getD_eq_getD_getElem?, ← Array.getElem?_toList, a1]
        rfl
      rw [e0]
      refine ⟨K, a2, fun k' hk' => ?_⟩
      cases z : oAt owner (way M h0 k') with
      | none => exact absurd z (a3 k' hk')
      | some k2 => exact List.mem_map.mpr ⟨(way M h0 k', k2), (mem_live W.sz).2 ⟨wayK_le _ _ _, z⟩, rfl⟩
/-- the next size: a power of two, above what is asked, not much -/
theorem size_go (n : Nat) : ∀ (f k : Nat), n < 2 ^ (k + f) → ∃ i, SetTable.sizeAbove.go n f (2 ^ k) = 2 ^ (k + i) ∧ n < 2 ^ (k + i) ∧ (2 ^ (k + i) ≤ 2 * n ∨ i = 0)
  | 0, k, h => ⟨0, rfl, h, .inr rfl⟩
  | f + 1, k, h => by
    unfold SetTable.sizeAbove.go
    by_cases c : 2 ^ k ≤ n
    · rw [if_pos c, ← Nat.pow_succ]
      obtain ⟨i, e, h1, h2⟩ := size_go n f (k + 1) (by rw [Nat.add_right_comm]; exact h)
      have ek : k + 1 + i = k + (i + 1) := by omega
      rw [ek] at e h1 h2
      refine ⟨i + 1, e, h1, .inl ?_⟩
      rcases h2 with h2 | h2
      · exact h2
      · rw [h2]
        show 2 ^ (k + 1) ≤ 2 * n
        rw [Nat.pow_succ]
        omega
    · rw [if_neg c]
      exact ⟨0, rfl, by simpa using c, .inr rfl⟩
theorem size_above {n : Nat} (h : n < 2 ^ 60) : ∃ k, 3 ≤ k ∧ SetTable.sizeAbove n = 2 ^ k ∧ n < 2 ^ k ∧ 2 ^ k ≤ 2 * n + 8 := by
  obtain ⟨i, e, h1, h2⟩ := size_go n 64 3 (Nat.lt_of_lt_of_le h (Nat.pow_le_pow_right (by decide) (by decide)))
  refine ⟨3 + i, by omega, e, h1, ?_⟩
  rcases h2 with h2 | h2
  · omega
  · rw [h2]
    show 2 ^ 3 ≤ _
    omega
end NC
/-! Sets of edges: tuples of two tuples of two ints; set(list), sorted(set). -/
namespace NC
open PySem PySem.Spec PyProof.Rows L2

def ptK (p : Pt) : NestedKey := .tup [.num p.1, .num p.2]
def edK (e : Ed) : NestedKey := .tup [ptK e.1, ptK e.2]
theorem ptK_inj {p q : Pt} (h : ptK p = ptK q) : p = q := by
  unfold ptK at h
  injection h with h
  injection h with h1 h
  injection h with h2 _
  injection h1 with h1
  injection h2 with h2
  exact Prod.ext h1 h2
theorem edK_inj {e f : Ed} (h : edK e = edK f) : e = f := by
  unfold edK at h
  injection h with h
  injection h with h1 h
  injection h with h2 _
  exact Prod.ext (ptK_inj h1) (ptK_inj h2)
theorem edK_dec (e f : Ed) : decide (edK e = edK f) = decide (e = f) := decide_eq_decide.mpr ⟨edK_inj, fun h => congrArg edK h⟩
theorem edK_depth (e : Ed) : (edK e).depth ≤ 8 := by
  simp [edK, ptK, NestedKey.depth, NestedKey.depthAll]
theorem ptK_depth (e : Pt) : (ptK e).depth ≤ 8 := by
  simp [ptK, NestedKey.depth, NestedKey.depthAll]
def eh (w : World) (e : Ed) : Int := (edK e).hash w
/-- the object at a is a tuple that tells the edge e -/
abbrev IsE (h : Heap) (e : Ed) (a : Addr) : Prop := NestedIs h (edK e) (.ref a)
theorem IsE.nk {P : Program} {w : World} {h : Heap} {e : Ed} {a : Addr} (x : IsE h e a) : (nestedKind P w).is h (edK e) a := ⟨x, edK_depth e⟩
theorem IsE.keep {h h' : Heap} {e : Ed} {a : Addr} (x : IsE h e a) (hk : ∀ c o, h.get? c = some o → h'.get? c = some o) : IsE h' e a := NestedIs.at (fun a o _ _ ho _ => hk a o ho) _ _ x
/-- an edge isn't a set -/
theorem IsE.but {h h' : Heap} {e : Ed} {a b : Addr} {o : Obj} {es : Array (Int × Value)} {ep : Nat} {t : SetTable} (x : IsE h e b) (ho : h.get? a = some o) (hd : o.data = .set es ep t) (hs : Heap.SameBut a h h') : IsE h' e b :=
  NestedIs.at (fun c ob vs n hc hcd => (hs.2 c fun z => by
    subst z
    rw [ho] at hc
    cases hc
    rw [hd] at hcd
    cases hcd).trans hc) _ _ x
theorem IsE.inj {h : Heap} {e f : Ed} {a : Addr} (x : IsE h e a) (y : IsE h f a) : e = f := edK_inj (NestedIs.inj _ _ _ x y)

section
variable {P : Program} {w : World} {A : Around} {E : Value → Shared → Prop} {s : Shared}

/-! ### small questions asked of tuples of ints, n levels down -/
def CalmAt (P : Program) (w : World) (n : Nat) (s : Shared) (v : Value) : Prop :=
  (∀ (A : Around) (E : Value → Shared → Prop) (Q : Bool → Shared → Prop), Q false s → wpAny (model P w) A (ofAClassStatement n v) Q E s) ∧
  ∀ (A : Around) (E : Value → Shared → Prop) (Q : Bool → Shared → Prop), Q true s → wpAny (model P w) A (hashByValue n v) Q E s
theorem calm_int (n : Nat) (i : Int) (t : Tok) : CalmAt P w n s (.int i t) :=
  ⟨fun A E Q h => by rw [ofAClass_int]; exact wpAny_pure h, fun A E Q h => by rw [hashBy_int]; exact wpAny_pure h⟩
theorem calm_bool (n : Nat) (b : Bool) : CalmAt P w n s (.bool b) :=
  ⟨fun A E Q h => by cases n <;> exact wpAny_pure h, fun A E Q h => by cases n <;> exact wpAny_pure h⟩
theorem calm_tup {n m : Nat} {b : Addr} {o : Obj} {vs : Array Value} (ho : s.heap.get? b = some o) (hc : o.cls = .type "tuple") (hd : o.data = .seq vs m) (hi : ∀ v ∈ vs.toList, CalmAt P w n s v) : CalmAt P w (n + 1) s (.ref b) := by
  have hT : s.TypeIs (.ref b) "tuple" := ⟨o, ho, hc⟩
  refine ⟨fun A E Q h => ?_, fun A E Q h => ?_⟩
  · unfold ofAClassStatement
    refine wpAny_bind (wpAny_typeOf hT ?_)
    dsimp only
    have e : (("tuple" : String) == "tuple") = true := by decide
    simp only [e, if_true, Bool.not_true, Bool.false_eq_true, if_false]
    try refine wpAny_bind (wpAny_pure ?_)
    try simp only [Bool.not_true, Bool.false_eq_true, if_false]
    show wpAny _ _ (seqItems? (.ref b) >>= _) _ _ s
    refine wpAny_bind (wpAny_seqItems ho hd ?_)
    dsimp only
    refine wpAny_bind ?_
    show wpAny _ _ (forIn vs _ _) _ _ s
    rw [← Array.forIn_toList]
    refine wpAny_forIn_list _ (fun rest r s' => r.1 = none ∧ s' = s ∧ ∀ v ∈ rest, CalmAt P w n s v) _ ?_ ?_ _ _ ⟨rfl, rfl, hi⟩
    · rintro v rest r s' ⟨hr, rfl, hall⟩
      refine wpAny_bind ((hall v List.mem_cons_self).1 _ _ _ ?_)
      simp only [Bool.false_eq_true, if_false]
      exact wpAny_pure ⟨rfl, rfl, fun u hu' => hall u (List.mem_cons_of_mem _ hu')⟩
    · rintro ⟨r1, r2⟩ s' ⟨hr, rfl, _⟩
      simp only at hr
      subst hr
      exact wpAny_pure h
  · unfold hashByValue
    refine wpAny_bind (wpAny_specialOf hT F.slot_tuple_hash.lookup ?_)
    show wpAny _ _ (seqItems? (.ref b) >>= _) _ _ s
    refine wpAny_bind (wpAny_seqItems ho hd ?_)
    refine wpAny_bind ?_
    show wpAny _ _ (forIn vs _ _) _ _ s
    rw [← Array.forIn_toList]
    refine wpAny_forIn_list _ (fun rest r s' => r.1 = none ∧ s' = s ∧ ∀ v ∈ rest, CalmAt P w n s v) _ ?_ ?_ _ _ ⟨rfl, rfl, hi⟩
    · rintro v rest r s' ⟨hr, rfl, hall⟩
      refine wpAny_bind ((hall v List.mem_cons_self).2 _ _ _ ?_)
      simp only [Bool.not_true, Bool.false_eq_true, if_false]
      exact wpAny_pure ⟨rfl, rfl, fun u hu' => hall u (List.mem_cons_of_mem _ hu')⟩
    · rintro ⟨r1, r2⟩ s' ⟨hr, rfl, _⟩
      simp only at hr
      subst hr
      exact wpAny_pure h
theorem calm_num (n : Nat) {i : Int} {v : Value} (x : NestedIs s.heap (.num i) v) : CalmAt P w n s v := by
  cases x with
  | bool e => exact calm_bool n _
  | int _ t => exact calm_int n _ _
theorem calm_pt (n : Nat) {p : Pt} {v : Value} (x : NestedIs s.heap (ptK p) v) : CalmAt P w (n + 1) s v := by
  unfold ptK at x
  cases x with
  | tup h1 h2 h3 h4 =>
    refine calm_tup h1 h2 h3 ?_
    generalize Array.toList _ = l at h4
    cases h4 with
    | cons a h4 =>
      cases h4 with
      | cons b h4 =>
        cases h4
        intro v hv
        rcases List.mem_cons.mp hv with rfl | hv
        · exact calm_num n a
        · rw [List.mem_singleton.mp hv]; exact calm_num n b
theorem calm_ed (n : Nat) {e : Ed} {v : Value} (x : NestedIs s.heap (edK e) v) : CalmAt P w (n + 2) s v := by
  unfold edK at x
  cases x with
  | tup h1 h2 h3 h4 =>
    refine calm_tup h1 h2 h3 ?_
    generalize Array.toList _ = l at h4
    cases h4 with
    | cons a h4 =>
      cases h4 with
      | cons b h4 =>
        cases h4
        intro v hv
        rcases List.mem_cons.mp hv with rfl | hv
        · exact calm_pt n a
        · rw [List.mem_singleton.mp hv]; exact calm_pt n b
/-- a search among edges shows nothing -/
theorem seen_E {e : Ed} {b : Addr} {Q : Bool → Shared → Prop} (hk : IsE s.heap e b) {ys : List Value} (hy : ∀ y ∈ ys, ∃ f c, y = Value.ref c ∧ IsE s.heap f c) (h : Q false s) :
    wpAny (model P w) A (searchCouldBeSeen (.ref b) ys) Q E s := by
  unfold searchCouldBeSeen
  refine wpAny_bind ?_
  refine wpAny_forIn_list _ (fun rest r s' => r.1 = none ∧ s' = s ∧ ∀ y ∈ rest, ∃ f c, y = Value.ref c ∧ IsE s.heap f c) _ ?_ ?_ _ _ ⟨rfl, rfl, hy⟩
  · rintro v rest r s' ⟨hr, rfl, hall⟩
    obtain ⟨f, c, rfl, hc⟩ := hall v List.mem_cons_self
    have more : ∀ y ∈ rest, ∃ f c, y = Value.ref c ∧ IsE s'.heap f c := fun u hu' => hall u (List.mem_cons_of_mem _ hu')
    dsimp only
    by_cases hv : (b == c || (carriedByValue (.ref b) && carriedByValue (.ref c))) = true
    · exact wp_if_pos hv (wpAny_pure ⟨rfl, rfl, more⟩)
    · refine wp_if_neg hv ?_
      refine wpAny_bind ((nestedKind P w).quiet hk.nk ?_)
      simp only [Bool.not_true, Bool.false_eq_true, if_false]
      refine wpAny_bind ((nestedKind P w).quiet hc.nk ?_)
      simp only [Bool.not_true, Bool.false_eq_true, if_false]
      refine wpAny_bind ((calm_ed 6 hk).1 _ _ _ ?_)
      simp only [Bool.false_eq_true, if_false]
      refine wpAny_bind ((calm_ed 6 hc).1 _ _ _ ?_)
      simp only [Bool.false_eq_true, if_false]
      exact wpAny_pure ⟨rfl, rfl, more⟩
  · rintro ⟨r1, r2⟩ s' ⟨hr, rfl, _⟩
    simp only at hr
    subst hr
    exact wpAny_pure h

/-! ### the set -/
def rowsE (w : World) (L : List (Addr × Ed)) : List (Int × Value) := L.map fun p => (eh w p.2, Value.ref p.1)
structure SetE (w : World) (h : Heap) (a : Addr) (L : List (Addr × Ed)) (es : Array (Int × Value)) (ep : Nat) (t : SetTable) : Prop where
  ob : ∃ o, h.get? a = some o ∧ o.ExactSet ∧ o.data = .set es ep t
  rows : es.toList = rowsE w L
  tab : TabK t (L.map fun p => eh w p.2)
  nd : (L.map (·.2)).Nodup
  tup : ∀ p ∈ L, IsE h p.2 p.1
  plain : t.plain = true
  led : w.params.followText "set-order" = true ∨ t.led = true
  room : L.length * 5 < t.mask * 3
  few : L.length ≤ 800
  big : t.mask ≤ 8191
variable {a : Addr} {L : List (Addr × Ed)} {es : Array (Int × Value)} {ep : Nat} {t : SetTable}
theorem rowsE_len {w : World} {L : List (Addr × Ed)} {es : Array (Int × Value)} (h : es.toList = rowsE w L) : es.size = L.length := by
  rw [← Array.length_toList, h]
  exact List.length_map _
theorem SetE.size (R : SetE w s.heap a L es ep t) : es.size = L.length := rowsE_len R.rows
theorem SetE.fits (R : SetE w s.heap a L es ep t) : t.fits es.size = true := by
  have h1 := R.tab.sz
  rw [List.length_map] at h1
  have h2 := R.size
  have h3 := R.room
  unfold SetTable.fits SetTable.fill
  rw [R.tab.dm, Bool.and_eq_true, beq_iff_eq, decide_eq_true_eq]
  show t.place.size = es.size ∧ t.place.size + 0 ≤ t.mask
  omega
theorem SetE.entry (R : SetE w s.heap a L es ep t) {i : Nat} {p : Addr × Ed} (h : L[i]? = some p) : es[i]? = some (eh w p.2, Value.ref p.1) := by
  rw [← Array.getElem?_toList, R.rows]
  unfold rowsE
  rw [List.getElem?_map, h]
  rfl
theorem SetE.gw (R : SetE w s.heap a L es ep t) : ¬ t.gaveWay = true := by
  unfold SetTable.gaveWay
  rw [R.tab.mok.odd]
  decide

/-- the search for e, from the c-th step of its way on; K is the first free step -/
theorem search_E (R : SetE w s.heap a L es ep t) {x : Addr} {e : Ed} (hx : IsE s.heap e x) (hu : A.units + 8 < cLine) {K : Nat} (hKf : K < 10 * SetTable.turns t.mask)
    (hK : way t.mask (eh w e) K ∉ t.place.toList) (hKb : ∀ c, c < K → way t.mask (eh w e) c ∈ t.place.toList) {Q : SetFound → Shared → Prop}
    (hin : e ∈ L.map (·.2) → Q (.there none) s) (hout : e ∉ L.map (·.2) → Q (.free (way t.mask (eh w e) K) false) s) :
    ∀ (f c : Nat) (stand : Option SetTable.Probe), stand.getD (t.probeStart (eh w e)) = nth t.mask (t.probeStart (eh w e)) c → c ≤ K → K - c < f →
      (∀ (i : Nat) p, L[i]? = some p → p.2 = e → ∃ c', c ≤ c' ∧ c' < K ∧ t.place.toList[i]? = some (way t.mask (eh w e) c')) →
      wpAny (model P w) A (setSearchFrom a (.ref x) (eh w e) true f stand) Q E s := by
  obtain ⟨o, ho, hex, hd⟩ := R.ob
  intro f
  induction f with
  | zero => intro c stand _ _ hf _; exact absurd hf (Nat.not_lt_zero _)
  | succ f ih =>
    intro c stand hst hc hf hre
    rw [setSearchFrom_succ]
    refine wpAny_bind (wpAny_setState_of ho hd R.fits ?_)
    dsimp only
    refine wp_if_neg R.gw ?_
    try refine wpAny_bind (wpAny_pure ?_)
    have hnd : ∀ (n : Nat) (p : SetTable.Probe), p.dummy = none → (nth t.mask p n).dummy = none := by
      intro n
      induction n with
      | zero => intro p h; exact h
      | succ n ih => intro p h; exact ih (adv t.mask p) (by unfold adv; split <;> exact h)
    have sh : ∀ q, nth t.mask (nth t.mask (t.probeStart (eh w e)) c) q = nth t.mask (t.probeStart (eh w e)) (c + q) := fun q => (nth_add t.mask c _ q).symm
    have e1 : ∀ q, (nth t.mask (nth t.mask (t.probeStart (eh w e)) c) q).j = way t.mask (eh w e) (c + q) := fun q => congrArg SetTable.Probe.j (sh q)
    have spec := go_spec t R.tab.ris R.tab.dm (fun i => (es[i]?.map (·.1)).getD 0) (eh w e) (10 * SetTable.turns t.mask) (K - c) (nth t.mask (t.probeStart (eh w e)) c) (hnd c _ rfl) (by omega)
      (fun q hq => by rw [e1]; exact hKb (c + q) (by omega)) (by rw [e1, Nat.add_sub_cancel' hc]; exact hK)
    have hashAt : ∀ (i : Nat) p, L[i]? = some p → (es[i]?.map (·.1)).getD 0 = eh w p.2 := fun i p hp => by rw [R.entry hp, Option.map_some, Option.getD_some]
    rcases spec with ⟨q, i, hq, hi, hh, hno, hpr⟩ | ⟨hno, hpr⟩
    · -- a candidate
      rw [e1, sh] at hpr
      have hpr' : t.probe (fun i => (es[i]?.map (·.1)).getD 0) (eh w e) (stand.getD (t.probeStart (eh w e))) = some (.candidate (way t.mask (eh w e) (c + q)) i (nth t.mask (t.probeStart (eh w e)) (c + (q + 1)))) := by
        rw [hst]
        exact hpr
      rw [hpr']
      dsimp only
      rw [e1] at hi
      have hil : i < L.length := by
        have h1 := (List.getElem?_eq_some_iff.mp hi).1
        have h2 := R.tab.sz
        rw [List.length_map] at h2
        rw [Array.length_toList] at h1
        omega
      obtain ⟨p, hp⟩ : ∃ p, L[i]? = some p := ⟨_, List.getElem?_eq_getElem hil⟩
      have hmem : p ∈ L := List.mem_of_getElem? hp
      have hsl : t.slot (way t.mask (eh w e) (c + q)) = .live i := slot_live R.tab.ris hi
      -- what stands behind c's candidate is not passed
      have notPassed : p.2 ≠ e → ∀ (i0 : Nat) p0, L[i0]? = some p0 → p0.2 = e → ∃ c', c + (q + 1) ≤ c' ∧ c' < K ∧ t.place.toList[i0]? = some (way t.mask (eh w e) c') := fun hne i0 p0 h0 hk0 => by
        obtain ⟨c', a1, a2, a3⟩ := hre i0 p0 h0 hk0
        rcases Nat.lt_or_ge (c + q) c' with z | z
        · exact ⟨c', z, a2, a3⟩
        · exfalso
          by_cases y : c' = c + q
          · rw [y] at a3
            have s0 := slot_live R.tab.ris a3
            rw [hsl] at s0
            injection s0 with s0
            rw [← s0, hp] at h0
            cases h0
            exact hne hk0
          · refine hno (c' - c) i0 (by omega) (by rw [e1, Nat.add_sub_cancel' a1]; exact a3) ?_
            show (es[i0]?.map (·.1)).getD 0 = _
            rw [hashAt i0 p0 h0, hk0]
      have rest : wpAny (model P w) A (searchRest a (.ref x) (eh w e) true f es t (way t.mask (eh w e) (c + q)) i (nth t.mask (t.probeStart (eh w e)) (c + (q + 1)))) Q E s := by
        unfold searchRest
        rw [R.entry hp]
        dsimp only
        refine wpAny_bind (wpAny_holding ((nestedKind P w).eqBool hu (R.tup p hmem).nk hx.nk ?_))
        rw [edK_dec]
        refine wpAny_bind (wpAny_setState_of ho hd R.fits ?_)
        dsimp only
        by_cases hkk : p.2 = e
        · refine wp_if_pos (by simp [hkk]) ?_
          exact wpAny_pure (hin (List.mem_map.mpr ⟨p, hmem, hkk⟩))
        · refine wp_if_neg (by simp [hkk]) ?_
          try refine wpAny_bind (wpAny_pure ?_)
          rw [sameMem]
          dsimp only
          simp only [if_true, hsl, R.entry hp]
          refine wpAny_bind (wpAny_isSame_ref_self (wpAny_bind (wpAny_pure ?_)))
          simp only [if_true]
          refine wp_if_neg (by simp [hkk]) ?_
          exact ih (c + (q + 1)) _ rfl (by omega) (by omega) (notPassed hkk)
      by_cases hl : t.led = true
      · refine wp_if_neg (by simp [hl]) ?_
        try refine wpAny_bind (wpAny_pure ?_)
        exact rest
      · refine wp_if_pos (by simp [hl]) ?_
        refine wpAny_bind (seen_E hx (fun y hy => ?_) ?_)
        · obtain ⟨u, hu', rfl⟩ := List.mem_map.mp hy
          have he1 : u ∈ es ∧ u.1 = eh w e := by simpa using hu'
          have he2 : u ∈ es.toList := by simpa using he1.1
          rw [R.rows] at he2
          obtain ⟨p2, hp2, rfl⟩ := List.mem_map.mp he2
          exact ⟨p2.2, p2.1, rfl, R.tup p2 hp2⟩
        · refine wp_if_neg (by decide) ?_
          try refine wpAny_bind (wpAny_pure ?_)
          exact rest
    · -- the free slot
      rw [e1, Nat.add_sub_cancel' hc] at hpr
      have hpr' : t.probe (fun i => (es[i]?.map (·.1)).getD 0) (eh w e) (stand.getD (t.probeStart (eh w e))) = some (.empty (way t.mask (eh w e) K) none) := by
        rw [hst]
        exact hpr
      rw [hpr']
      dsimp only
      refine wpAny_pure (hout fun hm => ?_)
      obtain ⟨p0, h0, hk0⟩ := List.mem_map.mp hm
      obtain ⟨i0, hi0, e0⟩ := List.getElem_of_mem h0
      have h00 : L[i0]? = some p0 := by rw [List.getElem?_eq_getElem hi0, e0]
      obtain ⟨c', a1, a2, a3⟩ := hre i0 p0 h00 hk0
      refine hno (c' - c) i0 (by omega) (by rw [e1, Nat.add_sub_cancel' a1]; exact a3) ?_
      show (es[i0]?.map (·.1)).getD 0 = _
      rw [hashAt i0 p0 h00, hk0]
/-- the search as adding asks for it -/
theorem search_atE (R : SetE w s.heap a L es ep t) {x : Addr} {e : Ed} (hx : IsE s.heap e x) (hu : A.units + 8 < cLine) {Q : SetFound → Shared → Prop}
    (hin : e ∈ L.map (·.2) → Q (.there none) s)
    (hout : ∀ K, e ∉ L.map (·.2) → way t.mask (eh w e) K ∉ t.place.toList → (∀ c, c < K → way t.mask (eh w e) c ∈ t.place.toList) → Q (.free (way t.mask (eh w e) K) false) s) :
    wpAny (model P w) A (setSearch a (.ref x) (eh w e) true) Q E s := by
  have hroom := R.room
  have hbig := R.big
  obtain ⟨K, hKf, hK, hKb⟩ := R.tab.first (by rw [List.length_map]; omega) (eh w e)
  unfold setSearch
  refine search_E R hx hu hKf hK hKb hin (fun hn => hout K hn hK hKb) 100000 0 none rfl (Nat.zero_le _) (by unfold SetTable.turns at hKf; omega) fun i p hp hk => ?_
  have hi : (L.map fun p => eh w p.2)[i]? = some (eh w e) := by rw [List.getElem?_map, hp, ← hk]; rfl
  have hil : i < t.place.toList.length := by
    have h1 := (List.getElem?_eq_some_iff.mp hp).1
    have h2 := R.tab.sz
    rw [List.length_map] at h2
    rw [Array.length_toList]
    omega
  obtain ⟨c, hc, ec⟩ := R.tab.before hK hi (List.getElem?_eq_getElem hil)
  exact ⟨c, Nat.zero_le _, hc, by rw [ec]; exact List.getElem?_eq_getElem hil⟩
end
end NC
/-! Adding to a set of edges; set(xs); sorted(set). -/
namespace NC
open PySem PySem.Spec PyProof.Rows L2
section
variable {P : Program} {w : World} {A : Around} {E : Value → Shared → Prop} {s : Shared}
theorem rowsE_put (L : List (Addr × Ed)) (p : Nat) (x : Addr) (e : Ed) : rowsE w (L.take p ++ (x, e) :: L.drop p) = (rowsE w L).take p ++ (eh w e, Value.ref x) :: (rowsE w L).drop p := by
  unfold rowsE
  rw [List.map_append, List.map_cons, List.map_take, List.map_drop]
/-- the rows in another order -/
theorem rowsE_order (L : List (Addr × Ed)) (es : Array (Int × Value)) (order : Array Nat) (hr : es.toList = rowsE w L) (hp : order.toList.Perm (List.range L.length)) :
    ∃ L2, (order.filterMap (es[·]?)).toList = rowsE w L2 ∧ L2.Perm L ∧ (L2.map fun p => eh w p.2) = order.toList.map fun i => (es.map (·.1)).getD i 0 := by
  have hsz := rowsE_len hr
  have ent : ∀ (i : Nat) (p : Addr × Ed), L[i]? = some p → es[i]? = some (eh w p.2, Value.ref p.1) := fun i p h => by
    rw [← Array.getElem?_toList, hr]
    unfold rowsE
    rw [List.getElem?_map, h, Option.map_some]
  have key : ∀ l : List Nat, (∀ i ∈ l, i < L.length) → l.filterMap (fun i => es[i]?) = rowsE w (l.filterMap fun i => L[i]?) ∧ ((l.filterMap fun i => L[i]?).map fun p => eh w p.2) = l.map fun i => (es.map (·.1)).getD i 0 := by
    intro l
    induction l with
    | nil => intro _; exact ⟨rfl, rfl⟩
    | cons i l ih =>
      intro hl
      have hi := hl i List.mem_cons_self
      have hLi : L[i]? = some L[i] := List.getElem?_eq_getElem hi
      obtain ⟨e1, e2⟩ := ih fun j hj => hl j (List.mem_cons_of_mem _ hj)
      have e3 : (es.map (·.1)).getD i 0 = eh w (L[i]).2 := by
        rw [Array.getD_eq_getD_getElem?, Array.getElem?_map, ent i _ hLi, Option.map_some, Option.getD_some]
      rw [List.filterMap_cons_some (ent i _ hLi), List.filterMap_cons_some hLi, List.map_cons, List.map_cons, e1, e2, e3]
      refine ⟨?_, rfl⟩
      unfold rowsE
      rw [List.map_cons]
  obtain ⟨e1, e2⟩ := key order.toList fun i hi => List.mem_range.mp (hp.mem_iff.mp hi)
  refine ⟨order.toList.filterMap fun i => L[i]?, by rw [← e1]; simp, ?_, e2⟩
  have h2 : (List.range L.length).filterMap (fun i => L[i]?) = L := by
    have key2 : ∀ n, n ≤ L.length → (List.range n).filterMap (fun i => L[i]?) = L.take n := by
      intro n
      induction n with
      | zero => intro _; rfl
      | succ n ih =>
        intro hn
        rw [List.range_succ, List.filterMap_append, ih (by omega), List.take_succ, List.getElem?_eq_getElem hn, List.filterMap_cons_some (List.getElem?_eq_getElem hn)]
        rfl
    rw [key2 L.length (Nat.le_refl _), List.take_length]
  have h1 := hp.filterMap fun i => L[i]?
  rw [h2] at h1
  exact h1
variable {a : Addr} {L : List (Addr × Ed)} {es : Array (Int × Value)} {ep : Nat} {t : SetTable}
/-- the table is laid anew, larger -/
theorem relayE {o : Obj} (ho : s.heap.get? a = some o) (hex : o.ExactSet) (hd : o.data = .set es ep t) (hrows : es.toList = rowsE w L) (T0 : TabK t (L.map fun p => eh w p.2)) (hfl : L.length ≤ t.mask)
    (nd : (L.map (·.2)).Nodup) (tup : ∀ p ∈ L, IsE s.heap p.2 p.1) (pl : t.plain = true) (ld : w.params.followText "set-order" = true ∨ t.led = true) (few : L.length ≤ 800) {wanted : Nat} (hw : wanted = 4 * L.length) {Q : Unit → Shared → Prop}
    (hQ : ∀ h' L' es' ep' t', Heap.SameBut a s.heap h' → SetE w h' a L' es' ep' t' → L'.Perm L → Q () { s with heap := h' }) : wpAny (model P w) A (setRelay a wanted) Q E s := by
  have hsl := rowsE_len hrows
  have hsz := T0.sz
  rw [List.length_map] at hsz
  obtain ⟨k, hk3, hs, hk1, hk2⟩ := size_above (n := wanted) (Nat.lt_of_le_of_lt (show wanted ≤ 3200 by omega) (by decide))
  have hM : Mk (SetTable.sizeAbove wanted - 1) := ⟨k, hk3, by rw [hs]; omega⟩
  have hfits : t.fits es.size = true := by
    unfold SetTable.fits SetTable.fill
    rw [T0.dm, Bool.and_eq_true, beq_iff_eq, decide_eq_true_eq]
    show t.place.size = es.size ∧ t.place.size + 0 ≤ t.mask
    omega
  obtain ⟨t', order, e, hp, T, em, el, ep'⟩ := relaid_okK t (hs := es.map (·.1)) (wanted := wanted) rfl hM (by rw [Array.size_map, hsl]; omega)
  rw [Array.size_map, hsl] at hp
  obtain ⟨L2, r1, r2, r3⟩ := rowsE_order L es order hrows hp
  rw [← r3] at T
  have hs2 : (order.filterMap (es[·]?)).size = es.size := by rw [rowsE_len r1, r2.length_eq, hsl]
  rw [setRelay_eq]
  refine wpAny_bind (wpAny_setState_of ho hd hfits ?_)
  dsimp only
  refine wp_if_neg (by rw [sizeLine_eq, hs]; omega) ?_
  try refine wpAny_bind (wpAny_pure ?_)
  rw [e]
  dsimp only
  refine wpAny_bind ?_
  refine wp_if_neg (by rw [hs2]; simp) ?_
  try refine wpAny_bind (wpAny_pure ?_)
  refine wpAny_pure ?_
  dsimp only
  refine wpAny_storeSet_of ho hd ?_ (by rw [hs2, hsl, sizeLine_eq]; omega)
  have sb : Heap.SameBut a s.heap (s.heap.update a (Obj.putSet (order.filterMap (es[·]?)) t')) := Heap.SameBut.update ..
  have hl2 := r2.length_eq
  have hmask : t'.mask = 2 ^ k - 1 := by rw [em, hs]
  have h8 : 2 ^ 3 ≤ 2 ^ k := Nat.pow_le_pow_right (by decide) hk3
  have h88 : 2 ^ 3 = 8 := rfl
  refine hQ _ L2 (order.filterMap (es[·]?)) (ep + 1) t' sb ?_ r2
  exact ⟨⟨_, store_at ho hd, ⟨hex.1, hex.2.1, hex.2.2⟩, rfl⟩, r1, T, (r2.map (·.2)).nodup_iff.mpr nd, fun p hpm => (tup p (r2.mem_iff.mp hpm)).but ho hd sb, by rw [ep']; exact pl, by rw [el]; exact ld,
    by rw [hl2, hmask]; omega, by rw [hl2]; exact few, by rw [hmask]; omega⟩

/-- ADDING -/
theorem add_E (R : SetE w s.heap a L es ep t) {x : Addr} {e : Ed} (hx : IsE s.heap e x) (hu : A.units + 8 < cLine) (hfew : L.length + 1 ≤ 800) {Q : Bool → Shared → Prop}
    (hQ : ∀ b h' L' es' ep' t', Heap.SameBut a s.heap h' → SetE w h' a L' es' ep' t' → (e ∈ L.map (·.2) → L' = L) → (e ∉ L.map (·.2) → L'.Perm ((x, e) :: L)) → Q b { s with heap := h' }) :
    wpAny (model P w) A (setAddHashed a (.ref x) (eh w e)) Q E s := by
  obtain ⟨o, ho, hex, hd⟩ := R.ob
  have hsl := R.size
  have hroom := R.room
  unfold setAddHashed
  refine wpAny_holding ?_
  rw [show (100000 : Nat) = 99999 + 1 from rfl, setAddHashedIn_succ]
  refine wpAny_bind (wpAny_setState_of ho hd R.fits ?_)
  dsimp only
  refine wp_if_neg (by simp [byScan, Value.scannable]) ?_
  try refine wpAny_bind (wpAny_pure ?_)
  refine wpAny_bind (search_atE R hx hu (fun hm => ?_) fun K hm hK hb => ?_)
  · dsimp only
    exact wpAny_pure (hQ false s.heap L es ep t (Heap.SameBut.refl a s.heap) R (fun _ => rfl) fun z => absurd hm z)
  · dsimp only
    refine wpAny_bind (wpAny_setState_of ho hd R.fits ?_)
    dsimp only
    obtain ⟨p, t1, q1, q2, q3, q4, q5, q6, q9⟩ := R.tab.put hK hb
    rw [q1]
    dsimp only
    have hp1 : t1.plain = true := q6.trans R.plain
    rw [List.length_map] at q2 q9
    first
      | (refine wpAny_bind ?_; refine wp_if_pos hp1 ?_; refine (calm_ed 6 hx).2 _ _ _ ?_)
      | refine wp_if_pos hp1 (wpAny_bind ((calm_ed 6 hx).2 _ _ _ ?_))
    simp only [if_true]
    have hin : (SetTable.insertAt es p (eh w e, Value.ref x)).toList = rowsE w (L.take p ++ (x, e) :: L.drop p) := by
      rw [SetTable.toList_insertAt, rowsE_put, R.rows]
    have pm := put_perm L p (x, e)
    have hlen : (L.take p ++ (x, e) :: L.drop p).length = L.length + 1 := pm.length_eq
    have hhs : (L.take p ++ (x, e) :: L.drop p).map (fun p => eh w p.2) = (L.map fun p => eh w p.2).take p ++ eh w e :: (L.map fun p => eh w p.2).drop p := by
      rw [List.map_append, List.map_cons, List.map_take, List.map_drop]
    rw [← hhs] at q3
    have nd1 : ((L.take p ++ (x, e) :: L.drop p).map (·.2)).Nodup := by
      refine (pm.map (·.2)).nodup_iff.mpr ?_
      rw [List.map_cons]
      exact List.nodup_cons.mpr ⟨hm, R.nd⟩
    have hes := rowsE_len hin
    rw [hlen] at hes
    generalize SetTable.insertAt es p (eh w e, Value.ref x) = es1 at hin hes ⊢
    generalize L.take p ++ (x, e) :: L.drop p = L1 at pm hlen q3 nd1 hin
    refine wpAny_bind (wpAny_storeSet_of ho hd ?_ (by rw [hes, sizeLine_eq]; omega))
    have sb : Heap.SameBut a s.heap (s.heap.update a (Obj.putSet es1 t1)) := Heap.SameBut.update ..
    have ho1 := store_at (es' := es1) (t' := t1) ho hd
    generalize s.heap.update a (Obj.putSet es1 t1) = h1 at sb ho1 ⊢
    have tup1 : ∀ p ∈ L1, IsE h1 p.2 p.1 := fun p hp => by
      rcases List.mem_cons.mp (pm.mem_iff.mp hp) with rfl | hp
      · exact hx.but ho hd sb
      · exact (R.tup p hp).but ho hd sb
    have ld1 : w.params.followText "set-order" = true ∨ t1.led = true := by rw [q5]; exact R.led
    have hfull : t1.tooFull = decide ((L.length + 1) * 5 ≥ t1.mask * 3) := by unfold SetTable.tooFull; rw [q9]
    by_cases hf : t1.tooFull = true
    · first
        | (refine wpAny_bind ?_; refine wp_if_pos (by simp [hf]) ?_)
        | (refine wp_if_pos (by simp [hf]) ?_; refine wpAny_bind ?_)
      refine relayE (s := { s with heap := h1 }) ho1 ⟨hex.1, hex.2.1, hex.2.2⟩ rfl hin q3 (by rw [hlen, q4]; omega) nd1 tup1 hp1 ld1 (by omega) (by unfold SetTable.grown; rw [if_neg (by omega)]; omega) ?_
      intro h2 L2 es2 ep2 t2 sb2 R2 pm2
      exact wpAny_pure (hQ true h2 L2 es2 ep2 t2 (sb.trans sb2) R2 (fun z => absurd z hm) fun _ => pm2.trans pm)
    · first
        | refine wp_if_neg (by simp [hf]) ?_
        | (refine wpAny_bind ?_; refine wp_if_neg (by simp [hf]) ?_; refine wpAny_pure ?_)
      rw [hfull, decide_eq_true_eq] at hf
      exact wpAny_pure (hQ true h1 L1 es1 (ep + 1) t1 sb ⟨⟨_, ho1, ⟨hex.1, hex.2.1, hex.2.2⟩, rfl⟩, hin, q3, nd1, tup1, hp1, ld1, by omega, by omega, by rw [q4]; exact R.big⟩ (fun z => absurd z hm) fun _ => pm)
theorem SetE.keep {h h' : Heap} (R : SetE w h a L es ep t) (ha : ∀ o, h.get? a = some o → h'.get? a = some o) (ht : ∀ p ∈ L, IsE h' p.2 p.1) : SetE w h' a L es ep t := by
  obtain ⟨o, ho, r⟩ := R.ob
  exact ⟨⟨o, ha o ho, r⟩, R.rows, R.tab, R.nd, ht, R.plain, R.led, R.room, R.few, R.big⟩
theorem setE_fresh {h : Heap} (ho : h.get? a = some { cls := .type "set", dict := none, data := .set #[] 0 (.fresh 0 0 (!w.params.followText "set-order")) }) : SetE w h a [] #[] 0 (.fresh 0 0 (!w.params.followText "set-order")) where
  ob := ⟨_, ho, ⟨rfl, rfl, rfl⟩, rfl⟩
  rows := rfl
  tab := ⟨List.Pairwise.nil, rfl, rfl, Mk.seven, fun x hx => (by cases hx), fun i h j hi => (by simp at hi)⟩
  nd := List.nodup_nil
  tup := fun p hp => (by cases hp)
  plain := rfl
  led := by
    show _ ∨ (!w.params.followText "set-order") = true
    cases w.params.followText "set-order"
    · exact .inr rfl
    · exact .inl rfl
  room := by show 0 * 5 < 7 * 3; decide
  few := Nat.zero_le _
  big := by show 7 ≤ 8191; decide

/-- what the set has got of the first i items -/
structure GotE (ks : List (Addr × Ed)) (i : Nat) (L : List (Addr × Ed)) : Prop where
  sub : ∀ p ∈ L, p ∈ ks.take i
  all : ∀ p ∈ ks.take i, p.2 ∈ L.map (·.2)
  len : L.length ≤ i
theorem GotE.next {ks L L' : List (Addr × Ed)} {i : Nat} {x : Addr × Ed} (g : GotE ks i L) (h : ks[i]? = some x) (c1 : x.2 ∈ L.map (·.2) → L' = L) (c2 : x.2 ∉ L.map (·.2) → L'.Perm (x :: L)) : GotE ks (i + 1) L' := by
  have hk : ks.take (i + 1) = ks.take i ++ [x] := take_next h
  by_cases c : x.2 ∈ L.map (·.2)
  · obtain rfl := c1 c
    refine ⟨fun p hp => by rw [hk]; exact List.mem_append_left _ (g.sub p hp), fun p hp => ?_, Nat.le_succ_of_le g.len⟩
    rw [hk] at hp
    rcases List.mem_append.mp hp with z | z
    · exact g.all p z
    · rw [List.mem_singleton.mp z]; exact c
  · have pm := c2 c
    refine ⟨fun p hp => ?_, fun p hp => ?_, by rw [pm.length_eq]; exact Nat.succ_le_succ g.len⟩
    · rw [hk]
      rcases List.mem_cons.mp (pm.mem_iff.mp hp) with e | z
      · exact List.mem_append_right _ (List.mem_singleton.mpr e)
      · exact List.mem_append_left _ (g.sub p z)
    · rw [(pm.map (·.2)).mem_iff, List.map_cons]
      rw [hk] at hp
      rcases List.mem_append.mp hp with z | z
      · exact List.mem_cons_of_mem _ (g.all p z)
      · rw [List.mem_singleton.mp z]; exact List.mem_cons_self

/-- set.update's loop over edges -/
theorem set_updateE {I : Addr} {fp wr : List Addr} {G : Array GenState → Array GenState → Prop} {n : Nat} {Pv : Nat → Value → Prop} {St : Nat → Shared → Prop} {R : Result → Shared → Prop}
    (W : WalksS P w A.in1 I fp wr G n Pv St) (S : Addr) (hSf : S ∉ fp) (ks : List (Addr × Ed)) (hn : n = ks.length) (hfew : ks.length ≤ 799) (hval : ∀ i v, Pv i v → ∃ p, ks[i]? = some p ∧ v = .ref p.1)
    (h0 : Heap) (hk : ∀ p ∈ ks, IsE h0 p.2 p.1) (hS0 : h0.get? S = none) (hw0 : ∀ b ∈ wr, h0.get? b = none) (hu : A.in1.units + 8 < cLine) :
    ∀ (k i : Nat) (s : Shared), n - i = k → i ≤ n → St i s → (∀ b o, h0.get? b = some o → s.heap.get? b = some o) → (∃ L es ep t, SetE w s.heap S L es ep t ∧ GotE ks i L) →
      (∀ s' L es ep t, Moved (S :: wr) G s s' → SetE w s'.heap S L es ep t → GotE ks n L → (∀ b o, h0.get? b = some o → s'.heap.get? b = some o) → R (.ok (.ret .none)) s') →
      codeAny (model P w) A (.builtin "set.update.loop" ⟨[.ref S, .ref I], []⟩) R s := by
  have hSw : S ∉ wr := fun h => hSf (W.sub _ h)
  have hsub : ∀ b ∈ wr, b ∈ S :: wr := fun b hb => List.mem_cons_of_mem _ hb
  have keepM : ∀ {s s' : Shared}, Moved wr G s s' → (∀ b o, h0.get? b = some o → s.heap.get? b = some o) → ∀ b o, h0.get? b = some o → s'.heap.get? b = some o := fun hm hkp b o e =>
    hm.heap b o (fun hb => by rw [hw0 b hb] at e; cases e) (hkp b o e)
  have still : ∀ {i : Nat} {L : List (Addr × Ed)} {h : Heap}, GotE ks i L → (∀ b o, h0.get? b = some o → h.get? b = some o) → ∀ p ∈ L, IsE h p.2 p.1 := fun g kp p hp => (hk p (List.mem_of_mem_take (g.sub p hp))).keep kp
  intro k
  induction k with
  | zero =>
    intro i s hk' hi hst hkp ⟨L, es, ep, t, hS, g⟩ hR
    obtain rfl : i = n := by omega
    refine codeAny_builtin F.entry_set_update_loop ?_
    rw [Around.under_plainId F.plain_set_update_loop _]
    show wpAny _ A.in1 (pyNext (.ref I) >>= _) _ _ s
    refine wpAny_bind (W.done s _ _ hst fun s' hm => ?_)
    show wpAny _ A.in1 (ret Value.none) _ _ s'
    exact wpAny_pure (hR s' L es ep t (hm.mono hsub) (hS.keep (fun o e => hm.heap S o hSw e) (still g (keepM hm hkp))) g (keepM hm hkp))
  | succ k ih =>
    intro i s hk' hi hst hkp ⟨L, es, ep, t, hS, g⟩ hR
    have hlt : i < n := by omega
    refine codeAny_builtin F.entry_set_update_loop ?_
    rw [Around.under_plainId F.plain_set_update_loop _]
    show wpAny _ A.in1 (pyNext (.ref I) >>= _) _ _ s
    refine wpAny_bind (W.item i s _ _ hlt hst fun v s' hP hst' hm => ?_)
    obtain ⟨p, hp, rfl⟩ := hval i v hP
    have hkp' := keepM hm hkp
    have hS' : SetE w s'.heap S L es ep t := hS.keep (fun o e => hm.heap S o hSw e) (still g hkp')
    have hx : IsE s'.heap p.2 p.1 := (hk p (List.mem_of_getElem? hp)).keep hkp'
    show wpAny _ A.in1 (holding [Value.ref p.1] (setAdd S (.ref p.1)) >>= _) _ _ s'
    refine wpAny_bind (wpAny_holding ?_)
    unfold setAdd
    refine wpAny_holding ?_
    refine wpAny_bind ((nestedKind P w).pyHash hu hx.nk ?_)
    have glen := g.len
    refine add_E (s := { s' with toks := s'.toks + (nestedKind P w).draws (edK p.2) }) hS' hx hu (by omega) fun b h' L' es' ep' t' hsb hS2 c1 c2 => ?_
    have g' : GotE ks (i + 1) L' := g.next hp c1 c2
    have hkp2 : ∀ b o, h0.get? b = some o → h'.get? b = some o := fun b o e => (hsb.2 b (fun z => by rw [z, hS0] at e; cases e)).trans (hkp' b o e)
    refine wpAny_pure ⟨plainId_quiet F.plain_set_update_loop _, ih (i + 1) _ (by omega) hlt (W.frame _ s' _ _ hst' (Nat.le_add_right _ _) fun b hb o e => ?_) hkp2 ⟨L', es', ep', t', hS2, g'⟩ fun s'' L2 es2 ep2 t2 hm'' hS'' g'' hkp'' => ?_⟩
    · rw [hsb.2 b (fun h : b = S => hSf (by rw [← h]; exact hb))]; exact e
    · refine hR s'' L2 es2 ep2 t2 (Moved.trans W.gtrans ((hm.mono hsub).then_heap (Nat.le_add_right _ _) fun b o hb e => ?_) hm'') hS'' g'' hkp''
      rw [hsb.2 b (fun h : b = S => hb (by rw [h]; exact List.mem_cons_self))]; exact e
end
end NC
/-! set(xs) of a list of edges. -/
namespace NC
open PySem PySem.Spec PyProof.Rows L2
section
variable {P : Program} {w : World} {A : Around} {E : Value → Shared → Prop} {s : Shared}
/-- a set's object as it is made -/
abbrev set0 (w : World) : Obj := { cls := .type "set", dict := none, data := .set #[] 0 (.fresh 0 0 (!w.params.followText "set-order")) }
abbrev pushS (w : World) (s : Shared) : Shared := { s with heap := s.heap.push (set0 w) }

set_option maxHeartbeats 3200000 in
/-- set.__init__ fills the new set -/
theorem set_initE {l : Addr} {items : Array Value} (ks : List (Addr × Ed)) (hh : A.handled = none) (hl : s.heap.IsList l items) (hit : items.toList = ks.map fun p => Value.ref p.1)
    (hk : ∀ p ∈ ks, IsE s.heap p.2 p.1) (hfew : ks.length ≤ 799) (hu : A.units + 12 < cLine) :
    wpAny (model P w) A.in1.in1 (Builtin.«set.__init__» ⟨[.ref s.heap.objs.size, .ref l], []⟩) (fun fin s₂ => ∃ r, fin = .done (.ret r) ∧ (r = .none ∧ ∃ h' tk L es ep t, s₂ = { s with heap := h', toks := tk } ∧ SetE w h' s.heap.objs.size L es ep t ∧ GotE ks ks.length L ∧
          (∀ b o, s.heap.get? b = some o → h'.get? b = some o))) E (pushS w s) := by
  have hisz : items.size = ks.length := by
    rw [← Array.length_toList, hit]
    exact List.length_map _
  have hS : (pushS w s).heap.get? s.heap.objs.size = some (set0 w) := Heap.get?_push_size _ rfl
  obtain ⟨ol, hol, hcl, nl, hdl⟩ := hl
  obtain ⟨ocls, odict, odata, oslots⟩ := ol
  simp only at hcl hdl
  subst hcl
  subst hdl
  have hol' : (pushS w s).heap.get? l = some { cls := .type "list", dict := odict, data := .seq items nl, slots := oslots } := Heap.get?_push_of_some _ hol
  have hsls := F.sub_list_set
  have hslf := F.sub_list_frozenset
  have hne : (Value.type "list" == Value.type "dict") = false := by decide
  have hl1 : (pushS w s).heap.IsList l items := ⟨_, hol', rfl, nl, rfl⟩
  unfold Builtin.«set.__init__» noKeywords Builtin.Frozenset.updateFrom
  generalize hPI : pyIter = PI
  wp_walk
  subst hPI
  refine wpAny_pyIter_list hl1 ?_
  refine wpAny_bind (wpAny_runValue ?_)
  have hlS : l < s.heap.objs.size := Heap.lt_size hol
  have hh3 : A.in1.in1.in1.handled = none := by simp [hh]
  have hz1 : (s.heap.push (set0 w)).objs.size = s.heap.objs.size + 1 := Heap.size_push ..
  have none_of : ∀ b, s.heap.objs.size ≤ b → s.heap.get? b = none := fun b hb => by
    cases q : s.heap.get? b with
    | none => rfl
    | some o => exact absurd (Nat.lt_of_lt_of_le (Heap.lt_size q) hb) (Nat.lt_irrefl _)
  have hval : ∀ (i : Nat) (v : Value), items[i]? = some v → ∃ p, ks[i]? = some p ∧ v = .ref p.1 := fun i v hv => by
    have q : items.toList[i]? = some v := by rw [Array.getElem?_toList]; exact hv
    rw [hit, List.getElem?_map] at q
    cases hq : ks[i]? with
    | none => rw [hq] at q; cases q
    | some p => rw [hq] at q; exact ⟨p, rfl, (Option.some.inj q).symm⟩
  have hneI : l ≠ (s.heap.push (set0 w)).objs.size := by rw [hz1]; exact Nat.ne_of_lt (Nat.lt_succ_of_lt hlS)
  have hSf : s.heap.objs.size ∉ [(s.heap.push (set0 w)).objs.size, l] := by
    rw [hz1]
    simp only [List.mem_cons, List.not_mem_nil, or_false, not_or]
    exact ⟨Nat.ne_of_lt (Nat.lt_succ_self _), Nat.ne_of_gt hlS⟩
  refine set_updateE ((Walks.list hh3 _ l hneI items).toS) s.heap.objs.size hSf ks hisz hfew hval s.heap hk (none_of _ (Nat.le_refl _))
    (fun b hb => none_of b (by rw [List.mem_singleton.mp hb, hz1]; exact Nat.le_succ _)) (by simp only [Around.in1_units]; omega) (items.size - 0) 0 _ (by omega) (Nat.zero_le _)
    ⟨⟨_, Heap.get?_push_size _ rfl, rfl, rfl⟩, (hl1.push _)⟩ (fun b o e => Heap.get?_push_of_some _ (Heap.get?_push_of_some _ e)) ?hS0 ?hR
  case hS0 =>
    exact ⟨[], #[], 0, _, setE_fresh (Heap.get?_push_of_some _ hS), ⟨fun p h => (by cases h), fun p h => (by simp at h), Nat.le_refl _⟩⟩
  case hR =>
    intro s' L es ep t hm hS' g' hkp
    obtain ⟨h', g2, d', tk', os'⟩ := s'
    have eg : g2 = s.gens := hm.gens
    have ed : d' = s.drawn := hm.drawn
    have eo : os' = s.os := hm.os
    subst eg
    subst ed
    subst eo
    show wpAny _ _ _ _ _ _
    refine wpAny_pure ?_
    show wpAny _ _ (ret Value.none) _ _ _
    rw [hisz] at g'
    exact wpAny_pure ⟨_, rfl, rfl, h', tk', L, es, ep, t, rfl, hS', g', hkp⟩

set_option maxHeartbeats 3200000 in
/-- set(xs) -/
theorem call_setE {l : Addr} {items : Array Value} (ks : List (Addr × Ed)) {Q : Value → Shared → Prop} (hh : A.handled = none) (hl : s.heap.IsList l items) (hit : items.toList = ks.map fun p => Value.ref p.1)
    (hk : ∀ p ∈ ks, IsE s.heap p.2 p.1) (hfew : ks.length ≤ 799) (hu : A.units + 13 < cLine)
    (h : ∀ (h' : Heap) (tk : Nat) L es ep t, SetE w h' s.heap.objs.size L es ep t → GotE ks ks.length L → (∀ b o, s.heap.get? b = some o → h'.get? b = some o) → Q (.ref s.heap.objs.size) { s with heap := h', toks := tk }) :
    wpAny (model P w) A (call (.type "set") [.ref l]) Q E s := by
  obtain ⟨c, tl, hmro⟩ := F.called_set.mro
  have hmade := F.called_set.made
  have hsub := F.called_set.sub
  refine wpAny_call (codeAny_of_tree ?_)
  show wpAny _ _ (callAny (.type "set") _) _ _ _
  refine wpAny_pure ⟨Code.quiet_builtin _ (by decide +kernel), codeAny_builtin F.entry_type_call ?_⟩
  rw [Around.under_plain (weight_type_call_type "set" [.ref l] []) rfl]
  have h1 := F.called_set.notType
  have h2 := F.called_set.canCreate
  have hct := F.typeCall_set_1 (.ref l)
  repeat (any_goals (first | assumption | wp_step))
  refine codeAny_mono (code_set_led1 (.ref l) (E := E) (Q₁ := fun obj s₁ => obj = .ref s.heap.objs.size ∧ s₁ = pushS w s) ⟨rfl, rfl⟩) fun r s₁ hr => ?_
  cases r with
  | error e => exact hr
  | ok fl =>
    cases fl with
    | ret obj =>
      obtain ⟨rfl, rfl⟩ := hr
      have hS : (pushS w s).heap.get? s.heap.objs.size = some (set0 w) := Heap.get?_push_size _ rfl
      have hT : (pushS w s).TypeIs (.ref s.heap.objs.size) "set" := ⟨_, hS, rfl⟩
      have hli := F.called_set.init.lookup
      have hbi := F.called_set.init.bind (.ref s.heap.objs.size)
      repeat (any_goals (first | assumption | wp_step))
      refine codeAny_mono (codeAny_call_builtin (R := wants (fun r s₂ => r = .none ∧ ∃ h' tk L es ep t, s₂ = { s with heap := h', toks := tk } ∧ SetE w h' s.heap.objs.size L es ep t ∧ GotE ks ks.length L ∧
          (∀ b o, s.heap.get? b = some o → h'.get? b = some o)) E) F.called_set.init.plain F.entry_set_init (check_set_init_1 hT ?_)) fun r₂ s₂ hr₂ => ?_
      · exact wpAny_mono (set_initE ks hh hl hit hk hfew (by omega)) (fun fin s' ⟨r, e, q⟩ => by subst e; exact q) fun e s' z => z
      · cases r₂ with
        | error e => exact hr₂
        | ok fl₂ =>
          cases fl₂ with
          | ret r =>
            obtain ⟨rfl, h', tk, L, es, ep, t, rfl, hS', g', hk'⟩ := hr₂
            repeat (any_goals (first | assumption | wp_step))
            exact h _ _ _ _ _ _ hS' g' hk'
          | _ => exact hr₂.elim
    | _ => exact hr.elim
end
end NC
/-! Lists of edges and of points over the abstract heap: sorted, in, ==, set. -/
namespace NC
open PySem PySem.Spec PyProof.Rows L2

/-! ### edges and points in the abstract heap -/
def PtA (H : Hp) (a : Addr) (p : Pt) : Prop := H a = some (.tup [.int p.1, .int p.2])
def EdA (H : Hp) (a : Addr) (e : Ed) : Prop := ∃ b c, H a = some (.tup [.ref b, .ref c]) ∧ PtA H b e.1 ∧ PtA H c e.2
/-- the values of a list of addresses with what stands there -/
def rf {β : Type} (L : List (Addr × β)) : List V := L.map fun p => V.ref p.1
def EL (H : Hp) (L : List (Addr × Ed)) : Prop := ∀ p ∈ L, EdA H p.1 p.2
def PL (H : Hp) (L : List (Addr × Pt)) : Prop := ∀ p ∈ L, PtA H p.1 p.2
abbrev eds (L : List (Addr × Ed)) : List Ed := L.map (·.2)
abbrev pts (L : List (Addr × Pt)) : List Pt := L.map (·.2)
/-- the tuples stay -/
def Tk (H H' : Hp) : Prop := ∀ a xs, H a = some (.tup xs) → H' a = some (.tup xs)
theorem Tk.refl (H : Hp) : Tk H H := fun _ _ h => h
theorem Tk.trans {H H1 H2 : Hp} (a : Tk H H1) (b : Tk H1 H2) : Tk H H2 := fun c o h => b c o (a c o h)
theorem Tk.of {H H' : Hp} (s : Same H H') : Tk H H' := fun a xs h => s a _ h
theorem Tk.upd {H : Hp} {p : Addr} {o : HO} (h : H p = none) : Tk H (upd H p o) := fun a xs e => by rw [upd_ne (ne_of_none e h)]; exact e
/-- a thing that is no tuple is written -/
theorem Tk.wr {H : Hp} {p : Addr} {o u : HO} (h : H p = some u) (n : ∀ xs, u ≠ .tup xs) : Tk H (L2.upd H p o) := fun a xs e => by
  rw [upd_ne (ne_of e h fun z => n xs z.symm)]; exact e
theorem PtA.tk {H H' : Hp} {a : Addr} {p : Pt} (k : Tk H H') (h : PtA H a p) : PtA H' a p := k a _ h
theorem EdA.tk {H H' : Hp} {a : Addr} {e : Ed} (k : Tk H H') (h : EdA H a e) : EdA H' a e := by
  obtain ⟨b, c, h1, h2, h3⟩ := h
  exact ⟨b, c, k a _ h1, h2.tk k, h3.tk k⟩
theorem EL.tk {H H' : Hp} {L : List (Addr × Ed)} (k : Tk H H') (h : EL H L) : EL H' L := fun p hp => (h p hp).tk k
theorem PL.tk {H H' : Hp} {L : List (Addr × Pt)} (k : Tk H H') (h : PL H L) : PL H' L := fun p hp => (h p hp).tk k
theorem EL.nil (H : Hp) : EL H [] := fun p hp => by cases hp
theorem PL.nil (H : Hp) : PL H [] := fun p hp => by cases hp
theorem EL.app {H : Hp} {L M : List (Addr × Ed)} (a : EL H L) (b : EL H M) : EL H (L ++ M) := fun p hp => (List.mem_append.mp hp).elim (a p) (b p)
theorem PL.app {H : Hp} {L M : List (Addr × Pt)} (a : PL H L) (b : PL H M) : PL H (L ++ M) := fun p hp => (List.mem_append.mp hp).elim (a p) (b p)
theorem EL.one {H : Hp} {a : Addr} {e : Ed} (h : EdA H a e) : EL H [(a, e)] := fun p hp => by rw [List.mem_singleton.mp hp]; exact h
theorem PL.one {H : Hp} {a : Addr} {e : Pt} (h : PtA H a e) : PL H [(a, e)] := fun p hp => by rw [List.mem_singleton.mp hp]; exact h
theorem rf_app {β : Type} (L M : List (Addr × β)) : rf (L ++ M) = rf L ++ rf M := List.map_append
theorem rf_len {β : Type} (L : List (Addr × β)) : (rf L).length = L.length := List.length_map _
theorem rf_at {β : Type} {L : List (Addr × β)} {i : Nat} {x : V} (h : (rf L)[i]? = some x) : ∃ p, L[i]? = some p ∧ x = .ref p.1 := by
  unfold rf at h
  rw [List.getElem?_map] at h
  cases e : L[i]? with
  | none => rw [e] at h; cases h
  | some p => rw [e] at h; exact ⟨p, rfl, (Option.some.inj h).symm⟩

/-! ### as data -/
def ptD (p : Pt) : PyData := .tuple [.int p.1, .int p.2]
def edD (e : Ed) : PyData := .tuple [ptD e.1, ptD e.2]
theorem ptD_lay (p : Pt) : (ptD p).canLay0 = true := by simp [ptD, PyData.canLay0, PyData.canLayAll0]
theorem edD_lay (e : Ed) : (edD e).canLay0 = true := by simp [edD, ptD, PyData.canLay0, PyData.canLayAll0]
theorem ptD_depth (p : Pt) : (ptD p).depth ≤ 8 := by simp [ptD, PyData.depth, PyData.depthAll]
theorem edD_depth (e : Ed) : (edD e).depth ≤ 8 := by simp [edD, ptD, PyData.depth, PyData.depthAll]
theorem ptD_eqv (p q : Pt) : PyData.eqv (ptD p) (ptD q) = decide (p = q) := by
  have e : PyData.eqv (ptD p) (ptD q) = ((p.1 == q.1) && ((p.2 == q.2) && true)) := by simp only [ptD, PyData.eqv, PyData.eqvAll]
  rw [e, Bool.eq_iff_iff]
  simp [Prod.ext_iff]
theorem edD_eqv (e f : Ed) : PyData.eqv (edD e) (edD f) = decide (e = f) := by
  have h : PyData.eqv (edD e) (edD f) = (PyData.eqv (ptD e.1) (ptD f.1) && (PyData.eqv (ptD e.2) (ptD f.2) && true)) := by simp only [edD, PyData.eqv, PyData.eqvAll]
  rw [h, ptD_eqv, ptD_eqv, Bool.eq_iff_iff]
  simp [Prod.ext_iff]
theorem ptD_alike (p q : Pt) : PySem.W.alike (ptD p) (ptD q) = true := by simp [ptD, PySem.W.alike, PySem.W.alikeAll]
theorem edD_alike (e f : Ed) : PySem.W.alike (edD e) (edD f) = true := by simp [edD, ptD, PySem.W.alike, PySem.W.alikeAll]
theorem ptD_lt (p q : Pt) : PySem.W.dataLt (ptD p) (ptD q) = decide (ltP p q) := PySem.W.dataLt_ii _ _ _ _
theorem edD_lt (e f : Ed) : PySem.W.dataLt (edD e) (edD f) = decide (ltE e f) := by
  unfold edD
  rw [PySem.W.dataLt_pair (ptD_alike _ _) (ptD_alike _ _), ptD_eqv, ptD_eqv, ptD_lt, ptD_lt]
  unfold ltE
  by_cases h1 : e.1 = f.1
  · have n : ¬ ltP e.1 f.1 := h1 ▸ ltP_irr _
    by_cases h2 : e.2 = f.2
    · have n2 : ¬ ltP e.2 f.2 := h2 ▸ ltP_irr _
      simp [h1, h2, ltP_irr]
    · simp [h1, h2, ltP_irr]
  · simp [h1]
theorem PtA.dp {K : PySem.W.Frag} {H : Hp} {a : Addr} {p : Pt} (h : PtA H a p) : Dp K H (.ref a) (ptD p) := .tup (SqT.of h) (.cons (.int _) (.cons (.int _) .nil))
theorem EdA.dp {K : PySem.W.Frag} {H : Hp} {a : Addr} {e : Ed} (h : EdA H a e) : Dp K H (.ref a) (edD e) := by
  obtain ⟨b, c, h1, h2, h3⟩ := h
  exact .tup (SqT.of h1) (.cons h2.dp (.cons h3.dp .nil))
theorem dpAll_map {K : PySem.W.Frag} {H : Hp} {β : Type} (v : β → V) (enc : β → PyData) : ∀ {bs : List β}, (∀ b ∈ bs, Dp K H (v b) (enc b)) → DpAll K H (bs.map v) (bs.map enc)
  | [], _ => .nil
  | b :: bs, h => .cons (h b List.mem_cons_self) (dpAll_map v enc fun c hc => h c (List.mem_cons_of_mem _ hc))
theorem lay_map {β : Type} {enc : β → PyData} (h : ∀ b, (enc b).canLay0 = true) : ∀ bs : List β, PyData.canLayAll0 (bs.map enc) = true
  | [] => by simp [PyData.canLayAll0]
  | b :: bs => by simp [PyData.canLayAll0, h b, lay_map h bs]
theorem depth_map {β : Type} {enc : β → PyData} (h : ∀ b, (enc b).depth ≤ 8) : ∀ bs : List β, PyData.depthAll (bs.map enc) ≤ 8
  | [] => by simp [PyData.depthAll]
  | b :: bs => by
    have h1 := depth_map h bs
    have h2 := h b
    simp only [List.map_cons, PyData.depthAll]
    omega
theorem shaped_one {β : Type} {enc : β → PyData} (hl : ∀ b, (enc b).canLay0 = true) (hd : ∀ b, (enc b).depth ≤ 8) (b : β) : SeqAt.shaped (enc b) = true := by
  have h := hd b
  show ((enc b).canLay0 && decide ((enc b).depth ≤ 64)) = true
  rw [hl, Bool.true_and]
  exact decide_eq_true (by omega)
theorem shaped_list {β : Type} {enc : β → PyData} (hl : ∀ b, (enc b).canLay0 = true) (hd : ∀ b, (enc b).depth ≤ 8) (bs : List β) : SeqAt.shaped (.list (bs.map enc)) = true := by
  have h := depth_map hd bs
  have h2 : PyData.depth (.list (bs.map enc)) ≤ 64 := by simp only [PyData.depth]; omega
  show (PyData.canLay0 (.list (bs.map enc)) && decide (PyData.depth (.list (bs.map enc)) ≤ 64)) = true
  rw [Bool.and_eq_true]
  exact ⟨by simp only [PyData.canLay0]; exact lay_map hl bs, decide_eq_true h2⟩
theorem shaped_tup {β : Type} {enc : β → PyData} (hl : ∀ b, (enc b).canLay0 = true) (hd : ∀ b, (enc b).depth ≤ 8) (bs : List β) : SeqAt.shaped (.tuple (bs.map enc)) = true := by
  have h := depth_map hd bs
  have h2 : PyData.depth (.tuple (bs.map enc)) ≤ 64 := by simp only [PyData.depth]; omega
  show (PyData.canLay0 (.tuple (bs.map enc)) && decide (PyData.depth (.tuple (bs.map enc)) ≤ 64)) = true
  rw [Bool.and_eq_true]
  exact ⟨by simp only [PyData.canLay0]; exact lay_map hl bs, decide_eq_true h2⟩
theorem eqvAll_self {β : Type} {enc : β → PyData} (he : ∀ b, PyData.eqv (enc b) (enc b) = true) : ∀ bs : List β, PyData.eqvAll (bs.map enc) (bs.map enc) = true
  | [] => by simp [PyData.eqvAll]
  | b :: bs => by simp [PyData.eqvAll, he b, eqvAll_self he bs]
theorem pts_eqv (ps : List Pt) : PyData.eqv (.tuple (ps.map ptD)) (.tuple (ps.map ptD)) = true := by
  simp only [PyData.eqv]
  exact eqvAll_self (fun b => by rw [ptD_eqv]; simp) ps
theorem eds_eqv (ps : List Ed) : PyData.eqv (.tuple (ps.map edD)) (.tuple (ps.map edD)) = true := by
  simp only [PyData.eqv]
  exact eqvAll_self (fun b => by rw [edD_eqv]; simp) ps

section
variable {X : Cx}
/-! ### in, not in over a list -/
def rInE (K : PySem.W.Frag) (neg : Bool) : R2 := fun x y H Q => ∃ a e l L, x = V.ref a ∧ EdA H a e ∧ y = V.ref l ∧ SqL K H l (rf L) ∧ EL H L ∧ Q (.bl (if neg then !decide (e ∈ eds L) else decide (e ∈ eds L))) H
def rInP (K : PySem.W.Frag) (neg : Bool) : R2 := fun x y H Q => ∃ a e l L, x = V.ref a ∧ PtA H a e ∧ y = V.ref l ∧ SqL K H l (rf L) ∧ PL H L ∧ Q (.bl (if neg then !decide (e ∈ pts L) else decide (e ∈ pts L))) H
theorem any_edD (L : List Ed) (e : Ed) : ((L.map edD).any fun z => PyData.eqv z (edD e)) = decide (e ∈ L) := by
  rw [List.any_map, Bool.eq_iff_iff, List.any_eq_true, decide_eq_true_eq]
  constructor
  · rintro ⟨f, hf, h⟩
    have h' : decide (f = e) = true := (edD_eqv f e).symm.trans h
    exact of_decide_eq_true h' ▸ hf
  · intro h
    exact ⟨e, h, (edD_eqv e e).trans (decide_eq_true rfl)⟩
theorem any_ptD (L : List Pt) (e : Pt) : ((L.map ptD).any fun z => PyData.eqv z (ptD e)) = decide (e ∈ L) := by
  rw [List.any_map, Bool.eq_iff_iff, List.any_eq_true, decide_eq_true_eq]
  constructor
  · rintro ⟨f, hf, h⟩
    have h' : decide (f = e) = true := (ptD_eqv f e).symm.trans h
    exact of_decide_eq_true h' ▸ hf
  · intro h
    exact ⟨e, h, (ptD_eqv e e).trans (decide_eq_true rfl)⟩
theorem EL.dp {K : PySem.W.Frag} {H : Hp} {l : Addr} {L : List (Addr × Ed)} (hl : SqL K H l (rf L)) (h : EL H L) : Dp K H (.ref l) (.list ((eds L).map edD)) := by
  refine .lst hl ?_
  rw [List.map_map]
  exact dpAll_map _ _ fun b hb => (h b hb).dp
theorem PL.dp {K : PySem.W.Frag} {H : Hp} {l : Addr} {L : List (Addr × Pt)} (hl : SqL K H l (rf L)) (h : PL H L) : Dp K H (.ref l) (.list ((pts L).map ptD)) := by
  refine .lst hl ?_
  rw [List.map_map]
  exact dpAll_map _ _ fun b hb => (h b hb).dp
theorem EL.dpT {K : PySem.W.Frag} {H : Hp} {l : Addr} {L : List (Addr × Ed)} (hl : SqT K H l (rf L)) (h : EL H L) : Dp K H (.ref l) (.tuple ((eds L).map edD)) := by
  refine .tup hl ?_
  rw [List.map_map]
  exact dpAll_map _ _ fun b hb => (h b hb).dp
theorem PL.dpT {K : PySem.W.Frag} {H : Hp} {l : Addr} {L : List (Addr × Pt)} (hl : SqT K H l (rf L)) (h : PL H L) : Dp K H (.ref l) (.tuple ((pts L).map ptD)) := by
  refine .tup hl ?_
  rw [List.map_map]
  exact dpAll_map _ _ fun b hb => (h b hb).dp
theorem op_inE (hu : X.A.units + 65 < cLine) : OpR X (compareOp .In) (rInE X.K false) := by
  intro pins s σ H x y v u Q I rx ry h
  obtain ⟨a, e, l, L, rfl, he, rfl, hl, hL, q⟩ := h
  refine op_inD hu pins s σ H _ _ v u Q I rx ry ⟨edD e, _, he.dp, EL.dp hl hL, shaped_one edD_lay edD_depth e, shaped_list edD_lay edD_depth _, ?_⟩
  rw [any_edD]
  exact q
theorem op_notInE (hu : X.A.units + 65 < cLine) : OpR X (compareOp .NotIn) (rInE X.K true) := by
  intro pins s σ H x y v u Q I rx ry h
  obtain ⟨a, e, l, L, rfl, he, rfl, hl, hL, q⟩ := h
  refine op_notInD hu pins s σ H _ _ v u Q I rx ry ⟨edD e, _, he.dp, EL.dp hl hL, shaped_one edD_lay edD_depth e, shaped_list edD_lay edD_depth _, ?_⟩
  rw [any_edD]
  exact q
theorem op_notInP (hu : X.A.units + 65 < cLine) : OpR X (compareOp .NotIn) (rInP X.K true) := by
  intro pins s σ H x y v u Q I rx ry h
  obtain ⟨a, e, l, L, rfl, he, rfl, hl, hL, q⟩ := h
  refine op_notInD hu pins s σ H _ _ v u Q I rx ry ⟨ptD e, _, he.dp, PL.dp hl hL, shaped_one ptD_lay ptD_depth e, shaped_list ptD_lay ptD_depth _, ?_⟩
  rw [any_ptD]
  exact q

/-! ### sorted(list), any length -/
theorem each_vals {β : Type} (v : β → Addr) : ∀ {bs : List β} {us : List Value}, Vals (bs.map fun b => V.ref (v b)) us → PySem.W.EachIs (fun u b => u = Value.ref (v b)) us bs
  | [], _, .nil => .nil
  | b :: bs, _, .cons r t => .cons r (each_vals v t)
theorem vals_each {β : Type} (v : β → Addr) : ∀ {bs : List β} {us : List Value}, PySem.W.EachIs (fun u b => u = Value.ref (v b)) us bs → Vals (bs.map fun b => V.ref (v b)) us
  | _, _, .nil => .nil
  | _, _, .cons r t => .cons r (vals_each v t)
theorem each_imp {α β : Type} {R S : α → β → Prop} : ∀ {us : List α} {bs : List β}, PySem.W.EachIs R us bs → (∀ u b, b ∈ bs → R u b → S u b) → PySem.W.EachIs S us bs
  | _, _, .nil, _ => .nil
  | _, _, .cons r t, h => .cons (h _ _ List.mem_cons_self r) (each_imp t fun u b hb => h u b (List.mem_cons_of_mem _ hb))
/-- the sorted list, by the order of the data -/
def srt {β : Type} (enc : β → PyData) (bs : List β) : List β := bs.mergeSort (PySem.W.dataLe false enc)
def rSrt {β : Type} (K : PySem.W.Frag) (v : β → Addr) (enc : β → PyData) : List V → Hp → VK → Prop := fun vs H Q => ∃ l bs, vs = [V.ref l] ∧ SqL K H l (bs.map fun b => V.ref (v b)) ∧ (∀ b ∈ bs, Dp K H (.ref (v b)) (enc b)) ∧
  ∀ p, H p = none → Q (.ref p) (upd H p (.lst ((srt enc bs).map fun b => V.ref (v b))))
theorem call_srt {β : Type} {v : β → Addr} {enc : β → PyData} (hal : ∀ b c, PySem.W.alike (enc b) (enc c) = true) (ht : ∀ b, ∃ x r, enc b = .tuple (x :: r)) (hd : ∀ b, (enc b).depth ≤ 8) (hu : X.A.units + 64 < cLine) :
    CallR X (.builtin "sorted") (rSrt X.K v enc) := by
  intro pins s σ H vs us Q I r h
  obtain ⟨l, bs, rfl, hl, hD, q⟩ := h
  rw [Vals.ref1 r]
  obtain ⟨its, rv, pl, hz⟩ := I.list hl
  rw [List.length_map] at hz
  have ev := each_vals v rv
  refine PySem.W.sorted_data (enc := enc) (R := fun u b => u = Value.ref (v b)) (bs := bs) (vs := its) pl.isList ev (each_imp ev fun u b hb e => ?_) (PySem.W.AllAlike.of hal) (PySem.W.Sortable.tuples ht) hz (fun b _ => by have := hd b; omega) fun out ho eo => ?_
  · obtain ⟨as, hr⟩ := Dp.reads I (enc b) _ u (hD b hb) e
    exact ⟨as, hr⟩
  · have hn : H (s.heap.objs.size + 1) = none := I.hok.fresh (Nat.le_succ _)
    obtain ⟨c, hc⟩ := sortedAll_at s.heap its out.toArray
    refine ⟨.ref (s.heap.objs.size + 1), _, I.laid (t' := s.toks) (fun b o e => sortedAll_old e) (Nat.le_succ _) ?_, rfl, q _ hn⟩
    exact ⟨by rw [List.length_map, srt, List.length_mergeSort]; exact hz, out, c, vals_each v eo, hc⟩
/-- edges, points -/
theorem srt_perm {β : Type} (enc : β → PyData) (bs : List β) : (srt enc bs).Perm bs := List.mergeSort_perm _ _
theorem le_ed {β : Type} (k : β → Ed) : PySem.W.dataLe false (fun b => edD (k b)) = fun b c => !decide (ltE (k c) (k b)) := by
  funext b c
  show (!PySem.W.dataLt (edD (k c)) (edD (k b))) = _
  rw [edD_lt]
theorem le_pt {β : Type} (k : β → Pt) : PySem.W.dataLe false (fun b => ptD (k b)) = fun b c => !decide (ltP (k c) (k b)) := by
  funext b c
  show (!PySem.W.dataLt (ptD (k c)) (ptD (k b))) = _
  rw [ptD_lt]
theorem srt_ed {β : Type} (k : β → Ed) (bs : List β) : ((srt (fun b => edD (k b)) bs).map k).Pairwise fun e f => ¬ ltE f e := by
  rw [List.pairwise_map]
  unfold srt
  rw [le_ed]
  refine (List.pairwise_mergeSort (fun a b c h1 h2 => ?_) (fun a b => ?_) bs).imp fun {a b} h => by simpa using h
  · simp only [Bool.not_eq_true', decide_eq_false_iff_not] at h1 h2 ⊢
    intro h3
    rcases ltE_tri (k a) (k b) with t | t | t
    · exact h2 (ltE_tr h3 t)
    · exact h2 (t ▸ h3)
    · exact h1 t
  · by_cases h : ltE (k b) (k a)
    · have h' : ¬ ltE (k a) (k b) := fun z => ltE_irr _ (ltE_tr h z)
      simp [h, h']
    · simp [h]
theorem srt_pt {β : Type} (k : β → Pt) (bs : List β) : ((srt (fun b => ptD (k b)) bs).map k).Pairwise fun e f => ¬ ltP f e := by
  rw [List.pairwise_map]
  unfold srt
  rw [le_pt]
  refine (List.pairwise_mergeSort (fun a b c h1 h2 => ?_) (fun a b => ?_) bs).imp fun {a b} h => by simpa using h
  · simp only [Bool.not_eq_true', decide_eq_false_iff_not] at h1 h2 ⊢
    intro h3
    rcases ltP_tri (k a) (k b) with t | t | t
    · exact h2 (ltP_tr h3 t)
    · exact h2 (t ▸ h3)
    · exact h1 t
  · by_cases h : ltP (k b) (k a)
    · have h' : ¬ ltP (k a) (k b) := fun z => ltP_irr _ (ltP_tr h z)
      simp [h, h']
    · simp [h]
/-- sorted(list of edges): another list of the same ones, in order -/
def rSrtE (K : PySem.W.Frag) : List V → Hp → VK → Prop := fun vs H Q => ∃ l L, vs = [V.ref l] ∧ SqL K H l (rf L) ∧ EL H L ∧ ∀ p M, M.Perm L → (eds M).Pairwise (fun e f => ¬ ltE f e) → H p = none → Q (.ref p) (upd H p (.lst (rf M)))
def rSrtP (K : PySem.W.Frag) : List V → Hp → VK → Prop := fun vs H Q => ∃ l L, vs = [V.ref l] ∧ SqL K H l (rf L) ∧ PL H L ∧ ∀ p M, M.Perm L → (pts M).Pairwise (fun e f => ¬ ltP f e) → H p = none → Q (.ref p) (upd H p (.lst (rf M)))
theorem call_srtE (hu : X.A.units + 64 < cLine) : CallR X (.builtin "sorted") (rSrtE X.K) := by
  intro pins s σ H vs us Q I r h
  obtain ⟨l, L, rfl, hl, hL, q⟩ := h
  exact call_srt (v := fun p : Addr × Ed => p.1) (enc := fun p => edD p.2) (fun b c => edD_alike _ _) (fun b => ⟨_, _, rfl⟩) (fun b => edD_depth _) hu pins s σ H _ us Q I r
    ⟨l, L, rfl, hl, fun b hb => (hL b hb).dp, fun p hp => q p _ (srt_perm _ L) (srt_ed (fun p : Addr × Ed => p.2) L) hp⟩
theorem call_srtP (hu : X.A.units + 64 < cLine) : CallR X (.builtin "sorted") (rSrtP X.K) := by
  intro pins s σ H vs us Q I r h
  obtain ⟨l, L, rfl, hl, hL, q⟩ := h
  exact call_srt (v := fun p : Addr × Pt => p.1) (enc := fun p => ptD p.2) (fun b c => ptD_alike _ _) (fun b => ⟨_, _, rfl⟩) (fun b => ptD_depth _) hu pins s σ H _ us Q I r
    ⟨l, L, rfl, hl, fun b hb => (hL b hb).dp, fun p hp => q p _ (srt_perm _ L) (srt_pt (fun p : Addr × Pt => p.2) L) hp⟩

/-! ### set(list), sorted(set) -/
structure SetE0 (w : World) (h : Heap) (a : Addr) (L : List (Addr × Ed)) : Prop where
  ex : ∃ (es : Array (Int × Value)) (ep : Nat) (t : SetTable), (∃ o, h.get? a = some o ∧ o.ExactSet ∧ o.data = .set es ep t) ∧ es.toList = rowsE w L ∧ TabK t (L.map fun p => eh w p.2) ∧ (L.map (·.2)).Nodup ∧ t.plain = true ∧
    (w.params.followText "set-order" = true ∨ t.led = true) ∧ L.length * 5 < t.mask * 3 ∧ L.length ≤ 800 ∧ t.mask ≤ 8191
def SetEO (w : World) (a : Addr) (L : List (Addr × Ed)) : HO := .ext fun h => SetE0 w h a L
theorem setEO_new {P : Program} {w : World} {H : Hp} {h : Heap} {a : Addr} {L : List (Addr × Ed)} {es : Array (Int × Value)} {ep : Nat} {t : SetTable} (R : SetE w h a L es ep t) : ObjOk P w H h a (SetEO w a L) := by
  have R0 : SetE0 w h a L := ⟨es, ep, t, R.ob, R.rows, R.tab, R.nd, R.plain, R.led, R.room, R.few, R.big⟩
  obtain ⟨o, ho, r⟩ := R.ob
  refine ⟨R0, ⟨o, ho⟩, fun h1 h2 p k => ?_⟩
  have ⟨es', ep', t', ⟨o', ho', r'⟩, q'⟩ := SetE0.ex p
  exact ⟨es', ep', t', ⟨o', k o' ho', r'⟩, q'⟩
theorem PtA.is {X : Cx} {pins : List (Addr × Obj)} {σ : L2.St} {H : Hp} {s : Shared} {a : Addr} {p : Pt} (I : Inv X pins σ H s) (h : PtA H a p) : NestedIs s.heap (ptK p) (.ref a) := by
  obtain ⟨its, r, ⟨o, ho, hc, n, hd⟩, _⟩ := I.tuple (SqT.of h)
  obtain ⟨t, u, rfl⟩ := Vals.int2 r
  exact .tup ho hc hd (.cons (.int _ _) (.cons (.int _ _) .nil))
theorem EdA.is {X : Cx} {pins : List (Addr × Obj)} {σ : L2.St} {H : Hp} {s : Shared} {a : Addr} {e : Ed} (I : Inv X pins σ H s) (h : EdA H a e) : IsE s.heap e a := by
  obtain ⟨b, c, h1, h2, h3⟩ := h
  obtain ⟨its, r, ⟨o, ho, hc, n, hd⟩, _⟩ := I.tuple (SqT.of h1)
  obtain ⟨u1, u2, rfl, r1, r2⟩ := Vals.two r
  cases r1
  cases r2
  exact .tup ho hc hd (.cons (h2.is I) (.cons (h3.is I) .nil))
def rSetOf (K : PySem.W.Frag) (w : World) : List V → Hp → VK → Prop := fun xs H Q => ∃ l L, xs = [V.ref l] ∧ SqL K H l (rf L) ∧ EL H L ∧ L.length ≤ 799 ∧
  ∀ a M, H a = none → (∀ p ∈ M, p ∈ L) → (∀ p ∈ L, p.2 ∈ eds M) → (eds M).Nodup → Q (.ref a) (upd H a (SetEO w a M))
theorem call_setO (hc : X.calm = true) (hu : X.A.units + 64 < cLine) : CallR X (.type "set") (rSetOf X.K X.w) := by
  intro pins s σ H xs us Q I r h
  obtain ⟨l, L, rfl, hl, hL, hf, q⟩ := h
  rw [Vals.ref1 r]
  obtain ⟨its, rv, pl, hz⟩ := I.list hl
  have hn : H s.heap.objs.size = none := I.hok.fresh (Nat.le_refl _)
  have hit : its = L.map fun p => Value.ref p.1 := by
    have : ∀ {L : List (Addr × Ed)} {us : List Value}, Vals (rf L) us → us = L.map fun p => Value.ref p.1 := by
      intro L
      induction L with
      | nil => intro us r; cases r; rfl
      | cons p L ih => intro us r; cases r with | cons r1 r2 => cases r1; rw [ih r2]; rfl
    exact this rv
  refine call_setE (P := X.prog) (w := X.w) L (I.ok.hd hc) pl.isList (by simpa using hit) (fun p hp => (hL p hp).is I) hf (by omega) fun h' tk M es ep t R g k => ?_
  refine ⟨.ref s.heap.objs.size, upd H s.heap.objs.size (SetEO X.w s.heap.objs.size M), I.laid (t' := tk) k (Nat.le_refl _) (setEO_new R), rfl, q _ M hn (fun p hp => List.mem_of_mem_take (g.sub p hp)) (fun p hp => g.all p (by rw [List.take_length]; exact hp)) R.nd⟩
end
end NC
/-! sorted(set of edges). -/
namespace NC
open PySem PySem.Spec PyProof.Rows L2
section
variable {P : Program} {w : World} {A : Around} {E : Value → Shared → Prop} {s : Shared}
def unref : Value → Addr
  | .ref a => a
  | _ => 0
theorem unref_map : ∀ l : List Addr, (l.map Value.ref).map unref = l
  | [] => rfl
  | a :: l => congrArg (a :: ·) (unref_map l)
/-- the tuple at a reads as the edge's data, off no list -/
def RdE (h : Heap) (u : Value) (e : Ed) : Prop := Reads h u (edD e) []
theorem RdE.keep {h h' : Heap} {u : Value} {e : Ed} (hk : ∀ c o, h.get? c = some o → h'.get? c = some o) (r : RdE h u e) : RdE h' u e := PyProof.Rows.Reads.keeps hk r
/-- values that are, in some order, the rows' addresses -/
theorem rows_of_perm {L : List (Addr × Ed)} (hn : (L.map (·.1)).Nodup) : ∀ {vs : List Value}, vs.Perm (L.map fun q => Value.ref q.1) → ∃ M : List (Addr × Ed), vs = M.map (fun q => Value.ref q.1) ∧ M.Perm L := by
  intro vs pm
  have ord : ∀ vs : List Value, (∀ v ∈ vs, ∃ q ∈ L, v = Value.ref q.1) → ∃ M : List (Addr × Ed), vs = M.map (fun q => Value.ref q.1) ∧ ∀ q ∈ M, q ∈ L := by
    intro vs
    induction vs with
    | nil => intro _; exact ⟨[], rfl, fun q hq => (by cases hq)⟩
    | cons v vs ih =>
      intro hv
      obtain ⟨q, hq, e⟩ := hv v List.mem_cons_self
      obtain ⟨M, e1, hs⟩ := ih fun u hu => hv u (List.mem_cons_of_mem _ hu)
      exact ⟨q :: M, by rw [List.map_cons, e, e1], fun r hr => (List.mem_cons.mp hr).elim (fun z => z ▸ hq) (hs r)⟩
  obtain ⟨M, e, hs⟩ := ord vs fun v hv => by
    obtain ⟨q, hq, e⟩ := List.mem_map.mp (pm.mem_iff.mp hv)
    exact ⟨q, hq, e.symm⟩
  refine ⟨M, e, ?_⟩
  rw [e] at pm
  have mapref : ∀ N : List (Addr × Ed), N.map (fun q => Value.ref q.1) = (N.map (·.1)).map Value.ref := fun N => by rw [List.map_map]; rfl
  have pa : (M.map (·.1)).Perm (L.map (·.1)) := by
    rw [mapref, mapref] at pm
    have q := pm.map unref
    rw [unref_map, unref_map] at q
    exact q
  have nL : L.Nodup := nodup_of_map hn
  have nM : M.Nodup := nodup_of_map (pa.nodup_iff.mpr hn)
  refine (List.perm_ext_iff_of_nodup nM nL).mpr fun q => ⟨hs q, fun hq => ?_⟩
  obtain ⟨r, hr, er⟩ := List.mem_map.mp (pa.mem_iff.mpr (List.mem_map.mpr ⟨q, hq, rfl⟩))
  have key : ∀ {l : List (Addr × Ed)}, (l.map (·.1)).Nodup → ∀ x ∈ l, ∀ y ∈ l, x.1 = y.1 → x = y := by
    intro l
    induction l with
    | nil => intro _ x hx; cases hx
    | cons z l ih =>
      intro hn x hx y hy hxy
      rw [List.map_cons] at hn
      obtain ⟨n1, n2⟩ := List.nodup_cons.mp hn
      rcases List.mem_cons.mp hx with ex | hx
      · rcases List.mem_cons.mp hy with ey | hy
        · rw [ex, ey]
        · exact absurd (List.mem_map.mpr ⟨y, hy, by rw [← hxy, ex]⟩) n1
      · rcases List.mem_cons.mp hy with ey | hy
        · exact absurd (List.mem_map.mpr ⟨x, hx, by rw [hxy, ey]⟩) n1
        · exact ih n2 x hx y hy hxy
  exact key hn r (hs r hr) q hq er ▸ hr
theorem each_rows : ∀ (M : List (Addr × Ed)), PySem.W.EachIs (fun (u : Value) (q : Addr × Ed) => u = Value.ref q.1) (M.map fun q => Value.ref q.1) M
  | [] => .nil
  | q :: M => .cons rfl (each_rows M)
theorem rows_each : ∀ {us : List Value} {M : List (Addr × Ed)}, PySem.W.EachIs (fun (u : Value) (q : Addr × Ed) => u = Value.ref q.1) us M → us = M.map fun q => Value.ref q.1
  | _, _, .nil => rfl
  | _, _, .cons r t => by rw [r, rows_each t]; rfl
/-- sorted(set) -/
theorem sorted_setE {a : Addr} {L : List (Addr × Ed)} {es : Array (Int × Value)} {ep : Nat} {t : SetTable} {Q : Value → Shared → Prop} (R : SetE w s.heap a L es ep t) (rd : ∀ p ∈ L, RdE s.heap (.ref p.1) p.2) (hh : A.handled = none) (hu : A.units + 64 < cLine)
    (hQ : ∀ s' p c (M : List (Addr × Ed)), (∀ b o, s.heap.get? b = some o → s'.heap.get? b = some o) → s'.gens = s.gens → s'.os = s.os → s.heap.objs.size ≤ p →
      s'.heap.get? p = some (seqObj "list" (M.map fun q => Value.ref q.1).toArray c) → M.Perm L → (eds M).Pairwise (fun e f => ¬ ltE f e) → Q (.ref p) s') :
    wpAny (model P w) A (call (.builtin "sorted") [.ref a]) Q E s := by
  obtain ⟨o, ho, hex, hd⟩ := R.ob
  have hsz := R.size
  have hfew := R.few
  refine Calls.call_function_entry kind_sorted plain_sorted entry_sorted (args_sorted1 _) ?_
  unfold Builtin.«sorted»
  refine wpAny_bind (m := checkCount "sorted" 1 1 _) (wpAny_pure ?_)
  refine wpAny_bind (collect_set (A := A.in1) hh ⟨o, ho, hex.1, hd⟩ R.fits (by unfold scanBound; omega) R.tab.ris R.led fun s1 vs k1 hz g1 o1 pm => ?_)
  have hes : es.toList.map (·.2) = L.map fun q => Value.ref q.1 := by
    rw [R.rows]
    unfold rowsE
    rw [List.map_map]
    rfl
  rw [hes] at pm
  have nodA : (L.map (·.1)).Nodup := by
    refine List.pairwise_map.mpr ((List.pairwise_map.mp R.nd).imp_of_mem fun {q r} hq hr hne e => hne ?_)
    have a2 := R.tup r hr
    rw [← e] at a2
    exact (R.tup q hq).inj a2
  obtain ⟨M0, rfl, pM0⟩ := rows_of_perm nodA pm
  have hM0 : M0.length = L.length := pM0.length_eq
  refine wpAny_bind (wpAny_newList ?_ (by rw [List.length_map, hM0, sizeLine_eq]; omega))
  generalize hvs : M0.map (fun q => Value.ref q.1) = vs
  have hoL : (s1.heap.push (seqObj "list" vs.toArray 0)).get? s1.heap.objs.size = some (seqObj "list" vs.toArray 0) := Heap.get?_push_size _ rfl
  have rd1 : ∀ q ∈ M0, RdE (s1.heap.push (seqObj "list" vs.toArray 0)) (.ref q.1) q.2 := fun q hq => (rd q (pM0.mem_iff.mp hq)).keep fun c o e => Heap.get?_push_of_some _ (k1 c o e)
  have ev : PySem.W.EachIs (fun (u : Value) (q : Addr × Ed) => u = Value.ref q.1) vs M0 := hvs ▸ each_rows M0
  refine wpAny_bind (wpAny_holding (PySem.W.list_sort_data (s := { s1 with heap := s1.heap.push (seqObj "list" vs.toArray 0) }) (bs := M0) (enc := fun q : Addr × Ed => edD q.2) hoL ev
    (each_imp ev fun u q hq e => ⟨[], by rw [e]; exact rd1 q hq, by simp⟩) (PySem.W.AllAlike.of fun b c => edD_alike _ _) (PySem.W.Sortable.tuples fun b => ⟨_, _, rfl⟩) (by rw [hM0, sizeLine_eq]; omega)
    (fun b _ => by have := edD_depth b.2; simp only [Around.in1_units]; omega) fun out hl eo => ?_))
  have hout := rows_each eo
  subst hout
  obtain ⟨c, hc⟩ := sortedHeap_at (vs := vs) (out := (List.map (fun q : Addr × Ed => Value.ref q.1) (M0.mergeSort (PySem.W.dataLe false fun q : Addr × Ed => edD q.2))).toArray) hoL
  refine wpAny_pure ⟨_, rfl, hQ _ s1.heap.objs.size c (srt (fun q : Addr × Ed => edD q.2) M0) (fun b u e => ?_) g1 o1 hz hc ((srt_perm _ M0).trans pM0) (srt_ed (fun q : Addr × Ed => q.2) M0)⟩
  have q := k1 b u e
  have hlt := Heap.lt_size q
  show (sortedHeap (s1.heap.push (seqObj "list" vs.toArray 0)) s1.heap.objs.size vs _).get? b = some u
  rw [sortedHeap_old (Nat.ne_of_lt hlt) (by rw [size_push']; exact Nat.lt_succ_of_lt hlt)]
  exact Heap.get?_push_of_some _ q
end
section
variable {X : Cx}
theorem PtA.rd {pins : List (Addr × Obj)} {σ : L2.St} {H : Hp} {s : Shared} {a : Addr} {p : Pt} (I : Inv X pins σ H s) (h : PtA H a p) : Reads s.heap (.ref a) (ptD p) [] := by
  obtain ⟨its, r, ⟨o, ho, hc, n, hd⟩, _⟩ := I.tuple (SqT.of h)
  obtain ⟨t, u, rfl⟩ := Vals.int2 r
  exact Reads.tuple ho hc hd (ReadsAll.cons (Reads.int _ _) (ReadsAll.cons (Reads.int _ _) ReadsAll.nil))
theorem EdA.rd {pins : List (Addr × Obj)} {σ : L2.St} {H : Hp} {s : Shared} {a : Addr} {e : Ed} (I : Inv X pins σ H s) (h : EdA H a e) : RdE s.heap (.ref a) e := by
  obtain ⟨b, c, h1, h2, h3⟩ := h
  obtain ⟨its, r, ⟨o, ho, hc, n, hd⟩, _⟩ := I.tuple (SqT.of h1)
  obtain ⟨u1, u2, rfl, r1, r2⟩ := Vals.two r
  cases r1
  cases r2
  exact Reads.tuple ho hc hd (ReadsAll.cons (h2.rd I) (ReadsAll.cons (h3.rd I) ReadsAll.nil))
theorem vals_rf : ∀ (M : List (Addr × Ed)), Vals (rf M) (M.map fun q => Value.ref q.1)
  | [] => .nil
  | q :: M => .cons rfl (vals_rf M)
def rSortSet (w : World) : List V → Hp → VK → Prop := fun vs H Q => ∃ a L, vs = [V.ref a] ∧ H a = some (SetEO w a L) ∧ EL H L ∧ ∀ p M, M.Perm L → SS (eds M) → H p = none → Q (.ref p) (upd H p (.lst (rf M)))
theorem call_sortSet (hc : X.calm = true) (hu : X.A.units + 64 < cLine) : CallR X (.builtin "sorted") (rSortSet X.w) := by
  intro pins s σ H vs us Q I r h
  obtain ⟨a, L, rfl, ha, hL, q⟩ := h
  have R0 : SetE0 X.w s.heap a L := (I.hok a _ ha).1
  obtain ⟨es, ep, t, h1, h2, h3, h4, h5, h6, h7, h8, h9⟩ := R0.ex
  have R : SetE X.w s.heap a L es ep t := ⟨h1, h2, h3, h4, fun p hp => (hL p hp).is I, h5, h6, h7, h8, h9⟩
  rw [Vals.ref1 r]
  refine sorted_setE R (fun p hp => (hL p hp).rd I) (I.ok.hd hc) hu fun s' p c M k g o hp hg pm pw => ?_
  have hlen : (rf M).length ≤ sizeLine := by rw [rf_len, pm.length_eq, sizeLine_eq]; omega
  have hn : H p = none := I.hok.fresh hp
  have J : Inv X pins σ (upd H p (.lst (rf M))) { s with heap := s'.heap, gens := s'.gens, drawn := s'.drawn, toks := s'.toks } :=
    I.call (ch := []) (Un.laid k hp hn) (I.hok.laid k hp ⟨hlen, _, c, vals_rf M, hg⟩) (by rw [g]; exact I.bare) (fun _ z => nomatch z)
  have e : s' = { s with heap := s'.heap, gens := s'.gens, drawn := s'.drawn, toks := s'.toks } := by
    cases s'
    cases s
    cases o
    rfl
  rw [e]
  exact ⟨.ref p, _, J, rfl, q p M pm (rising_of ((pm.map (·.2)).nodup_iff.mpr h4) ltE_tri pw) hn⟩
end
end NC
/-! Dict comprehensions of one clause or two, with any way to store. -/
namespace NC
open PySem PySem.Spec PyProof.Rows L2

/-- what a turn's last act is to reach -/
abbrev TBod := L2.St → Hp → (Hp → Prop) → Prop
/-- the turns of one clause -/
def tLoop (J : It) (g : TG) (vs : List Nat) (body : TBod) (Nx : Hp → Prop) (σ : L2.St) (H0 : Hp) : Prop :=
  ∃ W : Nat → Nat → Hp → Prop, (∃ m, W 0 m H0) ∧ ∀ i m H, W i m H →
    (J.stop i H ∧ Nx H) ∨ (J.go i H ∧ ∃ N : Hp → Prop, (∀ H', N H' → ∃ k, k < m ∧ W (i + 1) k H') ∧
      ∀ x H', J.yld i H x H' → g x (wipe σ vs) H' fun σ2 H2 => wipe σ2 vs = wipe σ vs ∧ body σ2 H2 N)

section
variable {B : Cx}
structure PEm (B : Cx) (emit : Sem Fin → Sem Fin) (vs : List Nat) (body : TBod) : Prop where
  run : ∀ (pins : List (Addr × Obj)) (s : Shared) (σ : L2.St) (H : Hp) (N : Hp → Prop) (r : Sem Fin) (Q : Fin → Shared → Prop), Inv B pins σ H s → body σ H N →
    (∀ σ' H' s', Inv B pins σ' H' s' → σ'.length = σ.length → (∀ (j : Nat) v, (wipe σ vs)[j]? = some (some v) → σ'[j]? = some (some v)) → N H' → wpAny (model B.prog B.w) B.A r Q (fun _ _ => False) s') →
    wpAny (model B.prog B.w) B.A (emit r) Q (fun _ _ => False) s

def LoopEnd (B : Cx) (pins : List (Addr × Obj)) (σ : L2.St) (Nx : Hp → Prop) (r : Result) (s' : Shared) : Prop :=
  match r with
  | .ok _ => ∃ H', Inv B pins σ H' s' ∧ Nx H'
  | .error _ => False

/-- a turn in the model's words -/
def turnTerm (env : Env) (e : Expr) (depth : Nat) (it acc : Value) (p : Pos) (tg : Expr) (emit : Sem Fin → Sem Fin) : Sem Fin := do
  standAt p
  match ← pyNext it with
  | none => pure (.done .next)
  | some v =>
    letOwnedTupleGo tg it v
    assign tg env v
    let mut ok := true
    for c in ([] : List Expr) do
      if ok then ok ← isTrue c env (eval c env)
    if ok then emit (again (.compLoop e depth it acc env)) else again (.compLoop e depth it acc env)

theorem clause_loop (hc : B.calm = true) (hx : B.xe = fun _ _ => False) {kx vx : Expr} {gens : List Comprehension} {scope : Scope} {pos : Pos} {depth : Nat} {it D : Addr} {fp : List Addr} {tn : Nat → Heap → Prop} {J : It} {tg : Expr} {p : Pos} {emit : Sem Fin → Sem Fin} {g : TG} {vs : List Nat} {body : TBod}
    (htu : compTurn (.DictComp kx vx gens scope pos) depth (.ref it) (.ref D) B.env = turnTerm B.env (.DictComp kx vx gens scope pos) depth (.ref it) (.ref D) p tg emit)
    (T : Turn B.prog B.w B.K tg J fp it tn) (pg : PG B tg g) (pe : PEm B emit vs body)
    {pins : List (Addr × Obj)} {σ : L2.St} {H : Hp} {s : Shared} {Nx : Hp → Prop} (I : Inv B pins (wipe σ vs) H s) (st : tn 0 s.heap) (fo : ∀ b ∈ fp, FpOk B pins H b) (h : tLoop J g vs body Nx σ H) :
    codeAny (model B.prog B.w) B.A (.compLoop (.DictComp kx vx gens scope pos) depth (.ref it) (.ref D) B.env) (LoopEnd B pins (wipe σ vs) Nx) s := by
  obtain ⟨W, ⟨m0, w0⟩, turn⟩ := h
  have again : ∀ {H' : Hp}, (∀ b ∈ fp, H' b = none) → ∀ b ∈ fp, FpOk B pins H' b := fun n b hb => ⟨n b hb, (fo b hb).2⟩
  refine codeAny_loop rfl (fun n s' => ∃ i H', Inv B pins (wipe σ vs) H' s' ∧ tn i s'.heap ∧ (∀ b ∈ fp, H' b = none) ∧ W i n H') ?_ m0 ⟨0, H, I, st, fun b hb => (fo b hb).1, w0⟩
  rintro n s1 ⟨i, H1, I1, st1, n1, w1⟩
  show wpAny _ B.A ((compTurn (.DictComp kx vx gens scope pos) depth (.ref it) (.ref D) B.env).onRaise (fun x => do noteFrame x B.env; theTreesLotGoes x)) _ _ s1
  refine wpAny_noted ?_
  rw [htu]
  unfold turnTerm
  refine wpAny_bind (wpAny_standAt (wpAny_bind ?_))
  rcases turn i n H1 w1 with ⟨stop, q⟩ | ⟨go, N, hN, step⟩
  · refine thnF (T.done B rfl rfl rfl hc i pins s1 _ H1 (fun _ _ => False) I1 (again n1) st1 stop) fun r s2 z => ?_
    obtain ⟨hr, I2⟩ := z
    subst hr
    exact wpAny_pure (show LoopEnd B pins (wipe σ vs) Nx (.ok .next) s2 from ⟨H1, I2, q⟩)
  · refine thnF (T.item B rfl rfl rfl hc i pins s1 _ H1 (fun _ _ => False) I1 (again n1) st1 go) fun r s2 z => ?_
    obtain ⟨u, hr, h2⟩ := z
    subst hr
    refine wpAny_bind (thnF h2 fun _ s3 z => ?_)
    obtain ⟨x, H3, I3, rx, y, st3, n3⟩ := z
    have J3 := I3.pinned (again n3) (T.obj _ _ st3)
    have pr := pg.run _ s3 _ H3 x u _ J3 rx (step x H3 y)
    rw [hx] at pr
    refine wpAny_bind (thnF pr fun _ s4 z => ?_)
    obtain ⟨σ4, H4, I4, hw, q4⟩ := z
    refine wpAny_bind (wpAny_tests_nil ?_)
    simp only [if_true]
    refine wpAny_mono (pe.run _ s4 σ4 H4 N _ _ I4 q4 fun σ5 H5 s5 I5 hl hk nx => ?_) (fun _ _ z => z) fun _ _ z => z.elim
    obtain ⟨k, hkm, w5⟩ := hN H5 nx
    have pin : ∀ b ∈ fp, ∀ o, s3.heap.get? b = some o → s5.heap.get? b = some o ∧ H5 b = none := fun b hb o eo => by
      have z := I5.pin (b, o) (List.mem_append_right _ (List.mem_append_right _ (mem_pinsAt hb eo)))
      exact ⟨z.1, z.2.1⟩
    refine wpAny_pure ⟨rfl, k, hkm, i + 1, H5, I5.unpinned.weak ?_ ?_, T.keep _ _ _ st3 fun b hb o eo => (pin b hb o eo).1, ?_, w5⟩
    · rw [hl, ← wipe_length σ4 vs, hw]
    · intro j v ej
      rw [← hw] at ej
      exact hk j v ej
    · intro b hb
      obtain ⟨o, eo, _⟩ := T.obj _ _ st3 b hb
      exact (pin b hb o eo).2

/-- a clause's start -/
theorem start_ok {prog : Program} {w : World} {A : Around} {R : Result → Shared → Prop} {s : Shared} {kx vx : Expr} {gens : List Comprehension} {scope : Scope} {pos : Pos} {depth : Nat} {it acc : Value} {env : Env} {c : Comprehension} (hg : gens[depth]? = some c) (ha : c.is_async = 0)
    (h0 : codeAny (model prog w) A (.compLoop (.DictComp kx vx gens scope pos) depth it acc env) R s) (h : wpAny (model prog w) A (pyIter it) (fun it' s' => codeAny (model prog w) A (.compLoop (.DictComp kx vx gens scope pos) depth it' acc env) R s') (fun _ _ => False) s) :
    codeAny (model prog w) A (.compStart (.DictComp kx vx gens scope pos) depth it acc env) R s := by
  refine codeAny_of_tree ?_
  show wpAny _ _ ((compStart (.DictComp kx vx gens scope pos) depth it acc env).onRaise (fun x => do noteFrame x env; standAt theWindowsPlace)) _ _ s
  refine wpAny_notedAt ?_
  unfold compStart
  rw [show (clausesOf (Expr.DictComp kx vx gens scope pos))[depth]? = some c from hg]
  have e0 : (some c).elim false (fun c => c.is_async != 0) = false := by simp [ha]
  simp only [e0, Bool.false_eq_true, if_false]
  refine wpAny_bind (wpAny_askSetting (wpAny_ite ?_))
  split
  · first
      | exact wpAny_bind (wpAny_pure (wpAny_pure (And.intro rfl h0)))
      | exact wpAny_pure (And.intro rfl h0)
  · refine wpAny_bind (wpAny_rule ?_)
    first
      | exact wpAny_bind (wpAny_standAt (wpAny_bind (thnF h fun it' s' z => wpAny_pure (And.intro rfl z))))
      | (refine wpAny_bind ?_; exact wpAny_standAt (wpAny_bind (thnF h fun it' s' z => wpAny_pure (And.intro rfl z))))

/-! ### the two acts -/
def emitSet (env : Env) (kx vx : Expr) (D : Addr) (r : Sem Fin) : Sem Fin := do
  (do
    let kv ← eval kx env
    let vv ← holding [kv] (eval vx env)
    standAt { kx.pos with endLine := vx.pos.endLine, endCol := vx.pos.endCol }
    holding [kv, vv] (dictSet D kv vv))
  r
def emitIn (env : Env) (e i1 : Expr) (D : Addr) (r : Sem Fin) : Sem Fin := do
  let x ← eval i1 env
  standAt i1.pos
  let x ← foldedSetIterable i1 env x
  let _ ← runOwn (.compStart e 1 (← holding [x] (pyIter x)) (.ref D) env) env
  r

/-- d[y] = z by a comprehension -/
abbrev TDs := V → V → Hp → (Hp → Prop) → Prop
structure PDs (B : Cx) (D : Addr) (ts : TDs) : Prop where
  run : ∀ (pins : List (Addr × Obj)) (s : Shared) (σ : L2.St) (H : Hp) (y z : V) (u r : Value) (N : Hp → Prop), Inv B pins σ H s → RelV y u → RelV z r → ts y z H N →
    wpAny (model B.prog B.w) B.A (dictSet D u r) (fun _ s' => ∃ H', Inv B pins σ H' s' ∧ N H') (fun _ _ => False) s
def bSet (tk tv : TE) (ts : TDs) : TBod := fun σ H N => tk σ H fun y H1 => tv σ H1 fun z H2 => ts y z H2 N
theorem em_set (hx : B.xe = fun _ _ => False) {kx vx : Expr} {tk tv : TE} {D : Addr} {ts : TDs} {vs : List Nat} (hk : PE B kx tk) (hv : PE B vx tv) (hd : PDs B D ts) : PEm B (emitSet B.env kx vx D) vs (bSet tk tv ts) := by
  refine ⟨fun pins s σ H N r Q I h hr => ?_⟩
  unfold emitSet
  have r1 := hk.run pins s σ H _ I h
  rw [hx] at r1
  refine wpAny_bind (wpAny_bind (thnF r1 fun u s1 z => ?_))
  obtain ⟨y, H1, I1, ry, h1⟩ := z
  have r2 := hv.run pins s1 σ H1 _ I1 h1
  rw [hx] at r2
  refine wpAny_bind (wpAny_holding (thnF r2 fun u2 s2 z => ?_))
  obtain ⟨v, H2, I2, rv, h2⟩ := z
  refine wpAny_bind (wpAny_standAt (wpAny_holding (thnF (hd.run pins s2 σ H2 y v u u2 N I2 ry rv h2) fun _ s3 z => ?_)))
  obtain ⟨H3, I3, h3⟩ := z
  exact hr σ H3 s3 I3 rfl (fun j v e => (wipe_some e).1) h3
def bIn (wi : TI) (g : TG) (vs : List Nat) (body : TBod) : TBod := fun σ H N => wi σ H fun J H1 => tLoop J g vs body N σ H1
theorem em_in (hc : B.calm = true) (hx : B.xe = fun _ _ => False) {kx vx tg i1 : Expr} {gens : List Comprehension} {scope : Scope} {pos : Pos} {c1 : Comprehension} {D : Addr} {wi : TI} {g : TG} {vs vs1 : List Nat} {body : TBod} {emit : Sem Fin → Sem Fin} {p : Pos} (hg : gens[1]? = some c1) (ha : c1.is_async = 0)
    (hs : ∀ x, foldedSetIterable i1 B.env x = pure x) (hv : ∀ i ∈ vs1, i ∈ vs) (hi : PI B tg i1 wi) (pg : PG B tg g) (pe : PEm B emit vs1 body)
    (htu : ∀ it : Addr, compTurn (.DictComp kx vx gens scope pos) 1 (.ref it) (.ref D) B.env = turnTerm B.env (.DictComp kx vx gens scope pos) 1 (.ref it) (.ref D) p tg emit) : PEm B (emitIn B.env (.DictComp kx vx gens scope pos) i1 D) vs (bIn wi g vs1 body) := by
  refine ⟨fun pins s σ H N r Q I h hr => ?_⟩
  unfold emitIn
  have r1 := hi.run pins s σ H _ I h
  rw [hx] at r1
  refine wpAny_bind (thnF r1 fun x s1 z => wpAny_bind (wpAny_standAt (wpAny_bind (wpAny_of_eq (hs x) (wpAny_bind (wpAny_holding (thnF z fun itv s2 z => ?_)))))))
  obtain ⟨it, fp, tn, J, H2, eq, I2, T, st2, f2, q⟩ := z
  subst eq
  have lp := clause_loop hc hx (htu it) T pg pe (I2.weak (wipe_length σ vs1) fun j v e => (wipe_some e).1) st2 f2 q
  refine wpAny_bind (wpAny_runOwn ?_)
  rw [Around.mark_none]
  refine codeAny_mono (start_ok hg ha lp (T.self B.A 0 _ _ _ st2 lp)) fun ro s' z => ?_
  cases ro with
  | error x => exact z.elim
  | ok f =>
    obtain ⟨H3, I3, n3⟩ := z
    refine hr _ H3 s' I3 (wipe_length σ vs1) (fun j v e => ?_) n3
    obtain ⟨e1, e2⟩ := wipe_some e
    rw [wipe_out fun z => e2 (hv j z)]
    exact e1

/-! ### the comprehension -/
def tDcG (wi : TI) (g : TG) (o0 : Addr → HO) (body : Addr → TBod) (vs : List Nat) : TE := fun σ H Q => wi σ H fun J H1 => ∀ D, H1 D = none → tLoop J g vs (body D) (Q (.ref D)) σ (upd H1 D (o0 D))
def NewD (P : Program) (w : World) (o0 : Addr → HO) : Prop := ∀ (H : Hp) (h : Heap), sysModules < h.objs.size → ObjOk P w H (h.push { cls := .type "dict", data := .dict #[] }) h.objs.size (o0 h.objs.size)
section
variable {X : Cx}
theorem pe_dcG {kx vx tg iter : Expr} {gens : List Comprehension} {scope : Scope} {own : List (Str × Nat)} {pos : Pos} {wi : TI} {g : TG} {o0 : Addr → HO} {body : Addr → TBod} {emit : Env → Addr → Sem Fin → Sem Fin}
    (hc : X.calm = true) (hN : X.N.Nodup) (ho : NewD X.prog X.w o0) (hi : PI X tg iter wi) (ok : BlkOk X.N X.env.scope scope own)
    (hg : ∀ (s : Shared) (H : Hp) (C : Addr) (cl : List (Str × Addr)) (fp : List Addr), PG (X.blk s H scope (compEnvC scope cl C X.env) fp) tg g)
    (hb : ∀ (s : Shared) (H : Hp) (C : Addr) (cl : List (Str × Addr)) (fp : List Addr) (D : Addr), PEm (X.blk s H scope (compEnvC scope cl C X.env) fp) (emit (compEnvC scope cl C X.env) D) (own.map (·.2)) (body D))
    (htu : ∀ (env : Env) (it D : Addr), compTurn (.DictComp kx vx (⟨tg, iter, [], 0⟩ :: gens) scope pos) 0 (.ref it) (.ref D) env = turnTerm env (.DictComp kx vx (⟨tg, iter, [], 0⟩ :: gens) scope pos) 0 (.ref it) (.ref D) iter.pos tg (emit env D))
    (hs : ∀ x, foldedSetIterable iter X.env x = pure x := by intro _; rfl) :
    PE X (.DictComp kx vx (⟨tg, iter, [], 0⟩ :: gens) scope pos) (tDcG wi g o0 body (own.map (·.2))) := by
  refine ⟨fun pins s σ H Q I h => ?_⟩
  rw [arm_eval_DictComp]
  have hfree : ∀ y ∈ scope.names, y.2 = .free → ∃ c, X.env.cells.lookup y.1 = some c := fun y hy e => (ok.free y hy e).elim (fun k => I.ok.has _ (.inl k)) (fun k => I.ok.has _ (.inr k))
  refine wpAny_comprehension_free (use := none) rfl hs (closure_ok hfree) ok.kind (fun y hy e => (ok.uniq y hy).trans (congrArg some e)) (thn (hi.run pins s σ H _ I h) fun xv s1 hx => thn hx fun itv s2 z => ?_)
  obtain ⟨it, fp, tn, J, H2, eq, I2, T, st2, f2, q⟩ := z
  subst eq
  refine wpAny_newObj_type (newEnv_comp ?_)
  have hn : H2 s2.heap.objs.size = none := I2.hok.fresh (Nat.le_refl _)
  have lp := q s2.heap.objs.size hn
  have I3 : Inv X pins σ (upd H2 s2.heap.objs.size (o0 s2.heap.objs.size)) { s2 with heap := s2.heap.push { cls := .type "dict", data := .dict #[] } } :=
    I2.laid (t' := s2.toks) (fun b o e => Heap.get?_push_of_some _ e) (Nat.le_refl _) (ho _ _ I2.big)
  generalize hs3 : ({ s2 with heap := s2.heap.push { cls := .type "dict", data := .dict #[] } } : Shared) = s3 at I3 ⊢
  have h3 : s3.heap = s2.heap.push { cls := .type "dict", data := .dict #[] } := congrArg (·.heap) hs3.symm
  have lt2 : ∀ b ∈ fp, b < s2.heap.objs.size := fun b hb => by
    obtain ⟨o, e, _⟩ := T.obj _ _ st2 b hb
    exact Heap.lt_size e
  generalize hD : s2.heap.objs.size = D at *
  generalize hH3 : upd H2 D (o0 D) = H3 at *
  have f3 : ∀ b ∈ fp, FpOk X pins H3 b ∧ b < s3.heap.objs.size := fun b hb => by
    refine ⟨⟨?_, (f2 b hb).2⟩, ?_⟩
    · rw [← hH3, upd_ne (Nat.ne_of_lt (lt2 b hb))]
      exact (f2 b hb).1
    · rw [h3, Heap.size_push, hD]
      exact Nat.lt_succ_of_lt (lt2 b hb)
  have I4 := block_start I3 ok hN f3
  have pg := hg s3 H3 s3.heap.objs.size (cellsFrom (s3.heap.objs.size + 1) scope.names (cloFrom X.env.cells scope.names [])) fp
  have pb := hb s3 H3 s3.heap.objs.size (cellsFrom (s3.heap.objs.size + 1) scope.names (cloFrom X.env.cells scope.names [])) fp D
  have st4 : tn 0 (pushCells (s3.heap.push { cls := .type "dict", data := .dict #[] }) scope.names) := T.keep _ _ _ st2 fun b _ o e => by
    refine pushCells_keeps _ _ _ _ (Heap.get?_push_of_some _ ?_)
    rw [h3]
    exact Heap.get?_push_of_some _ e
  have cL : (compEnvC scope (cellsFrom (s3.heap.objs.size + 1) scope.names (cloFrom X.env.cells scope.names [])) s3.heap.objs.size X.env).locals = s3.heap.objs.size := rfl
  show codeAny _ _ (.compStart (.DictComp kx vx (⟨tg, iter, [], 0⟩ :: gens) scope pos) 0 (.ref it) (.ref D) (compEnvC scope (cellsFrom (s3.heap.objs.size + 1) scope.names (cloFrom X.env.cells scope.names [])) s3.heap.objs.size X.env))
    (compPost (model X.prog X.w) X.A X.xe none (EP X pins σ Q) (.ref D) s3.heap.objs.size) _
  generalize compEnvC scope (cellsFrom (s3.heap.objs.size + 1) scope.names (cloFrom X.env.cells scope.names [])) s3.heap.objs.size X.env = ce at I4 pg pb cL ⊢
  have fo : ∀ b ∈ fp, FpOk (X.blk s3 H3 scope ce fp) [] H3 b := fun b hb =>
    ⟨(f3 b hb).1.1, (I4.ok.exf b hb).1, I4.ok.exfs b hb, .inl hb, fun x c e => (I4.ok.exf b hb).2 x c e, fun p hp => absurd (show p ∈ ([] : List (Addr × Obj)) ++ [] from hp) (by simp)⟩
  have lp' := clause_loop (B := X.blk s3 H3 scope ce fp) hc rfl (htu ce it D) T pg pb I4 st4 fo lp
  refine codeAny_mono (start_ok rfl rfl lp' (T.self X.A 0 _ _ _ st4 lp')) fun r s' z => ?_
  cases r with
  | error x => exact z.elim
  | ok f =>
    obtain ⟨H5, I5, q5⟩ := z
    have I6 : Inv X pins σ H5 s' := I3.call' (ch := fp) I5.os I5.base I5.hok I5.bare fun b hb => ⟨(f3 b hb).1.2.2.2.1, (f3 b hb).1.2.1, (f3 b hb).1.2.2.2.2.1, (f3 b hb).1.2.2.2.2.2⟩
    have nC : H5 s3.heap.objs.size = none := cL ▸ (show H5 ce.locals = none from I5.free)
    obtain ⟨m, hm, _⟩ := I5.loc
    have hm' : s'.heap.Ns s3.heap.objs.size m := cL ▸ (show s'.heap.Ns ce.locals m from hm)
    obtain ⟨f0, f1, f2, f3, f4, f5⟩ := I3.fpOk (Nat.le_refl _) nC
    exact ⟨m, hm', fun h' sb => ⟨.ref D, H5, I6.turned (t' := s'.toks) (fun b o hb e => (sb.2 b hb).trans e) f0 f1 f3 f4 f5, rfl, q5⟩⟩
/-- one clause -/
theorem pe_dc1 {kx vx tg iter : Expr} {scope : Scope} {own : List (Str × Nat)} {pos : Pos} {wi : TI} {g : TG} {o0 : Addr → HO} {tk tv : TE} {ts : Addr → TDs}
    (hc : X.calm = true) (hN : X.N.Nodup) (ho : NewD X.prog X.w o0) (hi : PI X tg iter wi) (ok : BlkOk X.N X.env.scope scope own)
    (hg : ∀ (s : Shared) (H : Hp) (C : Addr) (cl : List (Str × Addr)) (fp : List Addr), PG (X.blk s H scope (compEnvC scope cl C X.env) fp) tg g)
    (hk : ∀ (s : Shared) (H : Hp) (C : Addr) (cl : List (Str × Addr)) (fp : List Addr), PE (X.blk s H scope (compEnvC scope cl C X.env) fp) kx tk)
    (hv : ∀ (s : Shared) (H : Hp) (C : Addr) (cl : List (Str × Addr)) (fp : List Addr), PE (X.blk s H scope (compEnvC scope cl C X.env) fp) vx tv)
    (hd : ∀ (s : Shared) (H : Hp) (C : Addr) (cl : List (Str × Addr)) (fp : List Addr) (D : Addr), PDs (X.blk s H scope (compEnvC scope cl C X.env) fp) D (ts D))
    (hs : ∀ x, foldedSetIterable iter X.env x = pure x := by intro _; rfl) :
    PE X (.DictComp kx vx [⟨tg, iter, [], 0⟩] scope pos) (tDcG wi g o0 (fun D => bSet tk tv (ts D)) (own.map (·.2))) :=
  pe_dcG (emit := fun env D => emitSet env kx vx D) hc hN ho hi ok hg (fun s H C cl fp D => em_set rfl (hk s H C cl fp) (hv s H C cl fp) (hd s H C cl fp D)) (fun _ _ _ => rfl) hs
/-- two -/
theorem pe_dc2 {kx vx tg iter tg1 iter1 : Expr} {scope : Scope} {own : List (Str × Nat)} {vs1 : List Nat} {pos : Pos} {wi wi1 : TI} {g g1 : TG} {o0 : Addr → HO} {tk tv : TE} {ts : Addr → TDs}
    (hc : X.calm = true) (hN : X.N.Nodup) (ho : NewD X.prog X.w o0) (hi : PI X tg iter wi) (ok : BlkOk X.N X.env.scope scope own) (hvs : ∀ i ∈ vs1, i ∈ own.map (·.2))
    (hg : ∀ (s : Shared) (H : Hp) (C : Addr) (cl : List (Str × Addr)) (fp : List Addr), PG (X.blk s H scope (compEnvC scope cl C X.env) fp) tg g)
    (hi1 : ∀ (s : Shared) (H : Hp) (C : Addr) (cl : List (Str × Addr)) (fp : List Addr), PI (X.blk s H scope (compEnvC scope cl C X.env) fp) tg1 iter1 wi1)
    (hg1 : ∀ (s : Shared) (H : Hp) (C : Addr) (cl : List (Str × Addr)) (fp : List Addr), PG (X.blk s H scope (compEnvC scope cl C X.env) fp) tg1 g1)
    (hk : ∀ (s : Shared) (H : Hp) (C : Addr) (cl : List (Str × Addr)) (fp : List Addr), PE (X.blk s H scope (compEnvC scope cl C X.env) fp) kx tk)
    (hv : ∀ (s : Shared) (H : Hp) (C : Addr) (cl : List (Str × Addr)) (fp : List Addr), PE (X.blk s H scope (compEnvC scope cl C X.env) fp) vx tv)
    (hd : ∀ (s : Shared) (H : Hp) (C : Addr) (cl : List (Str × Addr)) (fp : List Addr) (D : Addr), PDs (X.blk s H scope (compEnvC scope cl C X.env) fp) D (ts D))
    (hs : ∀ x, foldedSetIterable iter X.env x = pure x := by intro _; rfl) (hs1 : ∀ env x, foldedSetIterable iter1 env x = pure x := by intro _ _; rfl) :
    PE X (.DictComp kx vx [⟨tg, iter, [], 0⟩, ⟨tg1, iter1, [], 0⟩] scope pos) (tDcG wi g o0 (fun D => bIn wi1 g1 vs1 (bSet tk tv (ts D))) (own.map (·.2))) :=
  pe_dcG (emit := fun env D => emitIn env (.DictComp kx vx [⟨tg, iter, [], 0⟩, ⟨tg1, iter1, [], 0⟩] scope pos) iter1 D) hc hN ho hi ok hg
    (fun s H C cl fp D => em_in (B := X.blk s H scope (compEnvC scope cl C X.env) fp) (emit := emitSet (compEnvC scope cl C X.env) kx vx D) (p := iter1.pos) (gens := [⟨tg, iter, [], 0⟩, ⟨tg1, iter1, [], 0⟩]) hc rfl rfl rfl (hs1 _) hvs (hi1 s H C cl fp) (hg1 s H C cl fp) (em_set rfl (hk s H C cl fp) (hv s H C cl fp) (hd s H C cl fp D)) (fun _ => rfl)) (fun _ _ _ => rfl) hs
end
end
end NC
/-! The two dicts of a figure: edges to True, points to directions. -/
namespace NC
open PySem PySem.Spec PyProof.Rows L2

/-! ### the dict of edges -/
def heldXs (L : List (Addr × Ed)) : List (NestedKey × Addr × Value) := L.map fun p => (edK p.2, p.1, .bool true)
structure HeldR (P : Program) (w : World) (h : Heap) (a : Addr) (L : List (Addr × Ed)) : Prop where
  no : (a == sysModules) = false
  nd : (eds L).Nodup
  few : L.length ≤ sizeLine
  ob : ∃ o es ep, h.get? a = some o ∧ o.ExactDict ∧ o.data = .dict es ep ∧ es.toList = (heldXs L).map (entryOfKey (nestedKind P w))
def HeldO (P : Program) (w : World) (a : Addr) (L : List (Addr × Ed)) : HO := .ext fun h => HeldR P w h a L
theorem heldO_of {P : Program} {w : World} {H : Hp} {h : Heap} {a : Addr} {L : List (Addr × Ed)} (x : HeldR P w h a L) : ObjOk P w H h a (HeldO P w a L) := by
  obtain ⟨o, es, ep, ho, r⟩ := x.ob
  refine ⟨x, ⟨o, ho⟩, fun h1 h2 y k => ?_⟩
  obtain ⟨o', es', ep', ho', r'⟩ := y.ob
  exact ⟨y.no, y.nd, y.few, o', es', ep', k o' ho', r'⟩
theorem held_new (P : Program) (w : World) : NewD P w fun a => HeldO P w a [] := fun H h hb =>
  heldO_of ⟨beq_eq_false_iff_ne.mpr (Ne.symm (Nat.ne_of_lt hb)), List.nodup_nil, Nat.zero_le _, _, #[], 0, Heap.get?_push_size _ rfl, ⟨rfl, rfl, rfl⟩, rfl, rfl⟩
theorem held_keys (L : List (Addr × Ed)) : (heldXs L).map (·.1) = (eds L).map edK := by simp [heldXs, eds, List.map_map, Function.comp_def]
theorem heldR_of {P : Program} {w : World} {H : Hp} {h : Heap} {a : Addr} {L : List (Addr × Ed)} (ok : HOk P w H h) (e : H a = some (HeldO P w a L)) : HeldR P w h a L := by
  have z : ObjOk P w H h a (HeldO P w a L) := ok a _ e
  exact z.1
theorem held_dict {X : Cx} {pins : List (Addr × Obj)} {σ : L2.St} {H : Hp} {s : Shared} {a : Addr} {L : List (Addr × Ed)} (I : Inv X pins σ H s) (e : H a = some (HeldO X.prog X.w a L)) (hL : EL H L) :
    s.heap.DictOfH (nestedKind X.prog X.w) a (heldXs L) := by
  obtain ⟨_, nd, _, o, es, ep, ho, hc, hd, hs⟩ := heldR_of I.hok e
  refine ⟨o, es, ep, ho, hc, hd, hs, fun x hx => ?_, ?_⟩
  · obtain ⟨p, hp, rfl⟩ := List.mem_map.mp hx
    exact ((hL p hp).is I).nk
  · rw [held_keys]
    exact List.pairwise_map.mpr (nd.imp fun h e => h (edK_inj e))
theorem held_at : ∀ (L : List (Addr × Ed)) (e : Ed), (atKey (heldXs L) (edK e)).isSome = decide (e ∈ eds L)
  | [], e => by simp [heldXs, atKey]
  | p :: L, e => by
    have ih := held_at L e
    by_cases h : p.2 = e
    · have h1 : atKey (heldXs (p :: L)) (edK e) = some (p.1, .bool true) := by simp [heldXs, atKey, h]
      rw [h1]
      exact (decide_eq_true (show e ∈ eds (p :: L) from h ▸ List.mem_cons_self)).symm
    · have h1 : atKey (heldXs (p :: L)) (edK e) = atKey (heldXs L) (edK e) := by
        have hk : ¬ edK p.2 = edK e := fun z => h (edK_inj z)
        simp [heldXs, atKey, List.find?_cons, hk]
      rw [h1, ih]
      refine decide_eq_decide.mpr ⟨fun z => List.mem_cons_of_mem _ z, fun z => ?_⟩
      rcases List.mem_cons.mp z with z | z
      · exact absurd z.symm h
      · exact z

def dsHeld (P : Program) (w : World) (D : Addr) : TDs := fun y z H N => ∃ a e L, y = V.ref a ∧ EdA H a e ∧ z = .bl true ∧ H D = some (HeldO P w D L) ∧ EL H L ∧ e ∉ eds L ∧ L.length < sizeLine ∧
  N (upd H D (HeldO P w D (L ++ [(a, e)])))
theorem ds_held {B : Cx} {D : Addr} (hu : B.A.units + 8 < cLine) : PDs B D (dsHeld B.prog B.w D) := by
  refine ⟨fun pins s σ H y z u r N I ry rz h => ?_⟩
  obtain ⟨a, e, L, rfl, he, rfl, hD, hL, hn, hz, q⟩ := h
  obtain rfl : u = Value.ref a := ry
  obtain rfl : r = Value.bool true := rz
  have R := heldR_of I.hok hD
  have h0 : atKey (heldXs L) (edK e) = none := by
    have h1 := held_at L e
    rw [decide_eq_false hn] at h1
    cases h2 : atKey (heldXs L) (edK e) with
    | none => rfl
    | some p => rw [h2] at h1; cases h1
  refine wpAny_dictSet_heap (knd := nestedKind B.prog B.w) (hsz := by simp [heldXs]; omega) hu (he.is I).nk (held_dict I hD hL) fun h' dd hs => ?_
  refine ⟨_, ?_, q⟩
  rw [storedH_new h0] at dd
  obtain ⟨o, es, ep, ho, hc, hd, hes, _, _⟩ := dd
  refine d_write I (by rw [hD]; exact True.intro) hs ⟨o, ho⟩ (heldO_of ⟨R.no, ?_, by rw [List.length_append]; exact hz, o, es, ep, ho, hc, hd, ?_⟩)
  · simp only [eds, List.map_append, List.map_cons, List.map_nil]
    refine List.nodup_append.mpr ⟨R.nd, List.nodup_cons.mpr ⟨by simp, List.nodup_nil⟩, fun x hx y hy => ?_⟩
    rw [List.mem_singleton] at hy
    subst hy
    exact fun z => hn (z ▸ hx)
  · rw [hes]
    simp [heldXs]

/-- e in held, e not in held -/
def rInH (P : Program) (w : World) (neg : Bool) : R2 := fun x y H Q => ∃ a e d L, x = V.ref a ∧ EdA H a e ∧ y = V.ref d ∧ H d = some (HeldO P w d L) ∧ EL H L ∧ Q (.bl (if neg then !decide (e ∈ eds L) else decide (e ∈ eds L))) H
section
variable {X : Cx}
theorem op_inH (hu : X.A.units + 65 < cLine) : OpR X (compareOp .In) (rInH X.prog X.w false) := by
  intro pins s σ H x y v u Q I rx ry h
  obtain ⟨a, e, d, L, rfl, he, rfl, hd, hL, q⟩ := h
  obtain rfl : v = Value.ref a := rx
  obtain rfl : u = Value.ref d := ry
  have hr : (nestedKind X.prog X.w).room X.A.in1 := (by show X.A.units + 1 + 8 < cLine; omega : X.A.in1.units + 8 < cLine)
  refine wpAny_in_heap (knd := nestedKind X.prog X.w) hr (he.is I).nk (heldR_of I.hok hd).no (held_dict I hd hL) ?_
  rw [held_at]
  exact fin_bl (I.tok _) q rfl
theorem op_notInH (hu : X.A.units + 65 < cLine) : OpR X (compareOp .NotIn) (rInH X.prog X.w true) := by
  intro pins s σ H x y v u Q I rx ry h
  obtain ⟨a, e, d, L, rfl, he, rfl, hd, hL, q⟩ := h
  obtain rfl : v = Value.ref a := rx
  obtain rfl : u = Value.ref d := ry
  have hr : (nestedKind X.prog X.w).room X.A.in1 := (by show X.A.units + 1 + 8 < cLine; omega : X.A.in1.units + 8 < cLine)
  refine wpAny_notIn_heap (knd := nestedKind X.prog X.w) hr (he.is I).nk (heldR_of I.hok hd).no (held_dict I hd hL) ?_
  rw [held_at]
  exact fin_bl (I.tok _) q rfl
end

/-! ### the dict of points -/
def ptKs (p : Pt) : List L2.Key := [Sum.inl p.1, Sum.inl p.2]
theorem ptKs_inj {p q : Pt} (h : ptKs p = ptKs q) : p = q := by
  unfold ptKs at h
  injection h with h1 h
  injection h with h2 _
  injection h1 with h1
  injection h2 with h2
  exact Prod.ext h1 h2
theorem PtA.key {H : Hp} {a : Addr} {p : Pt} (h : PtA H a p) : H a = some (.tup ((ptKs p).map kV)) := h
def dsT (D : Addr) : TDs := fun y z H N => ∃ a p kvs, y = V.ref a ∧ PtA H a p ∧ H D = some (.dT kvs) ∧ kvs.length < sizeLine ∧ N (upd H D (.dT (putK kvs (ptKs p) z)))
theorem ds_T {B : Cx} {D : Addr} (hu : B.A.units + 8 < cLine) : PDs B D (dsT D) := by
  refine ⟨fun pins s σ H y z u r N I ry rz h => ?_⟩
  obtain ⟨a, p, kvs, rfl, hp, hD, hz, q⟩ := h
  obtain rfl : u = Value.ref a := ry
  obtain ⟨zz, hd, xs, rel, dd⟩ := dt_of I.hok hD
  have hl : xs.length ≤ sizeLine := by rw [← Paired.length rel]; exact zz
  have hk : (putK kvs (ptKs p) z).length ≤ sizeLine := by have := length_putK kvs (ptKs p) z; omega
  have hr : (tupleKind (mixKind B.prog B.w)).room B.A := (by omega : B.A.units < cLine)
  refine wpAny_dictSet_heap (knd := tupleKind (mixKind B.prog B.w)) (hsz := hl) hr (key_of I.hok hp.key) dd fun h' d2 hs => ⟨_, ?_, q⟩
  obtain ⟨o, es, ep, ho, h2, h3, h4, _, h5⟩ := d2
  refine d_write I (by rw [hD]; exact True.intro) hs ⟨o, ho⟩ ⟨hk, hd, _, (rel.put (ptKs p) hp.key rz).keeps (fun c ys ec => ?_), o, es, ep, ho, h2, h3, h4, h5⟩
  rw [upd_ne (ne_of ec hD fun z => nomatch z)]
  exact ec
end NC
/-! Operators of an own class: the text's own dunder methods run. -/
namespace NC
open PySem PySem.Spec PyProof.Rows L2

section
variable {X : Cx} {pins : List (Addr × Obj)} {σ : L2.St} {H : Hp} {s : Shared} {k : Nat} {f C : Addr} {fd : FuncData} {ps : List Str} {sp : Sp} {A : Around}
theorem call_own {Q : VK} {us : List Value} {vs : List V} (F : FnOk X.prog X.w X.K X.mg X.base L2.CX0 k f fd ps sp) (hr : Room k A) (hfr : A.frames = X.A.frames) (hb : Binds X.K fd ps []) (I : Inv X pins σ H s) (r : Vals vs us) (h : sp vs H Q L2.E0) :
    wpAny (model X.prog X.w) A (call (.ref f) us) (EP X pins σ Q) X.xe s := by
  have e0 := I.env0
  have hl : (us ++ ([] : List Value)).length = ps.length := by rw [List.append_nil, ← r.length]; exact F.len _ _ _ _ h
  have hb' := hb s us I.kIn hl
  rw [List.append_nil] at hb'
  refine wpAny_call (codeAny_mono (F.run A X.stack s H ⟨us, []⟩ us vs Q L2.E0 hr ⟨hfr.trans e0.frames, e0.mod, e0.bs, e0.bsz, e0.funs, e0.frf, e0.hok, e0.bare⟩ hb' r h) fun w s' z => ?_)
  cases w with
  | error e => exact z.elim
  | ok fl => cases fl with
    | ret u => exact I.after z
    | _ => exact z.elim
theorem EP.notNI {Q : VK} {u : Value} {s' : Shared} (h : EP X pins σ Q u s') : PySem.W.CmpBack (EP X pins σ Q) u s' := by
  obtain ⟨v, H', I, r, q⟩ := h
  cases u <;> first
    | exact ⟨v, H', I, r, q⟩
    | (have z := r.abs; simp [absV] at z)

/-! ### a op b -/
def rBin (C : Addr) (sp : Sp) : R2 := fun x y H Q => ∃ a b dx dy fs gs, x = V.ref a ∧ y = V.ref b ∧ H a = some (.ins C dx fs) ∧ H b = some (.ins C dy gs) ∧ sp [.ref a, .ref b] H Q L2.E0
theorem op_bin {op : Operator} (F : FnOk X.prog X.w X.K X.mg X.base L2.CX0 k f fd ps sp) (hr : Room k X.A) (hb : Binds X.K fd ps []) (hc : PySem.W.selfFirst X.K C = true)
    (hs : PySem.W.findIn X.K (.ref C) (PySem.dunder op.info.2) = some (some (.ref f))) (hf : PySem.W.isFn X.K (.ref f) = true) : OpR X (binaryOp op) (rBin C sp) := by
  intro pins s σ H x y v u Q I rx ry h
  obtain ⟨a, b, dx, dy, fs, gs, rfl, rfl, ha, hb', hsp⟩ := h
  obtain rfl : v = Value.ref a := rx
  obtain rfl : u = Value.ref b := ry
  obtain ⟨mA, J, _⟩ := ins_get I.hok ha
  obtain ⟨mB, J', _⟩ := ins_get I.hok hb'
  obtain ⟨od, J, _⟩ := J.look
  obtain ⟨od', J', _⟩ := J'.look
  obtain ⟨m, hF⟩ := I.fr
  exact PySem.W.binop_K hF I.ok.mod.kin J J'.type hc hs hf (thn (call_own (vs := [V.ref a, V.ref b]) F hr rfl hb I (.cons rfl (.cons rfl .nil)) hsp) fun _ _ z => EP.notNI z)

/-! ### v in a -/
def rInO (C : Addr) (sp : Sp) (neg : Bool) : R2 := fun x y H Q => ∃ a dx fs, y = V.ref a ∧ H a = some (.ins C dx fs) ∧ sp [.ref a, x] H (fun v H' => ∃ b, v = .bl b ∧ Q (.bl (if neg then !b else b)) H') L2.E0
theorem op_notInO (F : FnOk X.prog X.w X.K X.mg X.base L2.CX0 k f fd ps sp) (hr : Room k X.A) (hb : Binds X.K fd ps [])
    (hs : PySem.W.findIn X.K (.ref C) "__contains__" = some (some (.ref f))) (hf : PySem.W.isFn X.K (.ref f) = true) : OpR X (compareOp .NotIn) (rInO C sp true) := by
  intro pins s σ H x y v u Q I rx ry h
  obtain ⟨a, dx, fs, rfl, ha, hsp⟩ := h
  obtain rfl : u = Value.ref a := ry
  obtain ⟨mA, J, _⟩ := ins_get I.hok ha
  obtain ⟨od, J, _⟩ := J.look
  obtain ⟨m, hF⟩ := I.fr
  refine PySem.W.notIn_K hF I.ok.mod.kin J hs hf (thn (call_own (vs := [V.ref a, x]) F hr rfl hb I (.cons rfl (.cons rx .nil)) hsp) fun r s' z => ?_)
  obtain ⟨w', H', I', r', b, rfl, q⟩ := z
  obtain rfl : r = Value.bool b := r'
  exact wpAny_truthy_bool (fin_bl I' q rfl)

/-! ### len(a) -/
def rLenO (C : Addr) (sp : Sp) : List V → Hp → VK → Prop := fun xs H Q => ∃ a dx fs, xs = [V.ref a] ∧ H a = some (.ins C dx fs) ∧ sp [.ref a] H (fun v H' => ∃ n : Nat, v = .int n ∧ n < 2 ^ 63 ∧ Q (.int n) H') L2.E0
theorem call_lenO (F : FnOk X.prog X.w X.K X.mg X.base L2.CX0 k f fd ps sp) (hr : Room (k + 1) X.A) (hb : Binds X.K fd ps [])
    (hs : PySem.W.findIn X.K (.ref C) "__len__" = some (some (.ref f))) (hf : PySem.W.isFn X.K (.ref f) = true) : CallR X (.builtin "len") (rLenO C sp) := by
  intro pins s σ H xs us Q I r h
  obtain ⟨a, dx, fs, rfl, ha, hsp⟩ := h
  rw [Vals.ref1 r]
  obtain ⟨mA, J, _⟩ := ins_get I.hok ha
  obtain ⟨od, J, _⟩ := J.look
  obtain ⟨m, hF⟩ := I.fr
  refine PySem.W.len_K hF I.ok.mod.kin J hs hf (thn (call_own (vs := [V.ref a]) F hr.in1 rfl hb I (.cons rfl .nil) hsp) fun r s' z => ?_)
  obtain ⟨w', H', I', r', n, rfl, hn, q⟩ := z
  obtain ⟨t, rfl⟩ : ∃ t, r = Value.int n t := r'
  exact ⟨⟨Int.natCast_nonneg n, by omega⟩, .int n, H', I'.tok _, ⟨_, rfl⟩, q⟩

/-! ### a != b by the own __eq__ -/
def rNeO (C : Addr) (sp : Sp) : R2 := fun x y H Q => ∃ a b dx dy fs gs, x = V.ref a ∧ y = V.ref b ∧ H a = some (.ins C dx fs) ∧ H b = some (.ins C dy gs) ∧ sp [.ref a, .ref b] H (fun v H' => ∃ k, v = .bl k ∧ Q (.bl (!k)) H') L2.E0
theorem bound_ne {M : Model} {E : Value → Shared → Prop} {K : PySem.W.Frag} {x C : Addr} {ox : Obj} {od : Option Obj} {args : List Value} {Q : Option Value → Shared → Prop} (X : K.In s.heap) (I : PySem.W.InstAt s.heap x ox C od)
    (hs : PySem.W.findIn K (.ref C) "__ne__" = some (some (.builtin "object.__ne__"))) (h : wpAny M A (call (.builtin "object.__ne__") (.ref x :: args)) (fun v => Q (some v)) E s) :
    wpAny M A (callSpecialIfBound? (.ref x) "__ne__" args) Q E s := by
  have S := PySem.F.cmp_object.ne
  simp only [callSpecialIfBound?, bindSpecialIfBound?]
  refine wpAny_holding (wpAny_bind (wpAny_bind (wpAny_bind (I.type.here ((PySem.W.looks_findIn X hs).here ?_)))))
  simp only [S.bind]
  refine wpAny_bind (wpAny_askSetting (wpAny_ite ?_))
  have fin : wpAny M A (call (.builtin "object.__ne__") ([.ref x] ++ args) >>= fun v => pure (some v)) Q E s := wpAny_bind (wpAny_mono h (fun v s' z => wpAny_pure z) fun _ _ z => z)
  split
  · exact wpAny_bind (wpAny_pure (wpAny_pure fin))
  · exact wpAny_tryCatch (wpAny_bind (wpAny_pure (wpAny_pure fin)))
theorem op_neO (F : FnOk X.prog X.w X.K X.mg X.base L2.CX0 k f fd ps sp) (hr : Room (k + 1) X.A) (hb : Binds X.K fd ps []) (hi : PySem.W.subIn X.K (.ref C) (.type "object") = some true)
    (hn : PySem.W.findIn X.K (.ref C) "__ne__" = some (some (.builtin "object.__ne__")))
    (hs : PySem.W.findIn X.K (.ref C) "__eq__" = some (some (.ref f))) (hf : PySem.W.isFn X.K (.ref f) = true) : OpR X (compareOp .NotEq) (rNeO C sp) := by
  intro pins s σ H x y v u Q I rx ry h
  obtain ⟨a, b, dx, dy, fs, gs, rfl, rfl, ha, hb', hsp⟩ := h
  obtain rfl : v = Value.ref a := rx
  obtain rfl : u = Value.ref b := ry
  obtain ⟨mA, J, _⟩ := ins_get I.hok ha
  obtain ⟨mB, J', _⟩ := ins_get I.hok hb'
  obtain ⟨od, J, _⟩ := J.look
  obtain ⟨od', J', _⟩ := J'.look
  have hK := I.kIn
  have hu := hr.units0
  have body : wpAny (model X.prog X.w) X.A (tryCompare (.ref a) "__ne__" (.ref b)) (fun r s' => ∃ v, r = some v ∧ EP X pins σ Q v s') X.xe s := by
    unfold tryCompare
    refine wpAny_bind (bound_ne hK J hn ?_)
    refine wpAny_call (codeAny_call_builtin PySem.F.cmp_object.ne.plain PySem.F.cmpEntry_ne (PySem.W.check_slot PySem.F.cmpKind_ne PySem.F.cmpSplit_ne (J.type.andThen (PySem.W.looks_subIn hK hi)) (PySem.F.cmpArgs_ne _ _) ?_))
    show wpAny _ X.A.in1 (Builtin.«object.__ne__» ⟨[.ref a, .ref b], []⟩) _ _ s
    unfold Builtin.«object.__ne__»
    refine wpAny_bind (m := slotArgs _ _ _) (wpAny_pure ?_)
    refine wpAny_bind (wpAny_cRoomFor (by show X.A.units + 1 < cLine; exact hu_of hr) ?_)
    refine wpAny_bind (m := callSpecialIfBound? (.ref a) (Str.ofString "__eq__") [.ref b]) (PySem.W.ifBound_K hK J hs hf (thn (call_own (vs := [V.ref a, V.ref b]) F hr.in1 rfl hb I (.cons rfl (.cons rfl .nil)) hsp) fun r s' z => ?_))
    obtain ⟨w', H', I', r', k, rfl, q⟩ := z
    obtain rfl : r = Value.bool k := r'
    dsimp only
    refine wpAny_bind (wpAny_truthy_bool ?_)
    have fin : EP X pins σ Q (.bool (!k)) s' := fin_bl I' q rfl
    first
      | exact wpAny_pure (wpAny_pure ⟨_, rfl, fin⟩)
      | exact wpAny_pure ⟨_, rfl, fin⟩
  show wpAny _ _ (richCompare .NotEq (.ref a) (.ref b)) _ _ s
  unfold richCompare
  simp only [PySem.oneThing_ref]
  refine wpAny_holding (wpAny_bind (wpAny_cRoomFor hu ?_))
  refine wpAny_bind (J.type.here (wpAny_bind (J'.type.here ?_)))
  rw [show (Value.ref C != Value.ref C) = false from by simp]
  simp only [Bool.false_eq_true, if_false]
  refine wpAny_bind (wpAny_pure ?_)
  simp only [Bool.false_eq_true, if_false]
  refine wpAny_bind (thn body fun r s' z => ?_)
  obtain ⟨v, rfl, q⟩ := z
  exact wpAny_pure q
end
end NC
/-! sorted(dict of points). -/
namespace NC
open PySem PySem.Spec PyProof.Rows L2

theorem each_rowsP : ∀ (M : List (Addr × Pt)), PySem.W.EachIs (fun (u : Value) (q : Addr × Pt) => u = Value.ref q.1) (M.map fun q => Value.ref q.1) M
  | [] => .nil
  | q :: M => .cons rfl (each_rowsP M)
theorem rowsP_each : ∀ {us : List Value} {M : List (Addr × Pt)}, PySem.W.EachIs (fun (u : Value) (q : Addr × Pt) => u = Value.ref q.1) us M → us = M.map fun q => Value.ref q.1
  | _, _, .nil => rfl
  | _, _, .cons r t => by rw [r, rowsP_each t]; rfl
theorem vals_rfP : ∀ (M : List (Addr × Pt)), Vals (rf M) (M.map fun q => Value.ref q.1)
  | [] => .nil
  | q :: M => .cons rfl (vals_rfP M)
/-- the key tuples of the dict, with their points -/
theorem keyPts {H : Hp} : ∀ {kvs : List (List L2.Key × V)} {xs : List (List L2.Key × Addr × Value)} {ps : List Pt}, KT H kvs xs → kvs.map (·.1) = ps.map ptKs →
    ∃ M : List (Addr × Pt), PL H M ∧ pts M = ps ∧ xs.map (fun x => Value.ref x.2.1) = M.map fun q => Value.ref q.1
  | [], _, [], .nil, _ => ⟨[], (fun _ z => nomatch z), rfl, rfl⟩
  | [], _, _ :: _, _, e => by simp at e
  | p :: kvs, _, [], _, e => by simp at e
  | p :: kvs, _, q :: ps, .cons (b := x) (l₂ := xs) h t, e => by
    simp only [List.map_cons] at e
    injection e with e1 e2
    obtain ⟨M, h1, h2, h3⟩ := keyPts t e2
    refine ⟨(x.2.1, q) :: M, fun y hy => ?_, by simp [pts] at h2 ⊢; exact h2, by simp [h3]⟩
    rcases List.mem_cons.mp hy with rfl | hy
    · have z := h.2.1
      rw [e1] at z
      exact z
    · exact h1 y hy
section
variable {X : Cx}
theorem raw_ents {P : Program} {w : World} {es : Array DictEntry} {xs : List (List L2.Key × Addr × Value)} (he : es.toList = xs.map (entryOfKey (tupleKind (mixKind P w)))) {acc : Array Value}
    (hi : ItemsOf (fun i v => ∃ en : DictEntry, es[i]? = some en ∧ v = en.key) acc es.size) : acc.toList = xs.map fun x => Value.ref x.2.1 := by
  have l1 : es.size = xs.length := size_of_entries he
  refine List.ext_getElem? fun j => ?_
  rw [List.getElem?_map]
  cases hj : acc.toList[j]? with
  | none =>
    have h1 := List.getElem?_eq_none_iff.mp hj
    have h2 := hi.1
    rw [Array.length_toList] at h1
    rw [List.getElem?_eq_none (by omega)]
    rfl
  | some v =>
    obtain ⟨en, hen, hv⟩ := hi.2 j v (by rw [← Array.getElem?_toList]; exact hj)
    have qe := entry_at he j
    rw [hen] at qe
    cases hb : xs[j]? with
    | none => rw [hb] at qe; cases qe
    | some b =>
      rw [hb] at qe
      have e2 := Option.some.inj qe
      rw [hv, e2]
      rfl
def rSortDT : List V → Hp → VK → Prop := fun vs H Q => ∃ a kvs ps, vs = [V.ref a] ∧ H a = some (.dT kvs) ∧ kvs.map (·.1) = ps.map ptKs ∧
  ∀ p M, PL H M → (pts M).Perm ps → (pts M).Pairwise (fun e f => ¬ ltP f e) → H p = none → Q (.ref p) (upd H p (.lst (rf M)))
theorem call_sortDT (hc : X.calm = true) (hu : X.A.units + 64 < cLine) : CallR X (.builtin "sorted") rSortDT := by
  intro pins s σ H vs us Q I r h
  obtain ⟨a, kvs, ps, rfl, ha, hk, q⟩ := h
  rw [Vals.ref1 r]
  obtain ⟨z, hs, xs, pr, o, es, ep, ho, hx, hdt, he, hn⟩ := (show ObjOk X.prog X.w H s.heap a (.dT kvs) from I.hok a _ ha)
  obtain ⟨M0, hM, hps, hxs⟩ := keyPts pr hk
  have l1 : es.size = xs.length := size_of_entries he
  have l2 : kvs.length = xs.length := Paired.length pr
  have l3 : M0.length = xs.length := by have e := congrArg List.length hxs; simpa using e.symm
  refine Calls.call_function_entry kind_sorted plain_sorted entry_sorted (args_sorted1 _) ?_
  unfold Builtin.«sorted»
  refine wpAny_bind (m := checkCount "sorted" 1 1 _) (wpAny_pure ?_)
  refine wpAny_bind (PySem.W.kdu_collect (A := X.A.in1) (kdl_raw hs hx hdt) (I.ok.hd hc) ho (by omega) fun h' tk acc hkp hi => ?_)
  have ea := (raw_ents he hi).trans hxs
  generalize acc.toList = vs at ea
  subst ea
  refine wpAny_bind (wpAny_newList ?_ (by rw [List.length_map]; omega))
  have I1 : Inv X pins σ H { s with heap := h', toks := tk } := I.kept hkp
  generalize hvs : M0.map (fun q => Value.ref q.1) = vs
  have I2 : Inv X pins σ H { s with heap := h'.push (seqObj "list" vs.toArray 0), toks := tk } := I1.kept fun b u e => Heap.get?_push_of_some _ e
  have hoL : (h'.push (seqObj "list" vs.toArray 0)).get? h'.objs.size = some (seqObj "list" vs.toArray 0) := Heap.get?_push_size _ rfl
  have ev : PySem.W.EachIs (fun (u : Value) (q : Addr × Pt) => u = Value.ref q.1) vs M0 := hvs ▸ each_rowsP M0
  refine wpAny_bind (wpAny_holding (PySem.W.list_sort_data (s := { s with heap := h'.push (seqObj "list" vs.toArray 0), toks := tk }) (bs := M0) (enc := fun q : Addr × Pt => ptD q.2) hoL ev
    (each_imp ev fun u q hq e => ⟨[], by rw [e]; exact (hM q hq).rd I2, by simp⟩) (PySem.W.AllAlike.of fun b c => ptD_alike _ _) (PySem.W.Sortable.tuples fun b => ⟨_, _, rfl⟩) (by omega)
    (fun b _ => by have := ptD_depth b.2; simp only [Around.in1_units]; omega) fun out hl eo => ?_))
  have hout := rowsP_each eo
  subst hout
  obtain ⟨c, hcz⟩ := sortedHeap_at (vs := vs) (out := (List.map (fun q : Addr × Pt => Value.ref q.1) (M0.mergeSort (PySem.W.dataLe false fun q : Addr × Pt => ptD q.2))).toArray) hoL
  have pm : (srt (fun q : Addr × Pt => ptD q.2) M0).Perm M0 := srt_perm _ M0
  have hlen : (rf (srt (fun q : Addr × Pt => ptD q.2) M0)).length ≤ sizeLine := by rw [rf_len, pm.length_eq]; omega
  refine wpAny_pure ⟨_, rfl, .ref h'.objs.size, _, I1.laid (t' := tk) (a := h'.objs.size) (o := .lst (rf (srt (fun q : Addr × Pt => ptD q.2) M0))) (h' := sortedHeap (h'.push (seqObj "list" vs.toArray 0)) h'.objs.size vs _) (fun b u e => ?_) (Nat.le_refl _) ⟨hlen, _, c, vals_rfP _, hcz⟩, rfl, q _ _ (fun x hx => hM x (pm.mem_iff.mp hx)) ((pm.map _).trans (by rw [← hps])) (srt_pt (fun q : Addr × Pt => q.2) M0) (I1.hok.fresh (Nat.le_refl _))⟩
  have hlt := Heap.lt_size e
  rw [sortedHeap_old (Nat.ne_of_lt hlt) (by rw [size_push']; exact Nat.lt_succ_of_lt hlt)]
  exact Heap.get?_push_of_some _ e
end
end NC
/-! List comprehensions whose element may know how the heap grew; lambdas. -/
namespace NC
open PySem PySem.Spec PyProof.Rows L2

section
variable {B : Cx}
theorem clause_loopL (hc : B.calm = true) (hx : B.xe = fun _ _ => False) {elt : Expr} {gens : List Comprehension} {scope : Scope} {pos : Pos} {depth : Nat} {it D : Addr} {fp : List Addr} {tn : Nat → Heap → Prop} {J : It} {tg : Expr} {p : Pos} {emit : Sem Fin → Sem Fin} {g : TG} {vs : List Nat} {body : TBod}
    (htu : compTurn (.ListComp elt gens scope pos) depth (.ref it) (.ref D) B.env = turnTerm B.env (.ListComp elt gens scope pos) depth (.ref it) (.ref D) p tg emit)
    (T : Turn B.prog B.w B.K tg J fp it tn) (pg : PG B tg g) (pe : PEm B emit vs body)
    {pins : List (Addr × Obj)} {σ : L2.St} {H : Hp} {s : Shared} {Nx : Hp → Prop} (I : Inv B pins (wipe σ vs) H s) (st : tn 0 s.heap) (fo : ∀ b ∈ fp, FpOk B pins H b) (h : tLoop J g vs body Nx σ H) :
    codeAny (model B.prog B.w) B.A (.compLoop (.ListComp elt gens scope pos) depth (.ref it) (.ref D) B.env) (LoopEnd B pins (wipe σ vs) Nx) s := by
  obtain ⟨W, ⟨m0, w0⟩, turn⟩ := h
  have again : ∀ {H' : Hp}, (∀ b ∈ fp, H' b = none) → ∀ b ∈ fp, FpOk B pins H' b := fun n b hb => ⟨n b hb, (fo b hb).2⟩
  refine codeAny_loop rfl (fun n s' => ∃ i H', Inv B pins (wipe σ vs) H' s' ∧ tn i s'.heap ∧ (∀ b ∈ fp, H' b = none) ∧ W i n H') ?_ m0 ⟨0, H, I, st, fun b hb => (fo b hb).1, w0⟩
  rintro n s1 ⟨i, H1, I1, st1, n1, w1⟩
  show wpAny _ B.A ((compTurn (.ListComp elt gens scope pos) depth (.ref it) (.ref D) B.env).onRaise (fun x => do noteFrame x B.env; theTreesLotGoes x)) _ _ s1
  refine wpAny_noted ?_
  rw [htu]
  unfold turnTerm
  refine wpAny_bind (wpAny_standAt (wpAny_bind ?_))
  rcases turn i n H1 w1 with ⟨stop, q⟩ | ⟨go, N, hN, step⟩
  · refine thnF (T.done B rfl rfl rfl hc i pins s1 _ H1 (fun _ _ => False) I1 (again n1) st1 stop) fun r s2 z => ?_
    obtain ⟨hr, I2⟩ := z
    subst hr
    exact wpAny_pure (show LoopEnd B pins (wipe σ vs) Nx (.ok .next) s2 from ⟨H1, I2, q⟩)
  · refine thnF (T.item B rfl rfl rfl hc i pins s1 _ H1 (fun _ _ => False) I1 (again n1) st1 go) fun r s2 z => ?_
    obtain ⟨u, hr, h2⟩ := z
    subst hr
    refine wpAny_bind (thnF h2 fun _ s3 z => ?_)
    obtain ⟨x, H3, I3, rx, y, st3, n3⟩ := z
    have J3 := I3.pinned (again n3) (T.obj _ _ st3)
    have pr := pg.run _ s3 _ H3 x u _ J3 rx (step x H3 y)
    rw [hx] at pr
    refine wpAny_bind (thnF pr fun _ s4 z => ?_)
    obtain ⟨σ4, H4, I4, hw, q4⟩ := z
    refine wpAny_bind (wpAny_tests_nil ?_)
    simp only [if_true]
    refine wpAny_mono (pe.run _ s4 σ4 H4 N _ _ I4 q4 fun σ5 H5 s5 I5 hl hk nx => ?_) (fun _ _ z => z) fun _ _ z => z.elim
    obtain ⟨k, hkm, w5⟩ := hN H5 nx
    have pin : ∀ b ∈ fp, ∀ o, s3.heap.get? b = some o → s5.heap.get? b = some o ∧ H5 b = none := fun b hb o eo => by
      have z := I5.pin (b, o) (List.mem_append_right _ (List.mem_append_right _ (mem_pinsAt hb eo)))
      exact ⟨z.1, z.2.1⟩
    refine wpAny_pure ⟨rfl, k, hkm, i + 1, H5, I5.unpinned.weak ?_ ?_, T.keep _ _ _ st3 fun b hb o eo => (pin b hb o eo).1, ?_, w5⟩
    · rw [hl, ← wipe_length σ4 vs, hw]
    · intro j v ej
      rw [← hw] at ej
      exact hk j v ej
    · intro b hb
      obtain ⟨o, eo, _⟩ := T.obj _ _ st3 b hb
      exact (pin b hb o eo).2

/-- a clause's start -/
theorem start_okL {prog : Program} {w : World} {A : Around} {R : Result → Shared → Prop} {s : Shared} {elt : Expr} {gens : List Comprehension} {scope : Scope} {pos : Pos} {depth : Nat} {it acc : Value} {env : Env} {c : Comprehension} (hg : gens[depth]? = some c) (ha : c.is_async = 0)
    (h0 : codeAny (model prog w) A (.compLoop (.ListComp elt gens scope pos) depth it acc env) R s) (h : wpAny (model prog w) A (pyIter it) (fun it' s' => codeAny (model prog w) A (.compLoop (.ListComp elt gens scope pos) depth it' acc env) R s') (fun _ _ => False) s) :
    codeAny (model prog w) A (.compStart (.ListComp elt gens scope pos) depth it acc env) R s := by
  refine codeAny_of_tree ?_
  show wpAny _ _ ((compStart (.ListComp elt gens scope pos) depth it acc env).onRaise (fun x => do noteFrame x env; standAt theWindowsPlace)) _ _ s
  refine wpAny_notedAt ?_
  unfold compStart
  rw [show (clausesOf (Expr.ListComp elt gens scope pos))[depth]? = some c from hg]
  have e0 : (some c).elim false (fun c => c.is_async != 0) = false := by simp [ha]
  simp only [e0, Bool.false_eq_true, if_false]
  refine wpAny_bind (wpAny_askSetting (wpAny_ite ?_))
  split
  · first
      | exact wpAny_bind (wpAny_pure (wpAny_pure (And.intro rfl h0)))
      | exact wpAny_pure (And.intro rfl h0)
  · refine wpAny_bind (wpAny_rule ?_)
    first
      | exact wpAny_bind (wpAny_standAt (wpAny_bind (thnF h fun it' s' z => wpAny_pure (And.intro rfl z))))
      | (refine wpAny_bind ?_; exact wpAny_standAt (wpAny_bind (thnF h fun it' s' z => wpAny_pure (And.intro rfl z))))

def emitApp (env : Env) (elt : Expr) (D : Addr) (r : Sem Fin) : Sem Fin := do
  (do let _ ← call (.builtin "list.append") [.ref D, ← eval elt env])
  r
def bApp (te : TE) (D : Addr) : TBod := fun σ H N => te σ H fun y H1 => ∃ acc, H1 D = some (.lst acc) ∧ acc.length < sizeLine ∧ N (upd H1 D (.lst (acc ++ [y])))
theorem em_app (hx : B.xe = fun _ _ => False) {elt : Expr} {te : TE} {D : Addr} {vs : List Nat} (he : PE B elt te) : PEm B (emitApp B.env elt D) vs (bApp te D) := by
  refine ⟨fun pins s σ H N r Q I h hr => ?_⟩
  unfold emitApp
  have r1 := he.run pins s σ H _ I h
  rw [hx] at r1
  refine wpAny_bind (wpAny_bind (thnF r1 fun u s1 z => ?_))
  obtain ⟨y, H1, I1, ry, acc, hD, hz, q⟩ := z
  exact wpAny_bind (app_ok I1 hD hz ry fun s2 I2 => wpAny_pure (hr σ _ s2 I2 rfl (fun j v e => (wipe_some e).1) q))
end
section
variable {X : Cx}
theorem pe_lcF {elt tg iter : Expr} {gens : List Comprehension} {scope : Scope} {own : List (Str × Nat)} {pos : Pos} {wi : TI} {g : TG} {body : Addr → TBod} {emit : Env → Addr → Sem Fin → Sem Fin}
    (hc : X.calm = true) (hN : X.N.Nodup) (hi : PI X tg iter wi) (ok : BlkOk X.N X.env.scope scope own)
    (hg : ∀ (s : Shared) (H : Hp) (C : Addr) (cl : List (Str × Addr)) (fp : List Addr), PG (X.blk s H scope (compEnvC scope cl C X.env) fp) tg g)
    (hb : ∀ (s : Shared) (H : Hp) (C : Addr) (cl : List (Str × Addr)) (fp : List Addr) (D : Addr), Un X.fs X.ex X.H_0 H X.s_0.heap s.heap → (∀ b ∈ fp, b ∈ X.ex ∨ X.s_0.heap.objs.size ≤ b) → PEm (X.blk s H scope (compEnvC scope cl C X.env) fp) (emit (compEnvC scope cl C X.env) D) (own.map (·.2)) (body D))
    (htu : ∀ (env : Env) (it D : Addr), compTurn (.ListComp elt (⟨tg, iter, [], 0⟩ :: gens) scope pos) 0 (.ref it) (.ref D) env = turnTerm env (.ListComp elt (⟨tg, iter, [], 0⟩ :: gens) scope pos) 0 (.ref it) (.ref D) iter.pos tg (emit env D))
    (hs : ∀ x, foldedSetIterable iter X.env x = pure x := by intro _; rfl) :
    PE X (.ListComp elt (⟨tg, iter, [], 0⟩ :: gens) scope pos) (tDcG wi g (fun _ => .lst []) body (own.map (·.2))) := by
  refine ⟨fun pins s σ H Q I h => ?_⟩
  rw [eval_ListComp]
  have hfree : ∀ y ∈ scope.names, y.2 = .free → ∃ c, X.env.cells.lookup y.1 = some c := fun y hy e => (ok.free y hy e).elim (fun k => I.ok.has _ (.inl k)) (fun k => I.ok.has _ (.inr k))
  refine wpAny_comprehension_free (use := none) rfl hs (closure_ok hfree) ok.kind (fun y hy e => (ok.uniq y hy).trans (congrArg some e)) (thn (hi.run pins s σ H _ I h) fun xv s1 hx => thn hx fun itv s2 z => ?_)
  obtain ⟨it, fp, tn, J, H2, eq, I2, T, st2, f2, q⟩ := z
  subst eq
  refine wpAny_newObj_type (newEnv_comp ?_) (by show 0 ≤ sizeLine; decide)
  have hn : H2 s2.heap.objs.size = none := I2.hok.fresh (Nat.le_refl _)
  have lp := q s2.heap.objs.size hn
  have I3 : Inv X pins σ (upd H2 s2.heap.objs.size (.lst [])) { s2 with heap := s2.heap.push { cls := .type "list", data := .seq ([] : List Value).toArray } } :=
    I2.laid (t' := s2.toks) (fun b o e => Heap.get?_push_of_some _ e) (Nat.le_refl _) ⟨Nat.zero_le _, [], 0, .nil, Heap.get?_push_size _ rfl⟩
  generalize hs3 : ({ s2 with heap := s2.heap.push { cls := .type "list", data := .seq ([] : List Value).toArray } } : Shared) = s3 at I3 ⊢
  have h3 : s3.heap = s2.heap.push { cls := .type "list", data := .seq ([] : List Value).toArray } := congrArg (·.heap) hs3.symm
  have lt2 : ∀ b ∈ fp, b < s2.heap.objs.size := fun b hb => by
    obtain ⟨o, e, _⟩ := T.obj _ _ st2 b hb
    exact Heap.lt_size e
  generalize hD : s2.heap.objs.size = D at *
  generalize hH3 : upd H2 D (.lst []) = H3 at *
  have f3 : ∀ b ∈ fp, FpOk X pins H3 b ∧ b < s3.heap.objs.size := fun b hb => by
    refine ⟨⟨?_, (f2 b hb).2⟩, ?_⟩
    · rw [← hH3, upd_ne (Nat.ne_of_lt (lt2 b hb))]
      exact (f2 b hb).1
    · rw [h3, Heap.size_push, hD]
      exact Nat.lt_succ_of_lt (lt2 b hb)
  have I4 := block_start I3 ok hN f3
  have pg := hg s3 H3 s3.heap.objs.size (cellsFrom (s3.heap.objs.size + 1) scope.names (cloFrom X.env.cells scope.names [])) fp
  have pb := hb s3 H3 s3.heap.objs.size (cellsFrom (s3.heap.objs.size + 1) scope.names (cloFrom X.env.cells scope.names [])) fp D I3.base (fun b hb => (f3 b hb).1.2.2.2.1)
  have st4 : tn 0 (pushCells (s3.heap.push { cls := .type "dict", data := .dict #[] }) scope.names) := T.keep _ _ _ st2 fun b _ o e => by
    refine pushCells_keeps _ _ _ _ (Heap.get?_push_of_some _ ?_)
    rw [h3]
    exact Heap.get?_push_of_some _ e
  have cL : (compEnvC scope (cellsFrom (s3.heap.objs.size + 1) scope.names (cloFrom X.env.cells scope.names [])) s3.heap.objs.size X.env).locals = s3.heap.objs.size := rfl
  show codeAny _ _ (.compStart (.ListComp elt (⟨tg, iter, [], 0⟩ :: gens) scope pos) 0 (.ref it) (.ref D) (compEnvC scope (cellsFrom (s3.heap.objs.size + 1) scope.names (cloFrom X.env.cells scope.names [])) s3.heap.objs.size X.env))
    (compPost (model X.prog X.w) X.A X.xe none (EP X pins σ Q) (.ref D) s3.heap.objs.size) _
  generalize compEnvC scope (cellsFrom (s3.heap.objs.size + 1) scope.names (cloFrom X.env.cells scope.names [])) s3.heap.objs.size X.env = ce at I4 pg pb cL ⊢
  have fo : ∀ b ∈ fp, FpOk (X.blk s3 H3 scope ce fp) [] H3 b := fun b hb =>
    ⟨(f3 b hb).1.1, (I4.ok.exf b hb).1, I4.ok.exfs b hb, .inl hb, fun x c e => (I4.ok.exf b hb).2 x c e, fun p hp => absurd (show p ∈ ([] : List (Addr × Obj)) ++ [] from hp) (by simp)⟩
  have lp' := clause_loopL (B := X.blk s3 H3 scope ce fp) hc rfl (htu ce it D) T pg pb I4 st4 fo lp
  refine codeAny_mono (start_okL rfl rfl lp' (T.self X.A 0 _ _ _ st4 lp')) fun r s' z => ?_
  cases r with
  | error x => exact z.elim
  | ok f =>
    obtain ⟨H5, I5, q5⟩ := z
    have I6 : Inv X pins σ H5 s' := I3.call' (ch := fp) I5.os I5.base I5.hok I5.bare fun b hb => ⟨(f3 b hb).1.2.2.2.1, (f3 b hb).1.2.1, (f3 b hb).1.2.2.2.2.1, (f3 b hb).1.2.2.2.2.2⟩
    have nC : H5 s3.heap.objs.size = none := cL ▸ (show H5 ce.locals = none from I5.free)
    obtain ⟨m, hm, _⟩ := I5.loc
    have hm' : s'.heap.Ns s3.heap.objs.size m := cL ▸ (show s'.heap.Ns ce.locals m from hm)
    obtain ⟨f0, f1, f2, f3, f4, f5⟩ := I3.fpOk (Nat.le_refl _) nC
    exact ⟨m, hm', fun h' sb => ⟨.ref D, H5, I6.turned (t' := s'.toks) (fun b o hb e => (sb.2 b hb).trans e) f0 f1 f3 f4 f5, rfl, q5⟩⟩
end
end NC
/-! Lambdas of one parameter that capture names: made, handed to a method, called there within a comprehension. -/
namespace NC
open PySem PySem.Spec PyProof.Rows L2

structure LamAt (cl : List (Str × Addr)) (fr : List Str) (ws : List (Option V)) (q : Str) (params : Arguments) (body : Expr) (scope : Scope) (f c' : Addr) (h : Heap) (H : Hp) : Prop where
  ob : ∃ od sl pm ctv, h.get? f = some (⟨.type "function", od, .func (PySem.W.kla_fn "<lambda>" q params body scope cl pm (.ref c') ctv), sl⟩ : Obj)
  fn : H f = none
  cells : NdefX.CellsAt cl fr ws h H
section
variable {cl : List (Str × Addr)} {fr : List Str} {ws : List (Option V)} {q : Str} {params : Arguments} {body : Expr} {scope : Scope} {f c' : Addr} {h h' : Heap} {H H' : Hp}
theorem LamAt.later {fs ex : List Addr} (L : LamAt cl fr ws q params body scope f c' h H) (u : Un fs ex H H' h h') (hx : ∀ b ∈ ex, h.objs.size ≤ b) : LamAt cl fr ws q params body scope f c' h' H' := by
  have low : ∀ b o, h.get? b = some o → b ∉ ex := fun b o e z => absurd (Nat.lt_of_lt_of_le (Heap.lt_size e) (hx b z)) (Nat.lt_irrefl _)
  obtain ⟨od, sl, pm, ctv, ho⟩ := L.ob
  obtain ⟨sl', ho'⟩ := u.any ho L.fn (low _ _ ho)
  have ck : ∀ c v, H c = none → h.IsCell c v → h'.IsCell c v ∧ H' c = none := fun c v n z => by
    obtain ⟨o, e, d⟩ := z
    obtain ⟨sl, e'⟩ := u.any e n (low _ _ e)
    exact ⟨⟨_, e', d⟩, u.free c o e n (low _ _ e)⟩
  refine ⟨⟨od, sl', pm, ctv, ho'⟩, u.free f _ ho L.fn (low _ _ ho), L.cells.len, fun y c e => ?_, L.cells.inj, fun i y e => ?_⟩
  · obtain ⟨n, v, z⟩ := L.cells.all y c e
    exact ⟨(ck c v n z).2, v, (ck c v n z).1⟩
  · obtain ⟨c, hc, hv⟩ := L.cells.has i y e
    refine ⟨c, hc, fun v ev => ?_⟩
    obtain ⟨u', r, z⟩ := hv v ev
    exact ⟨u', r, (ck c _ (L.cells.all y c hc).1 z).1⟩
theorem LamAt.fnAt (L : LamAt cl fr ws q params body scope f c' h H) : PySem.W.FnAt f h := by
  obtain ⟨od, sl, pm, ctv, ho⟩ := L.ob
  exact ⟨_, _, _, _, ho⟩
end
/-- the lambda as a made function (its statements are none) -/
abbrev lamF (q : Str) (params : Arguments) (scope : Scope) (cl : List (Str × Addr)) (c' : Addr) : NdefX.NF := ⟨"<lambda>", q, params, [], scope, cl, c'⟩
abbrev lamX (B : Cx) (Nl : List Str) (q : Str) (params : Arguments) (scope : Scope) (cl : List (Str × Addr)) (f c' : Addr) (A : Around) (outer : List Env) (s : Shared) (H : Hp) : Cx :=
  NdefX.ncx L2.CX0 B.prog B.w B.K B.mg B.base Nl (lamF q params scope cl c') f A outer s H L2.E0
section
variable {B : Cx} {pins : List (Addr × Obj)} {σ : L2.St} {H : Hp} {s : Shared} {cl : List (Str × Addr)} {fr Nl : List Str} {ws : List (Option V)} {q pn : Str} {params : Arguments} {body : Expr} {scope : Scope} {f c' : Addr} {k : Nat} {tb : TE} {v : V} {u : Value} {Q : VK}
theorem call_lam (S : NdefX.NScope Nl [pn] fr scope) (hbind : ∀ (pm ctv u : Value), bindArgs (PySem.W.kla_fn "<lambda>" q params body scope cl pm (.ref c') ctv) ⟨[u], []⟩ = pure [(pn, u)]) (hr : Room (k + 1) B.A) (I : Inv B pins σ H s)
    (L : LamAt cl fr ws q params body scope f c' s.heap H) (hco : H c' = some (LamX.CodeO c' q)) (r : RelV v u)
    (hb : ∀ (A : Around) (outer : List Env) (s : Shared) (H : Hp), Room k (A.deeper (NdefX.envF (lamF q params scope cl c') f s.heap.objs.size)) → PE (lamX B Nl q params scope cl f c' A outer s H) body tb)
    (h : tb (NdefX.startF Nl [v] ws) H Q) : wpAny (model B.prog B.w) B.A (call (.ref f) [u]) (EP B pins σ Q) B.xe s := by
  obtain ⟨od, sl, pm, ctv, ho⟩ := L.ob
  have e0 := I.env0
  have lim := I.nolimit
  have run : codeAny (model B.prog B.w) B.A (.call (.ref f) ⟨[u], []⟩) (CR L2.CX0 B.stack B.prog B.w H s Q L2.E0) s := by
    refine PySem.W.kla_callFunE hr.depth ho rfl S.co S.gen rfl (NdefX.codeO_at I.hok hco) ?_
    rw [hbind]
    refine wpAny_pure (wpAny_newFunctionEnv S.nocell (fun y hy => ?_) (fun h₁ hns hsb => ⟨lim.fresh _ hsb, ?_⟩) S.kind)
    · rw [List.mem_singleton] at hy
      subst hy
      exact S.par _ List.mem_cons_self
    show codeAny _ _ (.expr body (NdefX.envF (lamF q params scope cl c') f s.heap.objs.size)) _ _
    have kp : ∀ b o, s.heap.get? b = some o → h₁.get? b = some o := fun b o e => hsb.extBut b o (Nat.ne_of_lt (Heap.lt_size e)) (Heap.get?_push_of_some _ e)
    have J : Inv (lamX B Nl q params scope cl f c' B.A B.stack s H) [] (NdefX.startF Nl [v] ws) H { s with heap := h₁, toks := s.toks + ([(pn, u)] : List (Str × Value)).length } :=
      NdefX.inv_startN (ps := [pn]) (us := [u]) (vs := [v]) (F := lamF q params scope cl c') S hr.hd e0 rfl (.cons r .nil) L.cells hns kp
    refine PySem.W.kla_codeExpr (wpAny_mono ((hb B.A B.stack s H (hr.deeper _)).run [] _ _ H Q J h) (fun w s' z => ?_) fun e s' z => z)
    obtain ⟨x, H', J', rx, qx⟩ := z
    exact ⟨x, H', J'.os, J'.bare, J'.base, J'.hok, rx, qx⟩
  refine wpAny_call (codeAny_mono run fun r s' z => ?_)
  cases r with
  | error e => exact z.elim
  | ok fl => cases fl with
    | ret w => exact I.after z
    | _ => exact z.elim
/-- name(arg), the name holding the lambda; the state is known to have grown from one where the lambda stood -/
def tLamCall (i : Nat) (q : Str) (f c' : Addr) (Nl : List Str) (ws : List (Option V)) (ta tb : TE) : TE := fun σ H Q => σ[i]? = some (some (.ref f)) ∧ ta σ H fun v H1 => H1 c' = some (LamX.CodeO c' q) ∧ tb (NdefX.startF Nl [v] ws) H1 Q
theorem pe_lamCall {x : Str} {p pos : Pos} {e : Expr} {ta : TE} {i : Nat} (S : NdefX.NScope Nl [pn] fr scope) (hbind : ∀ (pm ctv u : Value), bindArgs (PySem.W.kla_fn "<lambda>" q params body scope cl pm (.ref c') ctv) ⟨[u], []⟩ = pure [(pn, u)]) (hr : Room (k + 1) B.A)
    (L : LamAt cl fr ws q params body scope f c' B.s_0.heap B.H_0) (hex : ∀ b ∈ B.ex, B.s_0.heap.objs.size ≤ b ∨ (∀ y c, cl.lookup y = some c → c ≠ b) ∧ b ≠ f)
    (hb : ∀ (A : Around) (outer : List Env) (s : Shared) (H : Hp), Room k (A.deeper (NdefX.envF (lamF q params scope cl c') f s.heap.objs.size)) → PE (lamX B Nl q params scope cl f c' A outer s H) body tb)
    (ha : PE B e ta) (hN : B.N[i]? = some x) (hv : Vis B.env.scope x) (hd : (x == ("__debug__" : Str)) = false := by decide) (hcd : (x == ("__classdict__" : Str)) = false := by decide)
    (he : starEach (e :: []) B.env = (false, eval e B.env) :: starEach [] B.env := by rfl) (hpl : (backTo pos (starEach [] B.env)).any (·.1) = false := by rfl) :
    PE B (.Call (.Name x p) [e] [] pos) (tLamCall i q f c' Nl ws ta tb) := by
  have later : ∀ {s : Shared} {σ : L2.St} {H : Hp} {pins : List (Addr × Obj)}, Inv B pins σ H s → LamAt cl fr ws q params body scope f c' s.heap H := fun {s σ H pins} I => by
    -- the objects that the block's iterators turn are not the lambda's
    have u := I.base
    obtain ⟨od, sl, pm, ctv, ho⟩ := L.ob
    have nf : f ∉ B.ex := fun z => by
      rcases hex f z with z | z
      · exact absurd (Nat.lt_of_lt_of_le (Heap.lt_size ho) z) (Nat.lt_irrefl _)
      · exact z.2 rfl
    have nc : ∀ y c, cl.lookup y = some c → c ∉ B.ex := fun y c e z => by
      rcases hex c z with z | z
      · obtain ⟨_, v, o, eo, _⟩ := L.cells.all y c e
        exact absurd (Nat.lt_of_lt_of_le (Heap.lt_size eo) z) (Nat.lt_irrefl _)
      · exact z.1 y c e rfl
    obtain ⟨sl', ho'⟩ := u.any ho L.fn nf
    have ck : ∀ y c v, cl.lookup y = some c → B.s_0.heap.IsCell c v → s.heap.IsCell c v ∧ H c = none := fun y c v e z => by
      obtain ⟨o, eo, d⟩ := z
      have n := (L.cells.all y c e).1
      obtain ⟨sl, e'⟩ := u.any eo n (nc y c e)
      exact ⟨⟨_, e', d⟩, u.free c o eo n (nc y c e)⟩
    refine ⟨⟨od, sl', pm, ctv, ho'⟩, u.free f _ ho L.fn nf, L.cells.len, fun y c e => ?_, L.cells.inj, fun i y e => ?_⟩
    · obtain ⟨n, v, z⟩ := L.cells.all y c e
      exact ⟨(ck y c v e z).2, v, (ck y c v e z).1⟩
    · obtain ⟨c, hc, hv⟩ := L.cells.has i y e
      refine ⟨c, hc, fun v ev => ?_⟩
      obtain ⟨u', r, z⟩ := hv v ev
      exact ⟨u', r, (ck y c _ hc z).1⟩
  refine ⟨fun pins s σ H Q I h => ?_⟩
  obtain ⟨hs, h⟩ := h
  refine wpAny_Call_Name_kw (thn ((pe_var (pos := p) hN hv hd hcd).run pins s σ H (fun v H1 => v = .ref f ∧ H1 = H) I ⟨.ref f, hs, rfl, rfl⟩) fun u s1 z => ?_)
  obtain ⟨v, H1, I1, r1, ev, eH⟩ := z
  subst ev
  subst eH
  obtain rfl : u = Value.ref f := r1
  refine PySem.W.callWith_F (first := []) (later I1).fnAt ?_ he hpl
  rw [he]
  show wpAny _ _ (spliced ((false, eval e B.env) :: backTo pos (starEach [] B.env))) _ _ s1
  refine Calls.spliced_cons (thn (ha.run pins s1 σ H1 _ I1 h) fun u s2 z => ?_)
  obtain ⟨v, H2, I2, r2, hco, q2⟩ := z
  refine Calls.spliced_nil ⟨(later I2).fnAt, ?_⟩
  exact call_lam S hbind hr I2 (later I2) hco r2 hb q2
end

/-! ### the lambda is made and handed to a method -/
section
variable {X : Cx}
def tLamMeth (T : List (Addr × Str)) (C : Addr) (m : Str) (js : List Nat) (ta : TE) (chg : List (Option V) → Addr → Hp → VK → Prop) : TE := fun σ H Q => ta σ H fun x H1 => ∃ a dx fs, x = V.ref a ∧ H1 a = some (.ins C dx fs) ∧ fs.lookup m = none ∧ LamX.Tabs T H1 ∧
  ∀ H2, LamX.ExtN H1 H2 → LamX.Tabs T H2 → chg (js.map (NdefX.slotAt σ)) a H2 Q
theorem pe_lamMeth {T : List (Addr × Str)} {C g c P : Addr} {m : Str} {o : Expr} {ta : TE} {params : Arguments} {body : Expr} {scope : Scope} {fr : List Str} {js : List Nat} {apos lpos pos : Pos} {pl : Sem Bool} {chg : List (Option V) → Addr → Hp → VK → Prop}
    (he : PE X o ta) (hC : Cls X.K C) (hm : Meth X.K C m g) (TB : LamX.TabB X.base X.mg c P) (hcode : X.env.code = .ref c) (hmT : (P, X.env.qual ++ "<lambda>") ∈ T) (hu : ∀ p ∈ T, p.1 = P → p.2 = X.env.qual ++ "<lambda>")
    (hfree : ∀ y ∈ scope.names, y.2 = .free → X.env.scope.names.lookup y.1 = some .cell ∨ X.env.scope.names.lookup y.1 = some .free) (hfr : ∀ y ∈ fr, (y, NameKind.free) ∈ scope.names) (hjs : js.map (fun j => X.N[j]?) = fr.map some) (hdef : defaultsOf params X.env = ([], []))
    (hrun : ∀ (pins : List (Addr × Obj)) (s : Shared) (σ : L2.St) (H : Hp) (Q : VK) (f c' a : Addr), Inv X pins σ H s → LamAt (cloFrom X.env.cells scope.names []) fr (js.map (NdefX.slotAt σ)) (X.env.qual ++ "<lambda>") params body scope f c' s.heap H →
      H c' = some (LamX.CodeO c' (X.env.qual ++ "<lambda>")) → chg (js.map (NdefX.slotAt σ)) a H Q → wpAny (model X.prog X.w) X.A (call (.ref g) [.ref a, .ref f]) (EP X pins σ Q) X.xe s)
    (ht : eval (.Call (.Attribute o m apos) [.Lambda params body scope lpos] [] pos) X.env = (do
      let ov ← eval o X.env
      standAt apos.atName
      let (f, first) ← holding [ov] (getMethod ov m pl)
      callWith pos f first (backTo pos (starEach [.Lambda params body scope lpos] X.env)) (backToKw pos (keywordEach [] X.env))) := by rfl) :
    PE X (.Call (.Attribute o m apos) [.Lambda params body scope lpos] [] pos) (tLamMeth T C m js ta chg) := by
  refine ⟨fun pins s σ H Q I h => ?_⟩
  refine PySem.W.methodCall_KW (pl := pl) (thn (he.run pins s σ H _ I h) fun u s1 z => ?_) ht
  obtain ⟨x, H1, I1, rx, a, dx, fs, ex, ea, l, hT, q⟩ := z
  subst ex
  obtain rfl : u = Value.ref a := rx
  refine getmeth_ok I1 ea hC hm l ?_
  refine PySem.W.callWith_K (first := [.ref a]) (h₀ := X.base) I1.ok.mod.kin hm.kp ?_ (by rfl) (by rfl)
  show wpAny _ _ (spliced ((false, eval (.Lambda params body scope lpos) X.env) :: backTo pos (starEach [] X.env))) _ _ s1
  have has : ∀ y ∈ scope.names, y.2 = .free → ∃ c, X.env.cells.lookup y.1 = some c := fun y hy e => (hfree y hy e).elim (fun z => I1.ok.has _ (.inl z)) fun z => I1.ok.has _ (.inr z)
  refine Calls.spliced_cons (LamX.lam_make2 I1 TB hcode hmT hu hT hdef has fun f c' pm ctv H2 s2 I2 eN T2 hf hfn hfrs hco => ?_)
  refine Calls.spliced_nil ⟨I2.kIn, ?_⟩
  exact hrun pins s2 σ H2 Q f c' a I2 ⟨⟨_, _, pm, ctv, hf⟩, hfn, NdefX.cells_of I2 (NdefX.Caps.made I2.ok hfree hfr hjs)⟩ hco (q H2 eN T2)
end
end NC
/-! The defs of the module of words, and the small ones beside the class. -/
namespace NC
open PySem PySem.Spec PyProof.Rows L2

/-! ### the text by places -/
def top (i : Nat) : Stmt := PySem.Challenge.pw_nevercrossed_k07_whole_sets_of_edges.main.body.getD i (.Pass ⟨0, 0, 0, 0⟩)
abbrev tInteger : Stmt := top 13
abbrev tPair : Stmt := top 14
abbrev tPoint : Stmt := top 15
abbrev tNeigh : Stmt := top 16
abbrev tEdge : Stmt := top 17
abbrev tMoved : Stmt := top 18
abbrev tCheckE : Stmt := top 21
abbrev tDirs : Stmt := top 22
abbrev tJoined : Stmt := top 23
abbrev tCheckF : Stmt := top 25

/-! ### what is known of the top -/
/-- a def of the top that is known by its name -/
structure Dn (K : PySem.W.Frag) (mg : Str → Option Value) (x : Str) (st : Stmt) (ps : List Str) (f : Addr) (fd : FuncData) : Prop where
  F : Fun K x x st f fd
  m : mg x = some (.ref f)
  b : Binds K fd ps []
structure Bt (mg : Str → Option Value) : Prop where
  isi : mg "isinstance" = none
  int : mg "int" = none
  bool : mg "bool" = none
  tuple : mg "tuple" = none
  list : mg "list" = none
  len : mg "len" = none
  abs : mg "abs" = none
  sorted : mg "sorted" = none
  set : mg "set" = none
  max : mg "max" = none
  min : mg "min" = none
  range : mg "range" = none
  great : ∃ t, mg "GREATEST" = some (.int 30 t)
  most : ∃ t, mg "MOST_EDGES" = some (.int 400 t)
  dirs : ∃ t, mg "DIRECTIONS" = some (.str "ruld" t)

section
variable {P : Program} {w : World} {K : PySem.W.Frag} {mg : Str → Option Value} {base : Heap}
/-! ### is_integer -/
def spInt : Sp := fun vs H Q _ => ∃ i : Int, vs = [.int i] ∧ Q (.bl true) H
theorem scInt : FnScope ["value"] ["value"] (defScope tInteger) := ⟨rfl, rfl, rfl, by decide +kernel, rfl, by decide +kernel, by decide +kernel⟩
theorem ok_int {f : Addr} {fd : FuncData} (D : Dn K mg "is_integer" tInteger ["value"] f fd) (T : Bt mg) : FnOk P w K mg base L2.CX0 1 f fd ["value"] spInt := by
  refine D.F.ok scInt (fun vs H Q E h => ?_) (fun cdv A outer s H vs Q E hr h => ?_)
  · obtain ⟨i, rfl, _⟩ := h
    rfl
  · obtain ⟨i, rfl, k⟩ := h
    refine ⟨_, pss_one (ps_ret (pe_and (pe_callB call_isi (by rfl) T.isi (by decide +kernel) (pa_cons (pv 0) (pa_cons (pe_bltn (v := .ty "int") (by rfl) T.int (by decide +kernel) rfl) pa_nil)))
      (pe_one (pe_not (pe_callB call_isi (by rfl) T.isi (by decide +kernel) (pa_cons (pv 0) (pa_cons (pe_bltn (v := .ty "bool") (by rfl) T.bool (by decide +kernel) rfl) pa_nil))))))), ?_⟩
    refine ⟨_, rfl, _, _, _, _, true, rfl, .ty "int", .base (.int i), kit_ty (by decide +kernel), true, rfl, ?_⟩
    refine iteT ⟨_, rfl, _, _, _, _, false, rfl, .ty "bool", .base (.int i), kit_ty (by decide +kernel), false, rfl, k⟩

/-! ### points and edges read -/
theorem lex_pt (p q : Pt) : HT.lexLt [p.1, p.2] [q.1, q.2] = decide (ltP p q) := by
  rw [HT.lexLt_cons, HT.lexLt_cons, HT.lexLt_nil_nil]
  unfold ltP
  by_cases h : p.1 = q.1
  · rw [if_pos h]
    by_cases h2 : p.2 = q.2
    · rw [if_pos h2]
      simp [h, h2]
    · rw [if_neg h2]
      simp [h]
  · rw [if_neg h]
    simp [h]

/-! ### is_pair, is_point -/
def spPair : Sp := fun vs H Q _ => ∃ (a : Addr) (p : Pt), vs = [.ref a, .int 30] ∧ PtA H a p ∧ okP p ∧ Q (.bl true) H
theorem scPair : FnScope ["value", "greatest", "one", "other"] ["value", "greatest"] (defScope tPair) := ⟨rfl, rfl, rfl, by decide +kernel, rfl, by decide +kernel, by decide +kernel⟩
theorem ok_pair {f fI : Addr} {fd fdI : FuncData} (D : Dn K mg "is_pair" tPair ["value", "greatest"] f fd) (DI : Dn K mg "is_integer" tInteger ["value"] fI fdI) (T : Bt mg) : FnOk P w K mg base L2.CX0 2 f fd ["value", "greatest"] spPair := by
  have GI : FnOk P w K mg base L2.CX0 1 fI fdI ["value"] spInt := ok_int DI T
  refine D.F.ok scPair (fun vs H Q E h => ?_) (fun cdv A outer s H vs Q E hr h => ?_)
  · obtain ⟨a, p, rfl, _⟩ := h
    rfl
  · obtain ⟨a, p, rfl, hp, ⟨o1, o2, o3, o4⟩, k⟩ := h
    refine ⟨_, pss_cons (ps_if (PW.pt (pw_or (pt_not (pt_val (pe_callB call_isi (by rfl) T.isi (by decide +kernel) (pa_cons (pv 0) (pa_cons (pe_bltn (v := .ty "tuple") (by rfl) T.tuple (by decide +kernel) rfl) pa_nil)))))
        (pw_or1 (pt_cmpR op_ne (pe_callB call_len_seq (by rfl) T.len PySem.boot_len (pa_cons (pv 0) pa_nil)) pe_int (nomark _))))) pss_never pss_nil)
      (pss_cons (ps_asg (pv 0) (pg_tup (by rfl) (pgs_cons (pg_name (i := 2) scPair.nd rfl (Or.inl rfl)) (pgs_cons (pg_name (i := 3) scPair.nd rfl (Or.inl rfl)) pgs_nil))))
      (pss_cons (ps_if (PW.pt (pw_or (pt_not (pt_val (pe_call GI hr rfl DI.m DI.F.kp DI.b .nil pass0 (pa_cons (pv 2) pa_nil)))) (pw_or1 (pt_not (pt_val (pe_call GI hr rfl DI.m DI.F.kp DI.b .nil pass0 (pa_cons (pv 3) pa_nil))))))) pss_never pss_nil)
      (pss_one (ps_ret (pe_and (pe_chain op_le op_le pe_int (pv 2) (pv 1)) (pe_one (pe_chain op_le op_le pe_int (pv 3) (pv 1)))))))), ?_⟩
    refine ⟨_, rfl, _, _, _, _, true, rfl, .ty "tuple", .base (.tup hp), kit_ty (by decide +kernel), true, rfl, iteF ⟨_, rfl, a, _, rfl, .inr (SqT.of hp), rfl, _, rfl, iteF ?_⟩⟩
    refine ⟨_, rfl, a, _, rfl, SqT.of hp, rfl, _, _, rfl, _, _, rfl, rfl, ?_⟩
    refine ⟨_, rfl, p.1, rfl, true, rfl, iteF ⟨_, rfl, p.2, rfl, true, rfl, iteF ?_⟩⟩
    refine ⟨_, rfl, _, _, rfl, rfl, true, congrArg V.bl (decide_eq_true o1), iteT ⟨_, rfl, _, _, rfl, rfl, true, congrArg V.bl (decide_eq_true o2), iteT ?_⟩⟩
    refine ⟨_, rfl, _, _, rfl, rfl, true, congrArg V.bl (decide_eq_true o3), iteT ⟨_, rfl, _, _, rfl, rfl, ?_⟩⟩
    show Q (V.bl (decide (p.2 ≤ 30))) H
    rw [decide_eq_true o4]
    exact k
def spPoint : Sp := fun vs H Q _ => ∃ (a : Addr) (p : Pt), vs = [.ref a] ∧ PtA H a p ∧ okP p ∧ Q (.bl true) H
theorem scPoint : FnScope ["value"] ["value"] (defScope tPoint) := ⟨rfl, rfl, rfl, by decide +kernel, rfl, by decide +kernel, by decide +kernel⟩
theorem ok_point {f fP fI : Addr} {fd fdP fdI : FuncData} (D : Dn K mg "is_point" tPoint ["value"] f fd) (DP : Dn K mg "is_pair" tPair ["value", "greatest"] fP fdP) (DI : Dn K mg "is_integer" tInteger ["value"] fI fdI) (T : Bt mg) : FnOk P w K mg base L2.CX0 3 f fd ["value"] spPoint := by
  have GP : FnOk P w K mg base L2.CX0 2 fP fdP ["value", "greatest"] spPair := ok_pair DP DI T
  refine D.F.ok scPoint (fun vs H Q E h => ?_) (fun cdv A outer s H vs Q E hr h => ?_)
  · obtain ⟨a, p, rfl, _⟩ := h
    rfl
  · obtain ⟨a, p, rfl, hp, ok, k⟩ := h
    obtain ⟨t, hg⟩ := T.great
    refine ⟨_, pss_one (ps_ret (pe_call GP hr rfl DP.m DP.F.kp DP.b .nil pass0 (pa_cons (pv 0) (pa_cons (pe_glob (v := .int 30) rfl hg ⟨_, rfl⟩) pa_nil)))), ?_⟩
    exact ⟨_, rfl, a, p, rfl, hp, ok, k⟩

/-! ### are_neighbors, is_edge -/
def spNeigh : Sp := fun vs H Q _ => ∃ (a b : Addr) (e : Ed), vs = [.ref a, .ref b] ∧ PtA H a e.1 ∧ PtA H b e.2 ∧ okE e ∧ Q (.bl true) H
theorem scNeigh : FnScope ["point", "other"] ["point", "other"] (defScope tNeigh) := ⟨rfl, rfl, rfl, by decide +kernel, rfl, by decide +kernel, by decide +kernel⟩
theorem ok_neigh {f : Addr} {fd : FuncData} (D : Dn K mg "are_neighbors" tNeigh ["point", "other"] f fd) (T : Bt mg) : FnOk P w K mg base L2.CX0 1 f fd ["point", "other"] spNeigh := by
  refine D.F.ok scNeigh (fun vs H Q E h => ?_) (fun cdv A outer s H vs Q E hr h => ?_)
  · obtain ⟨a, b, e, rfl, _⟩ := h
    rfl
  · obtain ⟨a, b, e, rfl, ha, hb, ok, k⟩ := h
    refine ⟨_, pss_one (ps_ret (pe_cmpR op_eq (pe_op op_add
      (pe_callB call_abs (by rfl) T.abs (by decide +kernel) (pa_cons (pe_op op_sub (pe_ix ix_tup (pv 0) pe_int (fun _ _ => rfl)) (pe_ix ix_tup (pv 1) pe_int (fun _ _ => rfl))) pa_nil))
      (pe_callB call_abs (by rfl) T.abs (by decide +kernel) (pa_cons (pe_op op_sub (pe_ix ix_tup (pv 0) pe_int (fun _ _ => rfl)) (pe_ix ix_tup (pv 1) pe_int (fun _ _ => rfl))) pa_nil))) pe_int (nomark _))), ?_⟩
    refine ⟨_, rfl, a, _, _, _, rfl, rfl, SqT.of ha, rfl, _, rfl, b, _, _, _, rfl, rfl, SqT.of hb, rfl, _, _, rfl, rfl, _, rfl, ?_⟩
    refine ⟨_, rfl, a, _, _, _, rfl, rfl, SqT.of ha, rfl, _, rfl, b, _, _, _, rfl, rfl, SqT.of hb, rfl, _, _, rfl, rfl, _, rfl, _, _, rfl, rfl, rfl, ?_⟩
    obtain ⟨⟨e11, e12⟩, e21, e22⟩ := e
    obtain ⟨_, _, o⟩ := ok
    have hz : decide (V.int ((if e11 - e21 < 0 then -(e11 - e21) else e11 - e21) + (if e12 - e22 < 0 then -(e12 - e22) else e12 - e22)) = V.int 1) = true := by
      refine decide_eq_true ?_
      congr 1
      simp only [Prod.mk.injEq] at o
      omega
    show Q (.bl (decide (V.int ((if e11 - e21 < 0 then -(e11 - e21) else e11 - e21) + (if e12 - e22 < 0 then -(e12 - e22) else e12 - e22)) = V.int 1))) H
    rw [hz]
    exact k
def spEdge : Sp := fun vs H Q _ => ∃ (a : Addr) (e : Ed), vs = [.ref a] ∧ EdA H a e ∧ okE e ∧ Q (.bl true) H
theorem scEdge : FnScope ["value"] ["value"] (defScope tEdge) := ⟨rfl, rfl, rfl, by decide +kernel, rfl, by decide +kernel, by decide +kernel⟩
theorem ok_edge {f fO fP fI fN : Addr} {fd fdO fdP fdI fdN : FuncData} (D : Dn K mg "is_edge" tEdge ["value"] f fd) (DO : Dn K mg "is_point" tPoint ["value"] fO fdO) (DP : Dn K mg "is_pair" tPair ["value", "greatest"] fP fdP) (DI : Dn K mg "is_integer" tInteger ["value"] fI fdI)
    (DN : Dn K mg "are_neighbors" tNeigh ["point", "other"] fN fdN) (T : Bt mg) : FnOk P w K mg base L2.CX0 4 f fd ["value"] spEdge := by
  have GO : FnOk P w K mg base L2.CX0 3 fO fdO ["value"] spPoint := ok_point DO DP DI T
  have GN : FnOk P w K mg base L2.CX0 1 fN fdN ["point", "other"] spNeigh := ok_neigh DN T
  refine D.F.ok scEdge (fun vs H Q E h => ?_) (fun cdv A outer s H vs Q E hr h => ?_)
  · obtain ⟨a, p, rfl, _⟩ := h
    rfl
  · obtain ⟨a, e, rfl, he, ok, k⟩ := h
    obtain ⟨b, c, h1, h2, h3⟩ := id he
    have ix0 := @pe_ix
    refine ⟨_, pss_cons (ps_if (PW.pt (pw_or (pt_not (pt_val (pe_callB call_isi (by rfl) T.isi (by decide +kernel) (pa_cons (pv 0) (pa_cons (pe_bltn (v := .ty "tuple") (by rfl) T.tuple (by decide +kernel) rfl) pa_nil)))))
        (pw_or (pt_cmpR op_ne (pe_callB call_len_seq (by rfl) T.len PySem.boot_len (pa_cons (pv 0) pa_nil)) pe_int (nomark _))
        (pw_or (pt_not (pt_val (pe_call GO hr rfl DO.m DO.F.kp DO.b .nil pass0 (pa_cons (pe_ix ix_tup (pv 0) pe_int (fun _ _ => rfl)) pa_nil))))
        (pw_or1 (pt_not (pt_val (pe_call GO hr rfl DO.m DO.F.kp DO.b .nil pass0 (pa_cons (pe_ix ix_tup (pv 0) pe_int (fun _ _ => rfl)) pa_nil))))))))) pss_never pss_nil)
      (pss_one (ps_ret (pe_and (pe_cmpR (op_ltT hr.units0) (pe_ix ix_tup (pv 0) pe_int (fun _ _ => rfl)) (pe_ix ix_tup (pv 0) pe_int (fun _ _ => rfl)) (nomark _))
        (pe_one (pe_call GN (hr.mono (by decide)) rfl DN.m DN.F.kp DN.b .nil pass0 (pa_cons (pe_ix ix_tup (pv 0) pe_int (fun _ _ => rfl)) (pa_cons (pe_ix ix_tup (pv 0) pe_int (fun _ _ => rfl)) pa_nil))))))), ?_⟩
    refine ⟨_, rfl, _, _, _, _, true, rfl, .ty "tuple", .base (.tup h1), kit_ty (by decide +kernel), true, rfl, iteF ⟨_, rfl, a, _, rfl, .inr (SqT.of h1), rfl, _, rfl, iteF ?_⟩⟩
    refine ⟨_, rfl, a, _, _, _, rfl, rfl, SqT.of h1, rfl, b, e.1, rfl, h2, ok.1, true, rfl, iteF ?_⟩
    refine ⟨_, rfl, a, _, _, _, rfl, rfl, SqT.of h1, rfl, c, e.2, rfl, h3, ok.2.1, true, rfl, iteF ?_⟩
    refine ⟨_, rfl, a, _, _, _, rfl, rfl, SqT.of h1, rfl, _, rfl, a, _, _, _, rfl, rfl, SqT.of h1, rfl, b, c, [e.1.1, e.1.2], [e.2.1, e.2.2], rfl, rfl, SqT.of h2, SqT.of h3, true, ?_, ?_⟩
    · rw [lex_pt, decide_eq_true (okE_lt ok)]
    · refine iteT ⟨_, rfl, a, _, _, _, rfl, rfl, SqT.of h1, rfl, _, rfl, a, _, _, _, rfl, rfl, SqT.of h1, rfl, b, c, e, rfl, h2, h3, ok, k⟩
end
end NC
/-! moved, joined, check_edges, check_figure, directions_at. -/
namespace L2
open PySem PySem.Spec PyProof.Rows
theorem Same.up {H0 H : Hp} {D : Addr} {o : HO} (s : Same H0 H) (n : H0 D = none) : Same H0 (upd H D o) := fun b u e => by
  rw [upd_ne (ne_of_none e n)]
  exact s b u e
theorem Same.at_ {H : Hp} {D : Addr} {o : HO} (n : H D = none) : Same H (upd H D o) := Same.up (Same.refl H) n
theorem Same.gone {H0 H : Hp} {D : Addr} (s : Same H0 H) (n : H D = none) : H0 D = none := s.free n
theorem Same.pt {H H' : Hp} {a : Addr} {p : NC.Pt} (s : Same H H') (h : NC.PtA H a p) : NC.PtA H' a p := h.tk (NC.Tk.of s)
theorem Same.ed {H H' : Hp} {a : Addr} {p : NC.Ed} (s : Same H H') (h : NC.EdA H a p) : NC.EdA H' a p := h.tk (NC.Tk.of s)
theorem Same.el {H H' : Hp} {L : List (Addr × NC.Ed)} (s : Same H H') (h : NC.EL H L) : NC.EL H' L := h.tk (NC.Tk.of s)

end L2
namespace NC
open PySem PySem.Spec PyProof.Rows L2

def letter (i : Nat) : Str := ⟨#[("ruld" : Str).cps.getD i 0]⟩
/-- the table of the steps at d -/
def Steps (K : PySem.W.Frag) (w : World) (mg : Str → Option Value) : Prop :=
  ∃ d, mg "STEPS" = some (.ref d) ∧ ∀ i, i < 4 → ∃ t, KDct K w d (letter i) (.ref t) ∧ ∀ H, SqT K H t [.int (stp i).1, .int (stp i).2]
section
variable {P : Program} {w : World} {K : PySem.W.Frag} {mg : Str → Option Value} {base : Heap}
/-! ### moved -/
def spMoved : Sp := fun vs H Q _ => ∃ (a : Addr) (p : Pt) (i : Nat), vs = [.ref a, .str (letter i)] ∧ i < 4 ∧ PtA H a p ∧ ∀ r H', Same H H' → PtA H' r (nb p i) → Q (.ref r) H'
theorem scMoved : FnScope ["point", "direction", "step"] ["point", "direction"] (defScope tMoved) := ⟨rfl, rfl, rfl, by decide +kernel, rfl, by decide +kernel, by decide +kernel⟩
theorem ok_moved {f : Addr} {fd : FuncData} (D : Dn K mg "moved" tMoved ["point", "direction"] f fd) (T : Steps K w mg) : FnOk P w K mg base L2.CX0 1 f fd ["point", "direction"] spMoved := by
  refine D.F.ok scMoved (fun vs H Q E h => ?_) (fun cdv A outer s H vs Q E hr h => ?_)
  · obtain ⟨a, p, i, rfl, _⟩ := h
    rfl
  · obtain ⟨a, p, i, rfl, hi, hp, k⟩ := h
    obtain ⟨d, hd, ht⟩ := T
    obtain ⟨t, h1, h2⟩ := ht i hi
    refine ⟨_, pss_cons (ps_set (i := 2) scMoved.nd rfl (Or.inl rfl) (pe_ix ix_kdict (pe_glob (v := .ref d) rfl hd rfl) (pv 1) (fun _ _ => rfl)))
      (pss_one (ps_ret (pe_tup (pa_cons (pe_op op_add (pe_ix ix_tup (pv 0) pe_int (fun _ _ => rfl)) (pe_ix ix_tup (pv 2) pe_int (fun _ _ => rfl)))
        (pa_cons (pe_op op_add (pe_ix ix_tup (pv 0) pe_int (fun _ _ => rfl)) (pe_ix ix_tup (pv 2) pe_int (fun _ _ => rfl))) pa_nil))))), ?_⟩
    refine ⟨_, rfl, d, letter i, _, rfl, rfl, h1, ?_⟩
    refine ⟨_, rfl, a, _, _, _, rfl, rfl, SqT.of hp, rfl, _, rfl, t, _, _, _, rfl, rfl, h2 _, rfl, _, _, rfl, rfl, ?_⟩
    refine ⟨_, rfl, a, _, _, _, rfl, rfl, SqT.of hp, rfl, _, rfl, t, _, _, _, rfl, rfl, h2 _, rfl, _, _, rfl, rfl, (by show 2 ≤ sizeLine; decide), fun r hr => ?_⟩
    exact k r _ (Same.at_ hr) upd_same

/-! ### joined -/
def spJoined : Sp := fun vs H Q _ => ∃ (a b : Addr) (p q : Pt), vs = [.ref a, .ref b] ∧ PtA H a p ∧ PtA H b q ∧ ∀ r H', Same H H' → EdA H' r (nrm p q) → Q (.ref r) H'
theorem scJoined : FnScope ["one", "other"] ["one", "other"] (defScope tJoined) := ⟨rfl, rfl, rfl, by decide +kernel, rfl, by decide +kernel, by decide +kernel⟩
theorem ok_joined {f : Addr} {fd : FuncData} (D : Dn K mg "joined" tJoined ["one", "other"] f fd) : FnOk P w K mg base L2.CX0 1 f fd ["one", "other"] spJoined := by
  refine D.F.ok scJoined (fun vs H Q E h => ?_) (fun cdv A outer s H vs Q E hr h => ?_)
  · obtain ⟨a, b, p, q, rfl, _⟩ := h
    rfl
  · obtain ⟨a, b, p, q, rfl, hp, hq, k⟩ := h
    refine ⟨_, pss_one (ps_ret (pe_ifExp (pt_cmpR (op_ltT hr.units0) (pv 0) (pv 1) (nomark _)) (pe_tup (pa_cons (pv 0) (pa_cons (pv 1) pa_nil))) (pe_tup (pa_cons (pv 1) (pa_cons (pv 0) pa_nil))))), ?_⟩
    refine ⟨_, rfl, _, rfl, a, b, [p.1, p.2], [q.1, q.2], rfl, rfl, SqT.of hp, SqT.of hq, _, rfl, ?_⟩
    rw [lex_pt]
    by_cases h : ltP p q
    · rw [decide_eq_true h]
      have e : nrm p q = (p, q) := by unfold nrm; rw [if_pos h]
      refine iteT ⟨_, rfl, _, rfl, (by show 2 ≤ sizeLine; decide), fun r hr => ?_⟩
      have sm : Same H (upd H r (.tup [.ref a, .ref b])) := Same.at_ hr
      refine k r _ sm ?_
      rw [e]
      exact ⟨a, b, upd_same, sm.pt hp, sm.pt hq⟩
    · rw [decide_eq_false h]
      have e : nrm p q = (q, p) := by unfold nrm; rw [if_neg h]
      refine iteF ⟨_, rfl, _, rfl, (by show 2 ≤ sizeLine; decide), fun r hr => ?_⟩
      have sm : Same H (upd H r (.tup [.ref b, .ref a])) := Same.at_ hr
      refine k r _ sm ?_
      rw [e]
      exact ⟨b, a, upd_same, sm.pt hq, sm.pt hp⟩

/-! ### check_edges -/
def spCheckE : Sp := fun vs H Q _ => ∃ (l : Addr) (L : List (Addr × Ed)), vs = [.ref l] ∧ H l = some (.lst (rf L)) ∧ EL H L ∧ (∀ e ∈ eds L, okE e) ∧ ∀ H', Same H H' → Q .non H'
theorem scCheckE : FnScope ["edges", "edge"] ["edges"] (defScope tCheckE) := ⟨rfl, rfl, rfl, by decide +kernel, rfl, by decide +kernel, by decide +kernel⟩
theorem rf_get {β : Type} {L : List (Addr × β)} {i : Nat} {x : V} (h : (rf L)[i]? = some x) : ∃ p, L[i]? = some p ∧ x = .ref p.1 := by
  unfold rf at h
  rw [List.getElem?_map] at h
  cases e : L[i]? with
  | none => rw [e] at h; cases h
  | some p => rw [e] at h; exact ⟨p, rfl, (Option.some.inj h).symm⟩
theorem ok_checkE {f fG : Addr} {fd fdG : FuncData} (D : Dn K mg "check_edges" tCheckE ["edges"] f fd) (DG : Dn K mg "is_edge" tEdge ["value"] fG fdG) (G : FnOk P w K mg base L2.CX0 4 fG fdG ["value"] spEdge) (T : Bt mg) : FnOk P w K mg base L2.CX0 5 f fd ["edges"] spCheckE := by
  refine D.F.ok scCheckE (fun vs H Q E h => ?_) (fun cdv A outer s H vs Q E hr h => ?_)
  · obtain ⟨l, L, rfl, _⟩ := h
    rfl
  · obtain ⟨l, L, rfl, hl, hL, ok, k⟩ := h
    refine ⟨_, pss_cons (ps_if (pt_not (pt_val (pe_callB call_isiT (by rfl) T.isi (by decide +kernel) (pa_cons (pv 0) (pa_cons (pe_tup (pa_cons (pe_bltn (v := .ty "list") (by rfl) T.list (by decide +kernel) rfl) (pa_cons (pe_bltn (v := .ty "tuple") (by rfl) T.tuple (by decide +kernel) rfl) pa_nil))) pa_nil))))) pss_never pss_nil)
      (pss_one (ps_for PassesOwn.never rfl (pi_list (pv 0)) (pg_name (i := 1) scCheckE.nd rfl (Or.inl rfl)) (pss_one (ps_if (pt_not (pt_val (pe_call G hr rfl DG.m DG.F.kp DG.b .nil pass0 (pa_cons (pv 1) pa_nil)))) pss_never pss_nil)))), ?_⟩
    refine ⟨_, rfl, (by show 2 ≤ sizeLine; decide), fun t ht => ?_⟩
    have sm : Same H (upd H t (.tup [.ty "list", .ty "tuple"])) := Same.at_ ht
    refine ⟨_, t, [.ty "list", .ty "tuple"], .type "list", [.type "list", .type "tuple"], true, rfl, upd_same, .cons (.ty "list") (.cons (.ty "tuple") .nil), .base (.lst (sm _ _ hl)), kitAny_cons (kit_ty (r := true) (by decide +kernel)) (fun z => by cases z) (fun _ => rfl), true, rfl, iteF ?_⟩
    refine ⟨_, rfl, l, rfl, ⟨_, SqL.of (sm _ _ hl)⟩, for_list (K := K) (a := l) (xs := rf L) (fun i σ H' => Same H H' ∧ ∃ v, σ = [some (.ref l), v]) ⟨sm, none, rfl⟩ (fun i σ H' _ z => SqL.of (z.1 _ _ hl)) ?_ ?_⟩
    · rintro i x σ H' hx ⟨s1, v, rfl⟩
      obtain ⟨p, hp, rfl⟩ := rf_get hx
      have hm := List.mem_of_getElem? hp
      refine ⟨_, rfl, p.1, p.2, rfl, s1.ed (hL p hm), ok _ (List.mem_map_of_mem hm), true, rfl, iteF ⟨s1, _, rfl⟩⟩
    · rintro σ H' ⟨s1, v, rfl⟩
      exact k H' s1

/-! ### check_figure -/
structure ClsF (K : PySem.W.Frag) (C : Addr) : Prop where
  cl : Cls K C
  ha : PySem.W.findIn K (.ref C) "__class__" = some (some (.builtin "object.__class__"))
  hn : PySem.W.specialIn K (.builtin "object.__class__") "__get__" = some (some (.builtin "getset_descriptor.__get__"))
  tk : PySem.W.takesIn K (.builtin "object.__class__") = some true
  hm : PySem.W.mroIn K C (.type "object") = some true
  one : PySem.W.kitOne K (.ref C) (.ref C) = some true
def spCheckF (C : Addr) : Sp := fun vs H Q _ => ∃ (a dx : Addr) (fs : List (Str × V)), vs = [.ref a] ∧ H a = some (.ins C dx fs) ∧ Q .non H
theorem scCheckF : FnScope ["value"] ["value"] (defScope tCheckF) := ⟨rfl, rfl, rfl, by decide +kernel, rfl, by decide +kernel, by decide +kernel⟩
theorem ok_checkF {f C : Addr} {fd : FuncData} (D : Dn K mg "check_figure" tCheckF ["value"] f fd) (TC : ClsF K C) (mC : mg "Figure" = some (.ref C)) (T : Bt mg) : FnOk P w K mg base L2.CX0 1 f fd ["value"] (spCheckF C) := by
  refine D.F.ok scCheckF (fun vs H Q E h => ?_) (fun cdv A outer s H vs Q E hr h => ?_)
  · obtain ⟨a, dx, fs, rfl, _⟩ := h
    rfl
  · obtain ⟨a, dx, fs, rfl, ha, k⟩ := h
    refine ⟨_, pss_one (ps_if (pt_not (pt_val (pe_callB call_isi (by rfl) T.isi (by decide +kernel) (pa_cons (pv 0) (pa_cons (pe_glob (v := .ref C) rfl mC rfl) pa_nil))))) pss_never pss_nil), ?_⟩
    exact ⟨_, rfl, _, _, _, _, true, rfl, .own C, .base (.ins ha TC.cl TC.ha TC.hn TC.tk TC.hm), TC.one, true, rfl, iteF k⟩

/-! ### directions_at -/
def cnt (es : List Ed) (p : Pt) : Nat → Nat
  | 0 => 0
  | i + 1 => cnt es p i + b1 (at4 es p i)
theorem cnt4 {es : List Ed} (ok : ∀ e ∈ es, okE e) (p : Pt) : cnt es p 4 = deg es p := by
  rw [← deg_at4 ok]
  simp [cnt]
theorem cnt_le (es : List Ed) (p : Pt) : ∀ i, cnt es p i ≤ i
  | 0 => Nat.le_refl _
  | i + 1 => by
    have h := cnt_le es p i
    have h2 : b1 (at4 es p i) ≤ 1 := by unfold b1; split <;> omega
    show cnt es p i + b1 (at4 es p i) ≤ i + 1
    omega
def spDirs (P : Program) (w : World) : Sp := fun vs H Q _ => ∃ (a d : Addr) (p : Pt) (L : List (Addr × Ed)), vs = [.ref a, .ref d] ∧ PtA H a p ∧ H d = some (HeldO P w d L) ∧ EL H L ∧ (∀ e ∈ eds L, okE e) ∧
  ∀ z H', Same H H' → z.length = deg (eds L) p → Q (.str z) H'
theorem scDirs : FnScope ["point", "held", "found", "direction", "other"] ["point", "held"] (defScope tDirs) := ⟨rfl, rfl, rfl, by decide +kernel, rfl, by decide +kernel, by decide +kernel⟩
theorem str_app (x y : Str) : (x ++ y).length = x.length + y.length := by
  show (x.cps ++ y.cps).size = _
  rw [Array.size_append]
  rfl
theorem letter_len (i : Nat) : (letter i).length = 1 := rfl
theorem ok_dirs {f fM : Addr} {fd fdM : FuncData} (D : Dn K mg "directions_at" tDirs ["point", "held"] f fd) (DM : Dn K mg "moved" tMoved ["point", "direction"] fM fdM) (TS : Steps K w mg) (T : Bt mg) : FnOk P w K mg base L2.CX0 2 f fd ["point", "held"] (spDirs P w) := by
  have GM : FnOk P w K mg base L2.CX0 1 fM fdM ["point", "direction"] spMoved := ok_moved DM TS
  refine D.F.ok scDirs (fun vs H Q E h => ?_) (fun cdv A outer s H vs Q E hr h => ?_)
  · obtain ⟨a, d, p, L, rfl, _⟩ := h
    rfl
  · obtain ⟨a, d, p, L, rfl, hp, hd, hL, ok, k⟩ := h
    obtain ⟨td, hD⟩ := T.dirs
    have hu : (A.deeper (envOfC ("directions_at" : Str) (defScope tDirs) s.heap.objs.size f cdv)).units + 65 < cLine := by have := hr.un; omega
    refine ⟨_, pss_cons (ps_set (i := 2) scDirs.nd rfl (Or.inl rfl) pe_str) (pss_cons (ps_for PassesOwn.never rfl (pi_str (pe_glob (v := .str "ruld") rfl hD ⟨_, rfl⟩)) (pg_name (i := 3) scDirs.nd rfl (Or.inl rfl))
        (pss_cons (ps_set (i := 4) scDirs.nd rfl (Or.inl rfl) (pe_call GM hr rfl DM.m DM.F.kp DM.b .nil pass0 (pa_cons (pv 0) (pa_cons (pv 3) pa_nil))))
        (pss_one (ps_if (PW.pt (pw_or (pt_cmpR (op_inH hu) (pe_tup (pa_cons (pv 0) (pa_cons (pv 4) pa_nil))) (pv 1) (by rfl)) (pw_or1 (pt_cmpR (op_inH hu) (pe_tup (pa_cons (pv 4) (pa_cons (pv 0) pa_nil))) (pv 1) (by rfl)))))
          (pss_one (ps_set (i := 2) scDirs.nd rfl (Or.inl rfl) (pe_op op_add_str (pv 2) (pv 3)))) pss_nil))))
      (pss_one (ps_ret (pv 2)))), ?_⟩
    refine ⟨_, rfl, for_it walk_str (fun i σ H' => Same H H' ∧ ∃ z v u, z.length = cnt (eds L) p i ∧ σ = [some (.ref a), some (.ref d), some (.str z), v, u]) ⟨Same.refl H, _, none, none, rfl, rfl⟩ (fun _ _ _ _ _ => True.intro) ?_ ?_⟩
    · rintro i x σ H1 H2 hi ⟨s1, z, v, u, hz, rfl⟩ ⟨rfl, c, hc, rfl⟩
      have hi4 : i < 4 := hi
      have hlet : (⟨#[c]⟩ : Str) = letter i := by
        unfold letter
        rw [Array.getD_eq_getD_getElem?, hc]
        rfl
      rw [hlet]
      refine ⟨_, rfl, _, rfl, a, p, i, rfl, hi4, s1.pt hp, fun o H3 s3 ho => ?_⟩
      have s13 := s1.trans s3
      -- (point, other) in held
      refine ⟨_, rfl, _, rfl, (by show 2 ≤ sizeLine; decide), fun t1 ht1 => ?_⟩
      have s4 := s13.up (s13.free ht1) (o := .tup [.ref a, .ref o])
      have m4 : Same H3 (upd H3 t1 (.tup [.ref a, .ref o])) := Same.at_ ht1
      refine ⟨_, rfl, t1, (p, nb p i), d, L, rfl, ⟨a, o, upd_same, s4.pt hp, m4.pt ho⟩, rfl, s4 _ _ hd, s4.el hL, _, rfl, ?_⟩
      have h1 := at4 (eds L) p i
      have yes : ∀ H', Same H H' → at4 (eds L) p i = true → Same H H' ∧ ∃ z' v u, z'.length = cnt (eds L) p (i + 1) ∧ [some (V.ref a), some (.ref d), some (.str (z ++ letter i)), some (.str (letter i)), some (.ref o)] = [some (V.ref a), some (.ref d), some (.str z'), v, u] := fun H' g hb =>
        ⟨g, _, _, _, (by rw [str_app, letter_len, hz]; simp [cnt, hb, b1]), rfl⟩
      have sz : z.length + (letter i).length ≤ sizeLine := by
        have := cnt_le (eds L) p i
        rw [letter_len, hz, sizeLine_eq]
        omega
      refine ite2 (fun c1 => ?_) (fun c1 => ?_)
      · refine iteT ⟨_, rfl, _, rfl, _, _, rfl, rfl, sz, yes _ s4 ?_⟩
        have c1 : decide ((p, nb p i) ∈ eds L) = true := c1
        unfold at4
        rw [c1, Bool.true_or]
      · refine ⟨_, rfl, _, rfl, (by show 2 ≤ sizeLine; decide), fun t2 ht2 => ?_⟩
        have s5 := s4.up (s4.free ht2) (o := .tup [.ref o, .ref a])
        have m5 : Same (upd H3 t1 (.tup [.ref a, .ref o])) (upd (upd H3 t1 (.tup [.ref a, .ref o])) t2 (.tup [.ref o, .ref a])) := Same.at_ ht2
        refine ⟨_, rfl, t2, (nb p i, p), d, L, rfl, ⟨o, a, upd_same, m5.pt (m4.pt ho), s5.pt hp⟩, rfl, s5 _ _ hd, s5.el hL, _, rfl, ?_⟩
        refine ite2 (fun c2 => ?_) (fun c2 => ?_)
        · refine ⟨_, rfl, _, rfl, _, _, rfl, rfl, sz, yes _ s5 ?_⟩
          have c2 : decide ((nb p i, p) ∈ eds L) = true := c2
          unfold at4
          rw [c2, Bool.or_true]
        · refine ⟨s5, z, _, _, ?_, rfl⟩
          have hb : at4 (eds L) p i = false := by
            have c1 : ¬ decide ((p, nb p i) ∈ eds L) = true := c1
            have c2 : ¬ decide ((nb p i, p) ∈ eds L) = true := c2
            unfold at4
            rw [Bool.eq_false_iff.mpr c1, Bool.eq_false_iff.mpr c2]
            rfl
          rw [hz]
          simp [cnt, hb, b1]
    · rintro σ H' ⟨s1, z, v, u, hz, rfl⟩
      refine ⟨_, rfl, k z H' s1 ?_⟩
      rw [hz]
      exact cnt4 ok p
end
end NC
/-! What a figure is, and its making. -/
namespace NC
open PySem PySem.Spec PyProof.Rows L2

abbrev cFig : Stmt := top 24
abbrev tInit : Stmt := inClass cFig 0

theorem loop_it {J : It} {n : Nat} {G : Hp → Prop} {Y : Nat → Hp → V → Hp → Prop} (w : Walk J n G Y) {g : TG} {vs : List Nat} {body : TBod} {Nx : Hp → Prop} {σ : L2.St} {H0 : Hp} (Pv : Nat → Hp → Prop) (h0 : Pv 0 H0) (hG : ∀ i H, i ≤ n → Pv i H → G H)
    (hs : ∀ i x H H', i < n → Pv i H → Y i H x H' → g x (wipe σ vs) H' fun σ2 H2 => wipe σ2 vs = wipe σ vs ∧ body σ2 H2 (Pv (i + 1))) (hd : ∀ H, Pv n H → Nx H) : tLoop J g vs body Nx σ H0 := by
  refine ⟨fun i m H => m = n - i ∧ i ≤ n ∧ Pv i H, ⟨n, (Nat.sub_zero n).symm, Nat.zero_le n, h0⟩, ?_⟩
  rintro i m H ⟨rfl, hi, p⟩
  have q := hG i H hi p
  rcases Nat.lt_or_eq_of_le hi with hlt | rfl
  · exact .inr ⟨w.goes i H hlt q, Pv (i + 1), fun H' p' => ⟨n - (i + 1), by omega, rfl, hlt, p'⟩, fun x H' y => hs i x H H' hlt p (w.yields i H x H' hlt q y)⟩
  · exact .inl ⟨w.stops H q, hd H p⟩

/-! ### the dict of points -/
structure Around (es : List Ed) (kvs : List (List L2.Key × V)) : Prop where
  ex : ∃ ps : List Pt, kvs.map (·.1) = ps.map ptKs ∧ ps.Nodup ∧ (∀ p, p ∈ ps ↔ ptsOf es p) ∧ ∀ p ∈ ps, ∃ z : Str, valV kvs (ptKs p) = some (.str z) ∧ z.length = deg es p
/-- some of the points are in it -/
structure ArPart (es : List Ed) (Pn : Pt → Prop) (kvs : List (List L2.Key × V)) : Prop where
  ex : ∃ ps : List Pt, kvs.map (·.1) = ps.map ptKs ∧ ps.Nodup ∧ (∀ p, p ∈ ps ↔ Pn p) ∧ ∀ p ∈ ps, ∃ z : Str, valV kvs (ptKs p) = some (.str z) ∧ z.length = deg es p
theorem ArPart.nil (es : List Ed) : ArPart es (fun _ => False) [] := ⟨[], rfl, List.nodup_nil, fun p => by simp, fun p h => by simp at h⟩
theorem keys_put {κ : Type} [DecidableEq κ] (kvs : List (κ × V)) (k : κ) (v : V) : (putK kvs k v).map (·.1) = if (valV kvs k).isSome = true then kvs.map (·.1) else kvs.map (·.1) ++ [k] := by
  unfold putK
  rw [valV_any]
  by_cases h : (valV kvs k).isSome = true
  · rw [if_pos h, if_pos h, List.map_map]
    refine List.map_congr_left fun x _ => ?_
    show (if x.1 = k then (x.1, v) else x).1 = x.1
    split <;> rfl
  · rw [if_neg h, if_neg h]
    simp
theorem valV_key {κ : Type} [DecidableEq κ] : ∀ {kvs : List (κ × V)} {k : κ}, (valV kvs k).isSome = true ↔ k ∈ kvs.map (·.1)
  | [], k => by simp [valV_nil]
  | p :: r, k => by
    by_cases h : p.1 = k
    · rw [valV_pos h]
      simp [h]
    · rw [valV_neg h, valV_key (kvs := r)]
      have h' : ¬ k = p.1 := fun z => h z.symm
      simp [h']
theorem ArPart.put {es : List Ed} {Pn Pm : Pt → Prop} {kvs : List (List L2.Key × V)} (x : ArPart es Pn kvs) {p : Pt} {z : Str} (hz : z.length = deg es p) (hm : ∀ q, Pm q ↔ (Pn q ∨ q = p)) : ArPart es Pm (putK kvs (ptKs p) (.str z)) := by
  obtain ⟨ps, h1, h2, h3, h4⟩ := x.ex
  have mem : (valV kvs (ptKs p)).isSome = true ↔ p ∈ ps := by
    rw [valV_key, h1]
    constructor
    · intro h
      obtain ⟨q, hq, e⟩ := List.mem_map.mp h
      exact ptKs_inj e ▸ hq
    · exact fun h => List.mem_map_of_mem h
  by_cases h : p ∈ ps
  · refine ⟨ps, ?_, h2, fun q => ?_, fun q hq => ?_⟩
    · rw [keys_put, if_pos (mem.mpr h), h1]
    · rw [hm, ← h3]
      constructor
      · exact .inl
      · rintro (g | rfl)
        · exact g
        · exact h
    · rw [valV_put]
      by_cases e : q = p
      · subst e
        exact ⟨z, by rw [if_pos rfl], hz⟩
      · rw [if_neg fun g => e (ptKs_inj g)]
        exact h4 q hq
  · refine ⟨ps ++ [p], ?_, ?_, fun q => ?_, fun q hq => ?_⟩
    · rw [keys_put, if_neg fun g => h (mem.mp g), h1, List.map_append]
      rfl
    · refine List.nodup_append.mpr ⟨h2, List.nodup_cons.mpr ⟨by simp, List.nodup_nil⟩, fun a ha b hb => ?_⟩
      rw [List.mem_singleton] at hb
      subst hb
      exact fun g => h (g ▸ ha)
    · rw [hm, List.mem_append, List.mem_singleton, h3]
    · rw [valV_put]
      by_cases e : q = p
      · subst e
        exact ⟨z, by rw [if_pos rfl], hz⟩
      · rw [if_neg fun g => e (ptKs_inj g)]
        rcases List.mem_append.mp hq with g | g
        · exact h4 q g
        · exact absurd (List.mem_singleton.mp g) e

/-! ### the figure -/
theorem eh_ : ¬ (("edges" : Str) = "held") := by decide +kernel
theorem ea_ : ¬ (("edges" : Str) = "around") := by decide +kernel
theorem ha_ : ¬ (("held" : Str) = "around") := by decide +kernel
def ff (a d r : Addr) : List (Str × V) := putF "around" (.ref r) (putF "held" (.ref d) (putF "edges" (.ref a) []))
theorem ff_edges (a d r : Addr) : (ff a d r).lookup ("edges" : Str) = some (.ref a) := by
  unfold ff
  rw [lookup_putF, if_neg ea_, lookup_putF, if_neg eh_, lookup_putF, if_pos rfl]
theorem ff_held (a d r : Addr) : (ff a d r).lookup ("held" : Str) = some (.ref d) := by
  unfold ff
  rw [lookup_putF, if_neg ha_, lookup_putF, if_pos rfl]
theorem ff_around (a d r : Addr) : (ff a d r).lookup ("around" : Str) = some (.ref r) := by
  unfold ff
  rw [lookup_putF, if_pos rfl]
theorem ff_no (a d r : Addr) {m : Str} (h1 : ¬ m = "edges") (h2 : ¬ m = "held") (h3 : ¬ m = "around") : (ff a d r).lookup m = none := by
  unfold ff
  rw [lookup_putF, if_neg h3, lookup_putF, if_neg h2, lookup_putF, if_neg h1]
  rfl
structure FigAt (P : Program) (w : World) (C : Addr) (H : Hp) (x : Addr) (es : List Ed) : Prop where
  ex : ∃ dx a d r L kvs, H x = some (.ins C dx (ff a d r)) ∧ H a = some (.tup (rf L)) ∧ EL H L ∧ eds L = es ∧ H d = some (HeldO P w d L) ∧ H r = some (.dT kvs) ∧ Around es kvs
  ss : SS es
  ok : ∀ e ∈ es, okE e
  few : es.length ≤ 400
/-- nothing but the thing at l (and the tables of code objects) changes -/
def Kp (l : Addr) (H H' : Hp) : Prop := ∀ b o, H b = some o → b ≠ l → (∀ ps, o ≠ .tbl ps) → H' b = some o
theorem Kp.of {l : Addr} {H H' : Hp} (s : Same H H') : Kp l H H' := fun b o e _ _ => s b o e
theorem Kp.trans {l : Addr} {H H1 H2 : Hp} (a : Kp l H H1) (b : Kp l H1 H2) : Kp l H H2 := fun c o e n t => b c o (a c o e n t) n t
theorem Kp.refl (l : Addr) (H : Hp) : Kp l H H := fun _ _ e _ _ => e
theorem Kp.ext {l : Addr} {H H' : Hp} (s : LamX.ExtN H H') : Kp l H H' := fun b o e _ t => s b o e t
theorem Kp.at_ {l b : Addr} {H H' : Hp} {xs : List V} {o : HO} (k : Kp l H H') (hl : H l = some (.lst xs)) (e : H b = some o) (h1 : ∀ ys, o ≠ .lst ys) (h2 : ∀ ps, o ≠ .tbl ps) : H' b = some o :=
  k b o e (ne_of e hl (h1 xs)) h2
theorem Kp.tk {l : Addr} {H H' : Hp} {xs : List V} (k : Kp l H H') (hl : H l = some (.lst xs)) : Tk H H' := fun a ys e => k.at_ hl e (fun _ z => nomatch z) fun _ z => nomatch z
theorem FigAt.tr {P : Program} {w : World} {C x : Addr} {H H' : Hp} {es : List Ed} (f : FigAt P w C H x es) (k : ∀ b o, H b = some o → (∀ ys, o ≠ .lst ys) → (∀ ps, o ≠ .tbl ps) → H' b = some o) : FigAt P w C H' x es := by
  obtain ⟨dx, a, d, r, L, kvs, h1, h2, h3, h4, h5, h6, h7⟩ := f.ex
  refine ⟨⟨dx, a, d, r, L, kvs, k _ _ h1 (fun _ z => nomatch z) (fun _ z => nomatch z), k _ _ h2 (fun _ z => nomatch z) (fun _ z => nomatch z), h3.tk (fun b ys e => k _ _ e (fun _ z => nomatch z) fun _ z => nomatch z), h4,
    k _ _ h5 (fun _ z => by unfold HeldO at z; cases z) (fun _ z => by unfold HeldO at z; cases z), k _ _ h6 (fun _ z => nomatch z) (fun _ z => nomatch z), h7⟩, f.ss, f.ok, f.few⟩
theorem FigAt.kp {P : Program} {w : World} {C l x : Addr} {H H' : Hp} {es : List Ed} {xs : List V} (f : FigAt P w C H x es) (k : Kp l H H') (hl : H l = some (.lst xs)) : FigAt P w C H' x es :=
  f.tr fun b o e h1 h2 => k.at_ hl e h1 h2
theorem FigAt.ext {P : Program} {w : World} {C x : Addr} {H H' : Hp} {es : List Ed} (f : FigAt P w C H x es) (k : LamX.ExtN H H') : FigAt P w C H' x es :=
  f.tr fun b o e _ h2 => k b o e h2
theorem FigAt.same {P : Program} {w : World} {C x : Addr} {H H' : Hp} {es : List Ed} (f : FigAt P w C H x es) (s : Same H H') : FigAt P w C H' x es := by
  obtain ⟨dx, a, d, r, L, kvs, h1, h2, h3, h4, h5, h6, h7⟩ := f.ex
  exact ⟨⟨dx, a, d, r, L, kvs, s _ _ h1, s _ _ h2, s.el h3, h4, s _ _ h5, s _ _ h6, h7⟩, f.ss, f.ok, f.few⟩

/-! ### __init__ -/
/-- the class and what it must have -/
structure CFig (K : PySem.W.Frag) (mg : Str → Option Value) (C : Addr) : Prop extends ClsF K C where
  m : mg "Figure" = some (.ref C)
  nE : NoAttr K C "edges"
  nH : NoAttr K C "held"
  nA : NoAttr K C "around"
def spInit (P : Program) (w : World) (C : Addr) : Sp := fun vs H Q _ => ∃ (x l dx : Addr) (L : List (Addr × Ed)) (es : List Ed), vs = [.ref x, .ref l] ∧ H x = some (.ins C dx []) ∧ H l = some (.lst (rf L)) ∧ EL H L ∧ (∀ e ∈ eds L, okE e) ∧ L.length ≤ 799 ∧
  SS es ∧ (∀ e, e ∈ es ↔ e ∈ eds L) ∧ es.length ≤ 400 ∧ ∀ H', (∀ b o, b ≠ x → H b = some o → H' b = some o) → FigAt P w C H' x es → Q .non H'
section
variable {P : Program} {w : World} {K : PySem.W.Frag} {mg : Str → Option Value} {base : Heap}
theorem scInit : FnScope ["self", "edges", "found", "held", "edge", "point"] ["self", "edges"] (defScope tInit) := ⟨rfl, rfl, rfl, by decide +kernel, rfl, by decide +kernel, by decide +kernel⟩
abbrev FInit (K : PySem.W.Frag) (f : Addr) (fd : FuncData) : Prop := ∃ e : Addr, FunD K "__init__" "Figure.__init__" (defArgs tInit) (defBody tInit) (defScope tInit) [V.ref e] [] f fd
theorem ok_init {f fC fD C : Addr} {fd fdC fdD : FuncData} (F : FInit K f fd) (TC : CFig K mg C) (DC : Dn K mg "check_edges" tCheckE ["edges"] fC fdC) (GC : FnOk P w K mg base L2.CX0 5 fC fdC ["edges"] spCheckE)
    (DD : Dn K mg "directions_at" tDirs ["point", "held"] fD fdD) (GD : FnOk P w K mg base L2.CX0 2 fD fdD ["point", "held"] (spDirs P w)) (T : Bt mg) : FnOk P w K mg base L2.CX0 6 f fd ["self", "edges"] (spInit P w C) := by
  obtain ⟨e0, F⟩ := F
  refine F.ok scInit (fun vs H Q E h => ?_) (fun cdv A outer s H vs Q E hr h => ?_)
  · obtain ⟨x, l, dx, L, es, rfl, _⟩ := h
    rfl
  · obtain ⟨x, l, dx, L, es, rfl, hx, hl, hL, ok, hfew, ss, hes, h400, k⟩ := h
    obtain ⟨tm, hm⟩ := T.most
    have hu : (A.deeper (envOfC ("Figure.__init__" : Str) (defScope tInit) s.heap.objs.size f cdv)).units + 64 < cLine := by have := hr.un; omega
    have hu8 : (A.deeper (envOfC ("Figure.__init__" : Str) (defScope tInit) s.heap.objs.size f cdv)).units + 8 < cLine := by omega
    suffices hh : ∃ t, PSs (cxOf L2.CX0 P w K mg base ["self", "edges", "found", "held", "edge", "point"] "Figure.__init__" (defScope tInit) f cdv A outer s H E).nox (defBody tInit) t ∧ t { nx := fun _ H' => Q .non H', rt := Q } (L2.start ["self", "edges", "found", "held", "edge", "point"] [.ref x, .ref l]) H by
      obtain ⟨t, h1, h2⟩ := hh
      exact ⟨t, h1.nox, h2⟩
    refine ⟨_, pss_cons (ps_expr (pe_call GC hr rfl DC.m DC.F.kp DC.b .nil pass0 (pa_cons (pv 1) pa_nil)))
      (pss_cons (ps_set (i := 2) scInit.nd rfl (Or.inl rfl) (pe_callB (call_sortSet rfl hu : CallR _ _ (rSortSet w)) (by rfl) T.sorted (by decide +kernel) (pa_cons (pe_callTy (call_setO rfl hu : CallR _ _ (rSetOf K w)) (by rfl) T.set (by decide +kernel) (pa_cons (pv 1) pa_nil)) pa_nil)))
      (pss_cons (ps_if (pt_cmpR op_gt (pe_callB call_len_seq (by rfl) T.len PySem.boot_len (pa_cons (pv 2) pa_nil)) (pe_glob (v := .int 400) rfl hm ⟨_, rfl⟩) (nomark _)) pss_never pss_nil)
      (pss_cons (ps_set (i := 3) scInit.nd rfl (Or.inr rfl) (pe_dc1 (ts := fun D => dsHeld P w D) (own := [("edge", 4)]) (g := gName 4) (by rfl) scInit.nd (held_new P w) (pi_list (pv 2)) (blkOk_by (N := ["self", "edges", "found", "held", "edge", "point"]) (sc := defScope tInit) (by decide +kernel))
          (fun _ _ _ _ _ => pg_name (i := 4) scInit.nd rfl (Or.inl rfl)) (fun _ _ _ _ _ => pv 4) (fun _ _ _ _ _ => pe_bl) (fun _ _ _ _ _ D => ds_held hu8)))
      (pss_cons (ps_fld (pv 0) (pe_callTy call_tuple_of (by rfl) T.tuple (by decide +kernel) (pa_cons (pv 2) pa_nil)) rfl)
      (pss_cons (ps_fld (pv 0) (pv 3) rfl)
      (pss_one (ps_fld (pv 0) (pe_dc2 (ts := dsT) (wi1 := iTup K (tVar 4)) (own := [("edge", 4), ("point", 5)]) (vs1 := [5]) (g := gName 4) (g1 := gName 5) (o0 := fun _ => .dT []) (by rfl) scInit.nd (fun H h hb => dt_empty h hb) (pi_list (pv 2)) (blkOk_by (N := ["self", "edges", "found", "held", "edge", "point"]) (sc := defScope tInit) (by decide +kernel)) (by decide)
          (fun _ _ _ _ _ => pg_name (i := 4) scInit.nd rfl (Or.inl rfl)) (fun _ _ _ _ _ => pi_tup (pv 4)) (fun _ _ _ _ _ => pg_name (i := 5) scInit.nd rfl (Or.inl rfl)) (fun _ _ _ _ _ => pv 5)
          (fun _ _ _ _ _ => pe_call GD (hr.mono (by decide)) (by rfl) DD.m DD.F.kp DD.b .nil pass0 (pa_cons (pv 5) (pa_cons (pv 3) pa_nil))) (fun _ _ _ _ _ D => ds_T hu8)) rfl))))))), ?_⟩
    -- check_edges(edges); found = sorted(set(edges))
    refine ⟨_, rfl, l, L, rfl, hl, hL, ok, fun H1 s1 => ?_⟩
    refine ⟨_, rfl, l, L, rfl, SqL.of (s1 _ _ hl), s1.el hL, hfew, fun a M ha hsub hcov hnd => ?_⟩
    have s2 : Same H (upd H1 a (SetEO w a M)) := s1.up (s1.free ha)
    have elM : EL (upd H1 a (SetEO w a M)) M := fun q hq => s2.ed (hL q (hsub q hq))
    refine ⟨a, M, rfl, upd_same, elM, fun p N pm ssN hp => ?_⟩
    generalize upd H1 a (SetEO w a M) = H2 at s2 elM hp ⊢
    have e1 : eds N = es := ssN.one ss fun e => by
      rw [(pm.map _).mem_iff, hes]
      constructor
      · intro h
        obtain ⟨q, hq, rfl⟩ := List.mem_map.mp h
        exact List.mem_map_of_mem (hsub q hq)
      · intro h
        obtain ⟨q, hq, rfl⟩ := List.mem_map.mp h
        exact hcov q hq
    have lenN : N.length = es.length := by rw [← e1, List.length_map]
    have s3 : Same H (upd H2 p (.lst (rf N))) := s2.up (s2.free hp)
    have elN : EL (upd H2 p (.lst (rf N))) N := fun q hq => (Same.at_ hp).ed (elM q (pm.mem_iff.mp hq))
    have hp3 : upd H2 p (.lst (rf N)) p = some (.lst (rf N)) := upd_same
    generalize upd H2 p (.lst (rf N)) = H3 at s3 elN hp3 ⊢
    refine ⟨_, rfl, p, _, rfl, .inl (SqL.of hp3), _, _, rfl, rfl, _, rfl, ite2 (fun h => ?_) (fun _ => ?_)⟩
    · exfalso
      have h := of_decide_eq_true h
      rw [rf_len] at h
      omega
    -- held
    refine ⟨_, rfl, p, rfl, ⟨_, SqL.of hp3⟩, fun D hD => loop_it walk_list (fun i H' => Same H3 H' ∧ H' D = some (HeldO P w D (N.take i))) ⟨Same.at_ hD, upd_same⟩ (fun i H' _ z => SqL.of (z.1 _ _ hp3)) ?_ ?_⟩
    · rintro i v Ha Hb hi ⟨sa, hda⟩ ⟨rfl, hv⟩
      obtain ⟨q, hq, rfl⟩ := rf_get hv
      have tk : N.take (i + 1) = N.take i ++ [(q.1, q.2)] := by
        rw [List.take_add_one, hq]
        rfl
      refine ⟨rfl, _, rfl, q.1, q.2, N.take i, rfl, sa.ed (elN q (List.mem_of_getElem? hq)), rfl, hda, fun r hr => sa.ed (elN r (List.mem_of_mem_take hr)), ?_, ?_, sa.up hD, ?_⟩
      · have nd := ssN.nodup
        intro hin
        obtain ⟨r, hr, er⟩ := List.mem_map.mp hin
        obtain ⟨j, hj⟩ := List.mem_iff_getElem?.mp hr
        rw [List.getElem?_take] at hj
        split at hj
        · rename_i hji
          have g1 : (eds N)[j]? = some q.2 := by rw [List.getElem?_map, hj, ← er]; rfl
          have g2 : (eds N)[i]? = some q.2 := by rw [List.getElem?_map, hq]; rfl
          have := (List.getElem?_inj (List.getElem?_eq_some_iff.mp g1).1 nd).mp (g1.trans g2.symm)
          omega
        · cases hj
      · rw [List.length_take, sizeLine_eq]
        omega
      · rw [tk]
        exact upd_same
    rintro H4 ⟨s4, hD4⟩
    rw [rf_len, List.take_length] at hD4
    have hp4 := s4 _ _ hp3
    have elN4 : EL H4 N := s4.el elN
    have sH4 := s3.trans s4
    -- self.edges = tuple(found)
    refine ⟨_, rfl, p, _, rfl, .inl ⟨SqL.of hp4, fun t ht => ?_⟩⟩
    have s5 : Same H4 (upd H4 t (.tup (rf N))) := Same.at_ ht
    have ht5 : upd H4 t (.tup (rf N)) t = some (.tup (rf N)) := upd_same
    generalize upd H4 t (.tup (rf N)) = H5 at s5 ht5 ⊢
    have hx5 := s5 _ _ (sH4 _ _ hx)
    refine ⟨_, rfl, x, C, dx, _, rfl, hx5, TC.cl, TC.nE, (by show 0 < 1000; decide), ?_⟩
    -- self.held = held
    refine ⟨_, rfl, _, rfl, x, C, dx, _, rfl, upd_same, TC.cl, TC.nH, (by show 1 < 1000; decide), ?_⟩
    rw [upd_upd]
    have k6 : ∀ b o, b ≠ x → H5 b = some o → upd H5 x (.ins C dx (putF "held" (.ref D) (putF "edges" (.ref t) []))) b = some o := fun b o n e => by rw [upd_ne n]; exact e
    have hx6 : upd H5 x (.ins C dx (putF "held" (.ref D) (putF "edges" (.ref t) []))) x = some (.ins C dx (putF "held" (.ref D) (putF "edges" (.ref t) []))) := upd_same
    generalize upd H5 x (.ins C dx (putF "held" (.ref D) (putF "edges" (.ref t) []))) = H6 at k6 hx6 ⊢
    have hD5 := s5 _ _ hD4
    have hp6 : H6 p = some (.lst (rf N)) := k6 _ _ (ne_of (s5 _ _ hp4) hx5 fun z => nomatch z) (s5 _ _ hp4)
    have hD6 : H6 D = some (HeldO P w D N) := k6 _ _ (ne_of hD5 hx5 fun z => by unfold HeldO at z; cases z) hD5
    have ht6 : H6 t = some (.tup (rf N)) := k6 _ _ (ne_of ht5 hx5 fun z => nomatch z) ht5
    have tk6 : Tk H5 H6 := fun b ys e => k6 _ _ (ne_of e hx5 fun z => nomatch z) e
    have el6 : EL H6 N := (s5.el elN4).tk tk6
    have okN : ∀ e ∈ eds N, okE e := fun e he => ok e ((hes e).mp (e1 ▸ he))
    -- self.around
    refine ⟨_, rfl, p, rfl, ⟨_, SqL.of hp6⟩, fun R hR => loop_it walk_list (fun i H' => Same H6 H' ∧ ∃ kvs, H' R = some (.dT kvs) ∧ ArPart es (ptsOf ((eds N).take i)) kvs ∧ kvs.length ≤ 2 * i)
      ⟨Same.at_ hR, [], upd_same, ⟨[], rfl, List.nodup_nil, fun q => by simp [ptsOf], fun q h => by simp at h⟩, Nat.zero_le _⟩ (fun i H' _ z => SqL.of (z.1 _ _ hp6)) ?_ ?_⟩
    · rintro i v Ha Hb hi ⟨sa, kvs, hRa, ar, hlen⟩ ⟨rfl, hv⟩
      obtain ⟨q, hq, rfl⟩ := rf_get hv
      obtain ⟨b, c, hqt, hb, hc⟩ := el6 q (List.mem_of_getElem? hq)
      have hi400 : i < 400 := by
        have := (List.getElem?_eq_some_iff.mp hq).1
        omega
      have hqe : (eds N)[i]? = some q.2 := by rw [List.getElem?_map, hq]; rfl
      have tk : (eds N).take (i + 1) = (eds N).take i ++ [q.2] := by
        rw [List.take_add_one, hqe]
        rfl
      refine ⟨rfl, _, rfl, q.1, rfl, ⟨_, SqT.of (sa _ _ hqt)⟩, loop_it walk_tup (fun j H' => Same H6 H' ∧ ∃ kvs, H' R = some (.dT kvs) ∧ ArPart es (fun r => ptsOf ((eds N).take i) r ∨ (1 ≤ j ∧ r = q.2.1) ∨ (2 ≤ j ∧ r = q.2.2)) kvs ∧ kvs.length ≤ 2 * i + j)
        ⟨sa, kvs, hRa, ⟨by
          obtain ⟨ps, a1, a2, a3, a4⟩ := ar.ex
          exact ⟨ps, a1, a2, fun r => by rw [a3]; simp, a4⟩⟩, hlen⟩ (fun j H' _ z => SqT.of (z.1 _ _ hqt)) ?_ ?_⟩
      · rintro j y Hc Hd hj ⟨sc, kvs', hRc, arc, hlc⟩ ⟨rfl, hy⟩
        have two : ∃ (u : Addr) (pt : Pt), y = .ref u ∧ PtA H6 u pt ∧ ∀ r, (ptsOf ((eds N).take i) r ∨ (1 ≤ j + 1 ∧ r = q.2.1) ∨ (2 ≤ j + 1 ∧ r = q.2.2)) ↔ ((ptsOf ((eds N).take i) r ∨ (1 ≤ j ∧ r = q.2.1) ∨ (2 ≤ j ∧ r = q.2.2)) ∨ r = pt) := by
          have hj2 : j < 2 := hj
          rcases j with _ | _ | j
          · exact ⟨b, q.2.1, (Option.some.inj hy).symm, hb, fun r => by simp⟩
          · exact ⟨c, q.2.2, (Option.some.inj hy).symm, hc, fun r => by simp [or_assoc]⟩
          · omega
        obtain ⟨u, pt, rfl, hu', hiff⟩ := two
        refine ⟨rfl, _, rfl, _, rfl, _, rfl, u, D, pt, N, rfl, sc.pt hu', sc _ _ hD6, sc.el el6, okN, fun z He se hz => ?_⟩
        rw [e1] at hz
        have sce := sc.trans se
        exact ⟨u, pt, kvs', rfl, sce.pt hu', se _ _ hRc, by rw [sizeLine_eq]; have hj2 : j < 2 := hj; omega, sce.up hR, _, upd_same, arc.put hz hiff, by have := length_putK kvs' (ptKs pt) (.str z); omega⟩
      · rintro Hc ⟨sc, kvs', hRc, arc, hlc⟩
        have hlc : kvs'.length ≤ 2 * i + 2 := hlc
        refine ⟨sc, kvs', hRc, ⟨?_⟩, by omega⟩
        obtain ⟨ps, a1, a2, a3, a4⟩ := arc.ex
        refine ⟨ps, a1, a2, fun r => ?_, a4⟩
        rw [a3, tk]
        show _ ↔ ptsOf _ r
        unfold ptsOf
        simp only [List.mem_append, List.mem_singleton]
        constructor
        · rintro (⟨e, he, h⟩ | ⟨_, h⟩ | ⟨_, h⟩)
          · exact ⟨e, .inl he, h⟩
          · exact ⟨q.2, .inr rfl, .inl h⟩
          · exact ⟨q.2, .inr rfl, .inr h⟩
        · rintro ⟨e, he | rfl, h⟩
          · exact .inl ⟨e, he, h⟩
          · rcases h with h | h
            · exact .inr (.inl ⟨by show 1 ≤ 2; omega, h⟩)
            · exact .inr (.inr ⟨by show 2 ≤ 2; omega, h⟩)
    rintro H7 ⟨s7, kvs, hR7, ar, _⟩
    refine ⟨_, rfl, x, C, dx, _, rfl, s7 _ _ hx6, TC.cl, TC.nA, (by show 2 < 1000; decide), ?_⟩
    have hx7 := s7 _ _ hx6
    have nx : ∀ b o, H6 b = some o → (∀ fs, o ≠ .ins C dx fs) → b ≠ x := fun b o e h => ne_of e hx6 (h _)
    have n7 : ∀ b o, H7 b = some o → (∀ fs, o ≠ .ins C dx fs) → b ≠ x := fun b o e h => ne_of e hx7 (h _)
    refine k _ (fun b o n e => ?_) ⟨⟨dx, t, D, R, N, kvs, upd_same, ?_, ?_, e1, ?_, ?_, ?_⟩, ss, fun e he => ok e ((hes e).mp he), h400⟩
    · rw [upd_ne n]
      exact s7 _ _ (k6 _ _ n (s5 _ _ (sH4 _ _ e)))
    · have h := s7 _ _ ht6
      rw [upd_ne (n7 _ _ h fun _ z => nomatch z)]
      exact h
    · exact (s7.el el6).tk fun b ys e => by rw [upd_ne (n7 _ _ e fun _ z => nomatch z)]; exact e
    · have h := s7 _ _ hD6
      rw [upd_ne (n7 _ _ h fun _ z => by unfold HeldO at z; cases z)]
      exact h
    · rw [upd_ne (n7 _ _ hR7 fun _ z => nomatch z)]
      exact hR7
    · obtain ⟨ps, a1, a2, a3, a4⟩ := ar.ex
      have hn : (rf N).length = (eds N).length := by rw [rf_len, List.length_map]
      refine ⟨ps, a1, a2, fun r => ?_, a4⟩
      rw [a3, hn, List.take_length, e1]
end
end NC
/-! The methods of a figure without lambdas. -/
namespace NC
open PySem PySem.Spec PyProof.Rows L2

abbrev tLen : Stmt := inClass cFig 1
abbrev tEq : Stmt := inClass cFig 2
abbrev tIn : Stmt := inClass cFig 3
abbrev tOr : Stmt := inClass cFig 5
abbrev tAnd : Stmt := inClass cFig 6
abbrev tSub : Stmt := inClass cFig 7
abbrev tXor : Stmt := inClass cFig 8
abbrev tPts : Stmt := inClass cFig 9
abbrev tOdd : Stmt := inClass cFig 10

/-- a method of the class -/
structure Md (K : PySem.W.Frag) (C : Addr) (m qual : Str) (st : Stmt) (ps : List Str) (f : Addr) (fd : FuncData) : Prop where
  F : Fun K m qual st f fd
  b : Binds K fd ps []
  mt : Meth K C m f
/-- the class made: its __init__ and what is known of it -/
structure MkF (P : Program) (w : World) (K : PySem.W.Frag) (mg : Str → Option Value) (base : Heap) (C fi : Addr) (fdi : FuncData) : Prop where
  M : L2.Mk K C fi
  G : FnOk P w K mg base L2.CX0 6 fi fdi ["self", "edges"] (spInit P w C)
  b : Binds K fdi ["self", "edges"] []
  C : CFig K mg C

section
variable {P : Program} {w : World} {K : PySem.W.Frag} {mg : Str → Option Value} {base : Heap} {C : Addr}
/-- the reading of Figure(list) -/
theorem mk_read {H : Hp} {l : Addr} {L : List (Addr × Ed)} {es : List Ed} {Q : VK} (hl : H l = some (.lst (rf L))) (hL : EL H L) (ok : ∀ e ∈ eds L, okE e) (hn : L.length ≤ 799) (ss : SS es) (hes : ∀ e, e ∈ es ↔ e ∈ eds L) (h4 : es.length ≤ 400)
    (q : ∀ z H', Same H H' → FigAt P w C H' z es → Q (.ref z) H') : ∀ x dx, H x = none → H dx = none → dx ≠ x → spInit P w C (.ref x :: ([.ref l] ++ [])) (upd (upd H dx (.own x)) x (.ins C dx [])) (fun v H2 => v = .non ∧ Q (.ref x) H2) L2.E0 := by
  intro x dx hx hd ne
  have s0 : Same H (upd (upd H dx (.own x)) x (.ins C dx [])) := ((Same.refl H).up hd).up hx
  refine ⟨x, l, dx, L, es, rfl, upd_same, s0 _ _ hl, s0.el hL, ok, hn, ss, hes, h4, fun H' k f => ⟨rfl, q x H' (fun b o e => k b o (ne_of_none e hx) (s0 _ _ e)) f⟩⟩

/-! ### len, ==, in -/
def spLen (P : Program) (w : World) (C : Addr) : Sp := fun vs H Q _ => ∃ (x : Addr) (es : List Ed), vs = [.ref x] ∧ FigAt P w C H x es ∧ Q (.int (es.length : Nat)) H
theorem scLen : FnScope ["self"] ["self"] (defScope tLen) := ⟨rfl, rfl, rfl, by decide +kernel, rfl, by decide +kernel, by decide +kernel⟩
theorem ok_len {f : Addr} {fd : FuncData} (D : Md K C "__len__" "Figure.__len__" tLen ["self"] f fd) (TC : CFig K mg C) (T : Bt mg) : FnOk P w K mg base L2.CX0 1 f fd ["self"] (spLen P w C) := by
  refine D.F.ok scLen (fun vs H Q E h => ?_) (fun cdv A outer s H vs Q E hr h => ?_)
  · obtain ⟨x, es, rfl, _⟩ := h
    rfl
  · obtain ⟨x, es, rfl, f, k⟩ := h
    obtain ⟨dx, a, d, r, L, kvs, h1, h2, h3, h4, h5, h6, h7⟩ := f.ex
    refine ⟨_, pss_one (ps_ret (pe_callB call_len_seq (by rfl) T.len PySem.boot_len (pa_cons (pe_fld (pv 0) rfl) pa_nil))), ?_⟩
    refine ⟨_, rfl, x, C, dx, _, _, rfl, h1, TC.cl, TC.nE, ff_edges _ _ _, a, _, rfl, .inr (SqT.of h2), ?_⟩
    show Q (.int (((rf L).length : Nat) : Int)) H
    have e : (rf L).length = es.length := by rw [rf_len, ← h4, List.length_map]
    rw [e]
    exact k
def spEq (P : Program) (w : World) (C : Addr) : Sp := fun vs H Q _ => ∃ (x y : Addr) (es : List Ed), vs = [.ref x, .ref y] ∧ FigAt P w C H x es ∧ FigAt P w C H y es ∧ Q (.bl true) H
theorem scEq : FnScope ["self", "other"] ["self", "other"] (defScope tEq) := ⟨rfl, rfl, rfl, by decide +kernel, rfl, by decide +kernel, by decide +kernel⟩
theorem ok_eq {f : Addr} {fd : FuncData} (D : Md K C "__eq__" "Figure.__eq__" tEq ["self", "other"] f fd) (TC : CFig K mg C) (T : Bt mg) : FnOk P w K mg base L2.CX0 1 f fd ["self", "other"] (NC.spEq P w C) := by
  refine D.F.ok scEq (fun vs H Q E h => ?_) (fun cdv A outer s H vs Q E hr h => ?_)
  · obtain ⟨x, y, es, rfl, _⟩ := h
    rfl
  · obtain ⟨x, y, es, rfl, f, g, k⟩ := h
    obtain ⟨dx, a, d, r, L, kvs, h1, h2, h3, h4, h5, h6, h7⟩ := f.ex
    obtain ⟨dy, b, d', r', M, kvs', g1, g2, g3, g4, g5, g6, g7⟩ := g.ex
    refine ⟨_, pss_one (ps_ret (pe_and (pe_callB call_isi (by rfl) T.isi (by decide +kernel) (pa_cons (pv 1) (pa_cons (pe_glob (v := .ref C) rfl TC.m rfl) pa_nil))) (pe_one (pe_cmpR (op_eqD hr.units) (pe_fld (pv 0) rfl) (pe_fld (pv 1) rfl) (nomark _))))), ?_⟩
    refine ⟨_, rfl, _, _, _, _, true, rfl, .own C, .base (.ins g1 TC.cl TC.ha TC.hn TC.tk TC.hm), TC.one, true, rfl, iteT ?_⟩
    refine ⟨_, rfl, x, C, dx, _, _, rfl, h1, TC.cl, TC.nE, ff_edges _ _ _, _, rfl, y, C, dy, _, _, rfl, g1, TC.cl, TC.nE, ff_edges _ _ _, _, _, EL.dpT (SqT.of h2) h3, EL.dpT (SqT.of g2) g3, shaped_tup edD_lay edD_depth _, shaped_tup edD_lay edD_depth _, ?_⟩
    rw [h4, g4, eds_eqv]
    exact k
def spIn (P : Program) (w : World) (C : Addr) : Sp := fun vs H Q _ => ∃ (x a : Addr) (e : Ed) (es : List Ed), vs = [.ref x, .ref a] ∧ FigAt P w C H x es ∧ EdA H a e ∧ okE e ∧ Q (.bl (decide (e ∈ es))) H
theorem scIn : FnScope ["self", "edge"] ["self", "edge"] (defScope tIn) := ⟨rfl, rfl, rfl, by decide +kernel, rfl, by decide +kernel, by decide +kernel⟩
theorem ok_in {f0 fG : Addr} {fd fdG : FuncData} (D : Md K C "__contains__" "Figure.__contains__" tIn ["self", "edge"] f0 fd) (TC : CFig K mg C) (DG : Dn K mg "is_edge" tEdge ["value"] fG fdG) (G : FnOk P w K mg base L2.CX0 4 fG fdG ["value"] spEdge) : FnOk P w K mg base L2.CX0 5 f0 fd ["self", "edge"] (spIn P w C) := by
  refine D.F.ok scIn (fun vs H Q E h => ?_) (fun cdv A outer s H vs Q E hr h => ?_)
  · obtain ⟨x, a, e, es, rfl, _⟩ := h
    rfl
  · obtain ⟨x, b, e, es, rfl, f, he, ok, k⟩ := h
    obtain ⟨dx, a, d, r, L, kvs, h1, h2, h3, h4, h5, h6, h7⟩ := f.ex
    have hu : (A.deeper (envOfC ("Figure.__contains__" : Str) (defScope tIn) s.heap.objs.size f0 cdv)).units + 65 < cLine := by have := hr.un; omega
    refine ⟨_, pss_one (ps_ret (pe_and (pe_call G hr rfl DG.m DG.F.kp DG.b .nil pass0 (pa_cons (pv 1) pa_nil)) (pe_one (pe_cmpR (op_inH hu) (pv 1) (pe_fld (pv 0) rfl) (by rfl))))), ?_⟩
    refine ⟨_, rfl, b, e, rfl, he, ok, true, rfl, iteT ?_⟩
    refine ⟨_, rfl, _, rfl, x, C, dx, _, _, rfl, h1, TC.cl, TC.nH, ff_held _ _ _, b, e, d, L, rfl, he, rfl, h5, h3, ?_⟩
    rw [h4]
    exact k

/-! ### the operators -/
theorem rf_flt_snoc {β : Type} {L : List (Addr × β)} {i : Nat} {q : Addr × β} (h : L[i]? = some q) (p : Addr × β → Bool) : rf ((L.take (i + 1)).filter p) = rf ((L.take i).filter p) ++ (if p q = true then [V.ref q.1] else []) := by
  rw [List.take_add_one, h]
  simp only [Option.toList, List.filter_append, List.filter_cons, List.filter_nil]
  unfold rf
  rw [List.map_append]
  by_cases hp : p q = true <;> simp [hp]
theorem eds_flt (L : List (Addr × Ed)) (f : Ed → Bool) : eds (L.filter fun q => f q.2) = (eds L).filter f := by
  induction L with
  | nil => rfl
  | cons q L ih =>
    simp only [List.filter_cons, eds, List.map_cons]
    by_cases h : f q.2 = true
    · simp only [h, if_true, List.map_cons]
      rw [show List.map (·.2) (L.filter fun q => f q.2) = (L.map (·.2)).filter f from ih]
    · simp only [h, if_false]
      exact ih
theorem EL.flt {H : Hp} {L : List (Addr × Ed)} (h : EL H L) (p : Addr × Ed → Bool) : EL H (L.filter p) := fun q hq => h q (List.mem_filter.mp hq).1
theorem EL.both {H : Hp} {L M : List (Addr × Ed)} (h : EL H L) (g : EL H M) : EL H (L ++ M) := fun q hq => (List.mem_append.mp hq).elim (h q) (g q)
theorem rf_both (L M : List (Addr × Ed)) : rf L ++ rf M = rf (L ++ M) := by unfold rf; rw [List.map_append]
theorem eds_both (L M : List (Addr × Ed)) : eds (L ++ M) = eds L ++ eds M := List.map_append ..
/-- the walk of [edge for edge in t if edge in held]: D holds those that pass -/
theorem filt_pv {β : Type} {H1 : Hp} {D : Addr} {L : List (Addr × β)} (hD : H1 D = none) (p : Addr × β → Bool) {i : Nat} {q : Addr × β} {H' : Hp} (hq : L[i]? = some q) (s : Same H1 H') (h : H' D = some (.lst (rf ((L.take i).filter p)))) :
    (p q = true → Same H1 (upd H' D (.lst (rf ((L.take i).filter p) ++ [.ref q.1]))) ∧ upd H' D (.lst (rf ((L.take i).filter p) ++ [.ref q.1])) D = some (.lst (rf ((L.take (i + 1)).filter p)))) ∧
    (p q = false → Same H1 H' ∧ H' D = some (.lst (rf ((L.take (i + 1)).filter p)))) := by
  refine ⟨fun hp => ⟨s.up hD, ?_⟩, fun hp => ⟨s, ?_⟩⟩
  · rw [upd_same, rf_flt_snoc hq, if_pos hp]
  · rw [rf_flt_snoc hq, if_neg (by rw [hp]; decide), List.append_nil]
    exact h

theorem Put.m0 {a b c : List Ed} (x : Put 0 a b c) (e : Ed) : e ∈ c ↔ e ∈ a ∨ e ∈ b := by
  have q : decide (e ∈ c) = (decide (e ∈ a) || decide (e ∈ b)) := x.mem e
  by_cases h1 : e ∈ a <;> by_cases h2 : e ∈ b <;> simp_all
theorem Put.m1 {a b c : List Ed} (x : Put 1 a b c) (e : Ed) : e ∈ c ↔ e ∈ a ∧ e ∈ b := by
  have q : decide (e ∈ c) = (decide (e ∈ a) && decide (e ∈ b)) := x.mem e
  by_cases h1 : e ∈ a <;> by_cases h2 : e ∈ b <;> simp_all
theorem Put.m2 {a b c : List Ed} (x : Put 2 a b c) (e : Ed) : e ∈ c ↔ e ∈ a ∧ ¬ e ∈ b := by
  have q : decide (e ∈ c) = (decide (e ∈ a) && !decide (e ∈ b)) := x.mem e
  by_cases h1 : e ∈ a <;> by_cases h2 : e ∈ b <;> simp_all
theorem Put.m3 {a b c : List Ed} (x : Put 3 a b c) (e : Ed) : e ∈ c ↔ (e ∈ a ∧ ¬ e ∈ b) ∨ (e ∈ b ∧ ¬ e ∈ a) := by
  have q : decide (e ∈ c) = (decide (e ∈ a) != decide (e ∈ b)) := x.mem e
  by_cases h1 : e ∈ a <;> by_cases h2 : e ∈ b <;> simp_all

def spBin (P : Program) (w : World) (C : Addr) (k : Nat) : Sp := fun vs H Q _ => ∃ (x y : Addr) (es fs gs : List Ed), vs = [.ref x, .ref y] ∧ FigAt P w C H x es ∧ FigAt P w C H y fs ∧ Put k es fs gs ∧ es.length + fs.length ≤ 799 ∧ gs.length ≤ 400 ∧
  ∀ z H', Same H H' → FigAt P w C H' z gs → Q (.ref z) H'
theorem scOr : FnScope ["self", "other"] ["self", "other"] (defScope tOr) := ⟨rfl, rfl, rfl, by decide +kernel, rfl, by decide +kernel, by decide +kernel⟩
theorem ok_or {f0 fi fC : Addr} {fd fdi fdC : FuncData} (D : Md K C "__or__" "Figure.__or__" tOr ["self", "other"] f0 fd) (M : MkF P w K mg base C fi fdi) (DC : Dn K mg "check_figure" tCheckF ["value"] fC fdC) (T : Bt mg) : FnOk P w K mg base L2.CX0 8 f0 fd ["self", "other"] (spBin P w C 0) := by
  have TC := M.C
  have GC : FnOk P w K mg base L2.CX0 1 fC fdC ["value"] (spCheckF C) := ok_checkF DC TC.toClsF TC.m T
  refine D.F.ok scOr (fun vs H Q E h => ?_) (fun cdv A outer s H vs Q E hr h => ?_)
  · obtain ⟨x, y, es, fs, gs, rfl, _⟩ := h
    rfl
  · obtain ⟨x, y, es, fs, gs, rfl, f, g, pt, h7, h4, k⟩ := h
    obtain ⟨dx, a, d, r, L, kvs, f1, f2, f3, f4, f5, f6, f7⟩ := f.ex
    obtain ⟨dy, b, d', r', N, kvs', g1, g2, g3, g4, g5, g6, g7⟩ := g.ex
    refine ⟨_, pss_cons (ps_expr (pe_call GC (hr.mono (by decide)) rfl DC.m DC.F.kp DC.b .nil pass0 (pa_cons (pv 1) pa_nil)))
      (pss_one (ps_ret (pe_make M.M M.G hr rfl TC.m M.b .nil pass0 (pa_cons (pe_op op_cat (pe_callTy call_list_of (by rfl) T.list (by decide +kernel) (pa_cons (pe_fld (pv 0) rfl) pa_nil)) (pe_callTy call_list_of (by rfl) T.list (by decide +kernel) (pa_cons (pe_fld (pv 1) rfl) pa_nil))) pa_nil)))), ?_⟩
    refine ⟨_, rfl, y, dy, _, rfl, g1, ?_⟩
    refine ⟨_, rfl, x, C, dx, _, _, rfl, f1, TC.cl, TC.nE, ff_edges _ _ _, a, _, rfl, .inr (SqT.of f2), fun l1 hl1 => ?_⟩
    have s1 : Same H (upd H l1 (.lst (rf L))) := Same.at_ hl1
    refine ⟨_, rfl, y, C, dy, _, _, rfl, s1 _ _ g1, TC.cl, TC.nE, ff_edges _ _ _, b, _, rfl, .inr (SqT.of (s1 _ _ g2)), fun l2 hl2 => ?_⟩
    have n12 : l1 ≠ l2 := ne_of_none (upd_same (H := H) (a := l1) (o := .lst (rf L))) hl2
    have s2 : Same H (upd (upd H l1 (.lst (rf L))) l2 (.lst (rf N))) := s1.up (s1.free hl2)
    have lenL : L.length = es.length := by rw [← f4, List.length_map]
    have lenN : N.length = fs.length := by rw [← g4, List.length_map]
    refine ⟨l1, l2, _, _, rfl, rfl, (by rw [upd_ne n12]; exact upd_same), upd_same, (by rw [rf_len, rf_len, sizeLine_eq]; omega), fun p hp => ?_⟩
    have s3 := s2.up (s2.free hp) (o := .lst (rf L ++ rf N))
    refine mk_read (L := L ++ N) (es := gs) (by rw [← rf_both]; exact upd_same) (s3.el (f3.both g3)) (fun e he => ?_) (by rw [List.length_append]; omega) pt.ss (fun e => ?_) h4 fun z H' s4 fz => k z H' (s3.trans s4) fz
    · rw [eds_both, f4, g4] at he
      exact (List.mem_append.mp he).elim (f.ok e) (g.ok e)
    · rw [eds_both, f4, g4, List.mem_append]
      exact pt.m0 e
theorem scAnd : FnScope ["self", "other", "edge"] ["self", "other"] (defScope tAnd) := ⟨rfl, rfl, rfl, by decide +kernel, rfl, by decide +kernel, by decide +kernel⟩
theorem ok_and {f0 fi fC : Addr} {fd fdi fdC : FuncData} (D : Md K C "__and__" "Figure.__and__" tAnd ["self", "other"] f0 fd) (M : MkF P w K mg base C fi fdi) (DC : Dn K mg "check_figure" tCheckF ["value"] fC fdC) (T : Bt mg) : FnOk P w K mg base L2.CX0 8 f0 fd ["self", "other"] (spBin P w C 1) := by
  have TC := M.C
  have GC : FnOk P w K mg base L2.CX0 1 fC fdC ["value"] (spCheckF C) := ok_checkF DC TC.toClsF TC.m T
  refine D.F.ok scAnd (fun vs H Q E h => ?_) (fun cdv A outer s H vs Q E hr h => ?_)
  · obtain ⟨x, y, es, fs, gs, rfl, _⟩ := h
    rfl
  · obtain ⟨x, y, es, fs, gs, rfl, f, g, pt, h7, h4, k⟩ := h
    obtain ⟨dx, a, d, r, L, kvs, f1, f2, f3, f4, f5, f6, f7⟩ := f.ex
    obtain ⟨dy, b, d', r', N, kvs', g1, g2, g3, g4, g5, g6, g7⟩ := g.ex
    have hu : (A.deeper (envOfC ("Figure.__and__" : Str) (defScope tAnd) s.heap.objs.size f0 cdv)).units + 65 < cLine := by have := hr.un; omega
    refine ⟨_, pss_cons (ps_expr (pe_call GC (hr.mono (by decide)) rfl DC.m DC.F.kp DC.b .nil pass0 (pa_cons (pv 1) pa_nil)))
      (pss_one (ps_ret (pe_make M.M M.G hr rfl TC.m M.b .nil pass0 (pa_cons (pe_lc (own := [("edge", 2)]) (g := gName 2) (tt := tTest (tOp (rInH P w false) (tVar 2) (tFld K (tVar 1) "held"))) rfl scAnd.nd (pi_tup (pe_fld (pv 0) rfl)) (blkOk_by (N := ["self", "other", "edge"]) (sc := defScope tAnd) (by decide +kernel))
        (fun _ _ _ _ _ => pg_name (i := 2) scAnd.nd rfl (Or.inl rfl)) (fun _ _ _ _ _ => pts_one (pt_cmpR (op_inH hu) (pv 2) (pe_fld (pv 1) (by rfl)) (by rfl))) (fun _ _ _ _ _ => pv 2)) pa_nil)))), ?_⟩
    refine ⟨_, rfl, y, dy, _, rfl, g1, ?_⟩
    have lenL : L.length = es.length := by rw [← f4, List.length_map]
    refine ⟨_, rfl, x, C, dx, _, _, rfl, f1, TC.cl, TC.nE, ff_edges _ _ _, a, rfl, ⟨_, SqT.of f2⟩, fun R hR => lc_tup (K := K) (a := a) (xs := rf L) (fun i H' => Same H H' ∧ H' R = some (.lst (rf ((L.take i).filter fun q => decide (q.2 ∈ fs))))) ⟨Same.at_ hR, upd_same⟩ (fun i H' _ z => SqT.of (z.1 _ _ f2)) ?_ ?_⟩
    · rintro i v H' hv ⟨s1, hd⟩
      obtain ⟨q, hq, rfl⟩ := rf_get hv
      obtain ⟨p1, p2⟩ := filt_pv hR (fun q => decide (q.2 ∈ fs)) hq s1 hd
      refine ⟨rfl, _, rfl, _, rfl, y, C, dy, _, _, rfl, s1 _ _ g1, TC.cl, TC.nH, ff_held _ _ _, q.1, q.2, d', N, rfl, s1.ed (f3 q (List.mem_of_getElem? hq)), rfl, s1 _ _ g5, s1.el g3, _, rfl, ?_⟩
      rw [g4]
      refine ite2 (fun hc => ⟨_, rfl, _, hd, ?_, p1 hc⟩) (fun hc => p2 (Bool.eq_false_iff.mpr hc))
      rw [rf_len, sizeLine_eq]
      have := List.length_filter_le (fun q : Addr × Ed => decide (q.2 ∈ fs)) (L.take i)
      rw [List.length_take] at this
      have := f.few
      omega
    · rintro H' ⟨s1, hd⟩
      have hl : (rf L).length = L.length := rf_len L
      rw [hl, List.take_length] at hd
      have hsub : ∀ e, e ∈ eds (L.filter fun q => decide (q.2 ∈ fs)) ↔ e ∈ es ∧ e ∈ fs := fun e => by
        rw [eds_flt L fun e => decide (e ∈ fs), f4, List.mem_filter]
        simp
      refine mk_read (L := L.filter fun q => decide (q.2 ∈ fs)) (es := gs) hd (s1.el (f3.flt _)) (fun e he => f.ok e ((hsub e).mp he).1) ?_ pt.ss (fun e => ?_) h4 fun z H2 s2 fz => k z H2 (s1.trans s2) fz
      · have := List.length_filter_le (fun q : Addr × Ed => decide (q.2 ∈ fs)) L
        omega
      · rw [hsub]
        exact pt.m1 e
theorem scSub : FnScope ["self", "other", "edge"] ["self", "other"] (defScope tSub) := ⟨rfl, rfl, rfl, by decide +kernel, rfl, by decide +kernel, by decide +kernel⟩
theorem ok_sub {f0 fi fC : Addr} {fd fdi fdC : FuncData} (D : Md K C "__sub__" "Figure.__sub__" tSub ["self", "other"] f0 fd) (M : MkF P w K mg base C fi fdi) (DC : Dn K mg "check_figure" tCheckF ["value"] fC fdC) (T : Bt mg) : FnOk P w K mg base L2.CX0 8 f0 fd ["self", "other"] (spBin P w C 2) := by
  have TC := M.C
  have GC : FnOk P w K mg base L2.CX0 1 fC fdC ["value"] (spCheckF C) := ok_checkF DC TC.toClsF TC.m T
  refine D.F.ok scSub (fun vs H Q E h => ?_) (fun cdv A outer s H vs Q E hr h => ?_)
  · obtain ⟨x, y, es, fs, gs, rfl, _⟩ := h
    rfl
  · obtain ⟨x, y, es, fs, gs, rfl, f, g, pt, h7, h4, k⟩ := h
    obtain ⟨dx, a, d, r, L, kvs, f1, f2, f3, f4, f5, f6, f7⟩ := f.ex
    obtain ⟨dy, b, d', r', N, kvs', g1, g2, g3, g4, g5, g6, g7⟩ := g.ex
    have hu : (A.deeper (envOfC ("Figure.__sub__" : Str) (defScope tSub) s.heap.objs.size f0 cdv)).units + 65 < cLine := by have := hr.un; omega
    refine ⟨_, pss_cons (ps_expr (pe_call GC (hr.mono (by decide)) rfl DC.m DC.F.kp DC.b .nil pass0 (pa_cons (pv 1) pa_nil)))
      (pss_one (ps_ret (pe_make M.M M.G hr rfl TC.m M.b .nil pass0 (pa_cons (pe_lc (own := [("edge", 2)]) (g := gName 2) (tt := tTest (tOp (rInH P w true) (tVar 2) (tFld K (tVar 1) "held"))) rfl scSub.nd (pi_tup (pe_fld (pv 0) rfl)) (blkOk_by (N := ["self", "other", "edge"]) (sc := defScope tSub) (by decide +kernel))
        (fun _ _ _ _ _ => pg_name (i := 2) scSub.nd rfl (Or.inl rfl)) (fun _ _ _ _ _ => pts_one (pt_cmpR (op_notInH hu) (pv 2) (pe_fld (pv 1) (by rfl)) (by rfl))) (fun _ _ _ _ _ => pv 2)) pa_nil)))), ?_⟩
    refine ⟨_, rfl, y, dy, _, rfl, g1, ?_⟩
    have lenL : L.length = es.length := by rw [← f4, List.length_map]
    refine ⟨_, rfl, x, C, dx, _, _, rfl, f1, TC.cl, TC.nE, ff_edges _ _ _, a, rfl, ⟨_, SqT.of f2⟩, fun R hR => lc_tup (K := K) (a := a) (xs := rf L) (fun i H' => Same H H' ∧ H' R = some (.lst (rf ((L.take i).filter fun q => !decide (q.2 ∈ fs))))) ⟨Same.at_ hR, upd_same⟩ (fun i H' _ z => SqT.of (z.1 _ _ f2)) ?_ ?_⟩
    · rintro i v H' hv ⟨s1, hd⟩
      obtain ⟨q, hq, rfl⟩ := rf_get hv
      obtain ⟨p1, p2⟩ := filt_pv hR (fun q => !decide (q.2 ∈ fs)) hq s1 hd
      refine ⟨rfl, _, rfl, _, rfl, y, C, dy, _, _, rfl, s1 _ _ g1, TC.cl, TC.nH, ff_held _ _ _, q.1, q.2, d', N, rfl, s1.ed (f3 q (List.mem_of_getElem? hq)), rfl, s1 _ _ g5, s1.el g3, _, rfl, ?_⟩
      rw [g4]
      refine ite2 (fun hc => ⟨_, rfl, _, hd, ?_, p1 hc⟩) (fun hc => p2 (Bool.eq_false_iff.mpr hc))
      rw [rf_len, sizeLine_eq]
      have := List.length_filter_le (fun q : Addr × Ed => !decide (q.2 ∈ fs)) (L.take i)
      rw [List.length_take] at this
      have := f.few
      omega
    · rintro H' ⟨s1, hd⟩
      have hl : (rf L).length = L.length := rf_len L
      rw [hl, List.take_length] at hd
      have hsub : ∀ e, e ∈ eds (L.filter fun q => !decide (q.2 ∈ fs)) ↔ e ∈ es ∧ ¬ e ∈ fs := fun e => by
        rw [eds_flt L fun e => !decide (e ∈ fs), f4, List.mem_filter]
        simp
      refine mk_read (L := L.filter fun q => !decide (q.2 ∈ fs)) (es := gs) hd (s1.el (f3.flt _)) (fun e he => f.ok e ((hsub e).mp he).1) ?_ pt.ss (fun e => ?_) h4 fun z H2 s2 fz => k z H2 (s1.trans s2) fz
      · have := List.length_filter_le (fun q : Addr × Ed => !decide (q.2 ∈ fs)) L
        omega
      · rw [hsub]
        exact pt.m2 e
end
end NC
/-! ^, points, odd_points. -/
namespace NC
open PySem PySem.Spec PyProof.Rows L2
section
variable {P : Program} {w : World} {K : PySem.W.Frag} {mg : Str → Option Value} {base : Heap} {C : Addr}
theorem scXor : FnScope ["self", "other", "found", "edge"] ["self", "other"] (defScope tXor) := ⟨rfl, rfl, rfl, by decide +kernel, rfl, by decide +kernel, by decide +kernel⟩
theorem ok_xor {f0 fi fC : Addr} {fd fdi fdC : FuncData} (D : Md K C "__xor__" "Figure.__xor__" tXor ["self", "other"] f0 fd) (M : MkF P w K mg base C fi fdi) (DC : Dn K mg "check_figure" tCheckF ["value"] fC fdC) (T : Bt mg) : FnOk P w K mg base L2.CX0 8 f0 fd ["self", "other"] (spBin P w C 3) := by
  have TC := M.C
  have GC : FnOk P w K mg base L2.CX0 1 fC fdC ["value"] (spCheckF C) := ok_checkF DC TC.toClsF TC.m T
  refine D.F.ok scXor (fun vs H Q E h => ?_) (fun cdv A outer s H vs Q E hr h => ?_)
  · obtain ⟨x, y, es, fs, gs, rfl, _⟩ := h
    rfl
  · obtain ⟨x, y, es, fs, gs, rfl, f, g, pt, h7, h4, k⟩ := h
    obtain ⟨dx, a, d, r, L, kvs, f1, f2, f3, f4, f5, f6, f7⟩ := f.ex
    obtain ⟨dy, b, d', r', N, kvs', g1, g2, g3, g4, g5, g6, g7⟩ := g.ex
    have hu : (A.deeper (envOfC ("Figure.__xor__" : Str) (defScope tXor) s.heap.objs.size f0 cdv)).units + 65 < cLine := by have := hr.un; omega
    have lenL : L.length = es.length := by rw [← f4, List.length_map]
    have lenN : N.length = fs.length := by rw [← g4, List.length_map]
    refine ⟨_, pss_cons (ps_expr (pe_call GC (hr.mono (by decide)) rfl DC.m DC.F.kp DC.b .nil pass0 (pa_cons (pv 1) pa_nil)))
      (pss_cons (ps_setLc (i := 2) (own := [("edge", 3)]) (g := gName 3) (tt := tTest (tOp (rInH P w true) (tVar 3) (tFld K (tVar 1) "held"))) rfl scXor.nd rfl rfl (sw_true rfl rfl rfl (by decide +kernel)) (pi_tup (pe_fld (pv 0) rfl)) (blkOk_by (N := ["self", "other", "found", "edge"]) (sc := defScope tXor) (by decide +kernel))
        (fun _ _ _ _ _ => pg_name (i := 3) scXor.nd rfl (Or.inl rfl)) (fun _ _ _ _ _ => pts_one (pt_cmpR (op_notInH hu) (pv 3) (pe_fld (pv 1) (by rfl)) (by rfl))) (fun _ _ _ _ _ => pv 3))
      (pss_one (ps_ret (pe_make M.M M.G hr rfl TC.m M.b .nil pass0 (pa_cons (pe_op op_cat (pv 2) (pe_lc (own := [("edge", 3)]) (g := gName 3) (tt := tTest (tOp (rInH P w true) (tVar 3) (tFld K (tVar 0) "held"))) rfl scXor.nd (pi_tup (pe_fld (pv 1) rfl)) (blkOk_by (N := ["self", "other", "found", "edge"]) (sc := defScope tXor) (by decide +kernel))
        (fun _ _ _ _ _ => pg_name (i := 3) scXor.nd rfl (Or.inl rfl)) (fun _ _ _ _ _ => pts_one (pt_cmpR (op_notInH hu) (pv 3) (pe_fld (pv 0) (by rfl)) (by rfl))) (fun _ _ _ _ _ => pv 3))) pa_nil))))), ?_⟩
    refine ⟨_, rfl, y, dy, _, rfl, g1, ?_⟩
    -- found
    refine ⟨_, rfl, x, C, dx, _, _, rfl, f1, TC.cl, TC.nE, ff_edges _ _ _, a, rfl, ⟨_, SqT.of f2⟩, fun R hR => lc_tup (K := K) (a := a) (xs := rf L) (fun i H' => Same H H' ∧ H' R = some (.lst (rf ((L.take i).filter fun q => !decide (q.2 ∈ fs))))) ⟨Same.at_ hR, upd_same⟩ (fun i H' _ z => SqT.of (z.1 _ _ f2)) ?_ ?_⟩
    · rintro i v H' hv ⟨s1, hd⟩
      obtain ⟨q, hq, rfl⟩ := rf_get hv
      obtain ⟨p1, p2⟩ := filt_pv hR (fun q => !decide (q.2 ∈ fs)) hq s1 hd
      refine ⟨rfl, _, rfl, _, rfl, y, C, dy, _, _, rfl, s1 _ _ g1, TC.cl, TC.nH, ff_held _ _ _, q.1, q.2, d', N, rfl, s1.ed (f3 q (List.mem_of_getElem? hq)), rfl, s1 _ _ g5, s1.el g3, _, rfl, ?_⟩
      rw [g4]
      refine ite2 (fun hc => ⟨_, rfl, _, hd, ?_, p1 hc⟩) (fun hc => p2 (Bool.eq_false_iff.mpr hc))
      rw [rf_len, sizeLine_eq]
      have := List.length_filter_le (fun q : Addr × Ed => !decide (q.2 ∈ fs)) (L.take i)
      rw [List.length_take] at this
      omega
    rintro H1 ⟨s1, hd1⟩
    rw [rf_len L, List.take_length] at hd1
    refine ⟨_, rfl, _, rfl, y, C, dy, _, _, rfl, s1 _ _ g1, TC.cl, TC.nE, ff_edges _ _ _, b, rfl, ⟨_, SqT.of (s1 _ _ g2)⟩, fun S hS => lc_tup (K := K) (a := b) (xs := rf N) (fun i H' => Same H1 H' ∧ H' S = some (.lst (rf ((N.take i).filter fun q => !decide (q.2 ∈ es))))) ⟨Same.at_ hS, upd_same⟩ (fun i H' _ z => SqT.of (z.1 _ _ (s1 _ _ g2))) ?_ ?_⟩
    · rintro i v H' hv ⟨s2, hd⟩
      obtain ⟨q, hq, rfl⟩ := rf_get hv
      obtain ⟨p1, p2⟩ := filt_pv hS (fun q => !decide (q.2 ∈ es)) hq s2 hd
      have s12 := s1.trans s2
      refine ⟨rfl, _, rfl, _, rfl, x, C, dx, _, _, rfl, s12 _ _ f1, TC.cl, TC.nH, ff_held _ _ _, q.1, q.2, d, L, rfl, s12.ed (g3 q (List.mem_of_getElem? hq)), rfl, s12 _ _ f5, s12.el f3, _, rfl, ?_⟩
      rw [f4]
      refine ite2 (fun hc => ⟨_, rfl, _, hd, ?_, p1 hc⟩) (fun hc => p2 (Bool.eq_false_iff.mpr hc))
      rw [rf_len, sizeLine_eq]
      have := List.length_filter_le (fun q : Addr × Ed => !decide (q.2 ∈ es)) (N.take i)
      rw [List.length_take] at this
      omega
    rintro H2 ⟨s2, hd2⟩
    rw [rf_len N, List.take_length] at hd2
    have s12 := s1.trans s2
    have n1 := List.length_filter_le (fun q : Addr × Ed => !decide (q.2 ∈ fs)) L
    have n2 := List.length_filter_le (fun q : Addr × Ed => !decide (q.2 ∈ es)) N
    refine ⟨_, _, _, _, rfl, rfl, s2 _ _ hd1, hd2, (by rw [rf_len, rf_len, sizeLine_eq]; omega), fun p hp => ?_⟩
    have s3 := s12.up (s12.free hp) (o := .lst (rf (L.filter fun q => !decide (q.2 ∈ fs)) ++ rf (N.filter fun q => !decide (q.2 ∈ es))))
    have m1 : ∀ e, e ∈ eds (L.filter fun q => !decide (q.2 ∈ fs)) ↔ e ∈ es ∧ ¬ e ∈ fs := fun e => by
      rw [eds_flt L fun e => !decide (e ∈ fs), f4, List.mem_filter]
      simp
    have m2 : ∀ e, e ∈ eds (N.filter fun q => !decide (q.2 ∈ es)) ↔ e ∈ fs ∧ ¬ e ∈ es := fun e => by
      rw [eds_flt N fun e => !decide (e ∈ es), g4, List.mem_filter]
      simp
    refine mk_read (L := (L.filter fun q => !decide (q.2 ∈ fs)) ++ N.filter fun q => !decide (q.2 ∈ es)) (es := gs) (by rw [← rf_both]; exact upd_same) (s3.el ((f3.flt _).both (g3.flt _))) (fun e he => ?_) (by rw [List.length_append]; omega) pt.ss (fun e => ?_) h4 fun z H' s4 fz => k z H' (s3.trans s4) fz
    · rw [eds_both] at he
      rcases List.mem_append.mp he with he | he
      · exact f.ok e ((m1 e).mp he).1
      · exact g.ok e ((m2 e).mp he).1
    · rw [eds_both, List.mem_append, m1, m2]
      exact pt.m3 e

/-! ### points, odd_points -/
theorem pts_len {es : List Ed} {ps : List Pt} (nd : ps.Nodup) (h : ∀ p ∈ ps, ptsOf es p) : ps.length ≤ 2 * es.length := by
  have h1 := nodup_len (m := es.map (·.1) ++ es.map (·.2)) nd fun p hp => by
    obtain ⟨e, he, h⟩ := h p hp
    rcases h with rfl | rfl
    · exact List.mem_append_left _ (List.mem_map_of_mem he)
    · exact List.mem_append_right _ (List.mem_map_of_mem he)
  rw [List.length_append, List.length_map, List.length_map] at h1
  omega
def spPts (P : Program) (w : World) (C : Addr) : Sp := fun vs H Q _ => ∃ (x : Addr) (es : List Ed), vs = [.ref x] ∧ FigAt P w C H x es ∧
  ∀ t M H', Same H H' → H' t = some (.tup (rf M)) → PL H' M → SP (pts M) → (∀ p, p ∈ pts M ↔ ptsOf es p) → M.length ≤ 800 → Q (.ref t) H'
theorem scPts : FnScope ["self"] ["self"] (defScope tPts) := ⟨rfl, rfl, rfl, by decide +kernel, rfl, by decide +kernel, by decide +kernel⟩
theorem ok_pts {f0 : Addr} {fd : FuncData} (D : Md K C "points" "Figure.points" tPts ["self"] f0 fd) (TC : CFig K mg C) (T : Bt mg) : FnOk P w K mg base L2.CX0 1 f0 fd ["self"] (spPts P w C) := by
  refine D.F.ok scPts (fun vs H Q E h => ?_) (fun cdv A outer s H vs Q E hr h => ?_)
  · obtain ⟨x, es, rfl, _⟩ := h
    rfl
  · obtain ⟨x, es, rfl, f, k⟩ := h
    obtain ⟨dx, a, d, r, L, kvs, f1, f2, f3, f4, f5, f6, f7⟩ := f.ex
    obtain ⟨ps, a1, a2, a3, a4⟩ := f7.ex
    have hu : (A.deeper (envOfC ("Figure.points" : Str) (defScope tPts) s.heap.objs.size f0 cdv)).units + 64 < cLine := by have := hr.un; omega
    refine ⟨_, pss_one (ps_ret (pe_callTy call_tuple_of (by rfl) T.tuple (by decide +kernel) (pa_cons (pe_callB (call_sortDT rfl hu) (by rfl) T.sorted (by decide +kernel) (pa_cons (pe_fld (pv 0) rfl) pa_nil)) pa_nil))), ?_⟩
    refine ⟨_, rfl, x, C, dx, _, _, rfl, f1, TC.cl, TC.nA, ff_around _ _ _, r, kvs, ps, rfl, f6, a1, fun p M hM pm pw hp => ?_⟩
    have s1 : Same H (upd H p (.lst (rf M))) := Same.at_ hp
    refine ⟨p, _, rfl, .inl ⟨SqL.of upd_same, fun t ht => ?_⟩⟩
    have s2 := s1.up (s1.free ht) (o := .tup (rf M))
    have nd : (pts M).Nodup := pm.nodup_iff.mpr a2
    have hiff : ∀ q, q ∈ pts M ↔ ptsOf es q := fun q => by rw [pm.mem_iff, a3]
    have hl := pts_len nd fun q hq => (hiff q).mp hq
    rw [List.length_map] at hl
    have := f.few
    exact k t M _ s2 upd_same (fun q hq => s2.pt (hM q hq)) (rising_of nd ltP_tri pw) hiff (by omega)
def spOdd (P : Program) (w : World) (C : Addr) : Sp := fun vs H Q _ => ∃ (x : Addr) (es : List Ed), vs = [.ref x] ∧ FigAt P w C H x es ∧
  ∀ t M H', Same H H' → H' t = some (.tup (rf M)) → PL H' M → SP (pts M) → (∀ p, p ∈ pts M ↔ (ptsOf es p ∧ deg es p % 2 = 1)) → Q (.ref t) H'
theorem scOdd : FnScope ["self", "point"] ["self"] (defScope tOdd) := ⟨rfl, rfl, rfl, by decide +kernel, rfl, by decide +kernel, by decide +kernel⟩
theorem ok_odd {f0 fP : Addr} {fd fdP : FuncData} (D : Md K C "odd_points" "Figure.odd_points" tOdd ["self"] f0 fd) (DP : Md K C "points" "Figure.points" tPts ["self"] fP fdP) (TC : CFig K mg C) (T : Bt mg) : FnOk P w K mg base L2.CX0 2 f0 fd ["self"] (spOdd P w C) := by
  have GP : FnOk P w K mg base L2.CX0 1 fP fdP ["self"] (spPts P w C) := ok_pts DP TC T
  refine D.F.ok scOdd (fun vs H Q E h => ?_) (fun cdv A outer s H vs Q E hr h => ?_)
  · obtain ⟨x, es, rfl, _⟩ := h
    rfl
  · obtain ⟨x, es, rfl, f, k⟩ := h
    have hu : (A.deeper (envOfC ("Figure.odd_points" : Str) (defScope tOdd) s.heap.objs.size f0 cdv)).units + 1 < cLine := by have := hr.un; omega
    refine ⟨_, pss_one (ps_ret (pe_callTy call_tuple_of (by rfl) T.tuple (by decide +kernel) (pa_cons (pe_lc (own := [("point", 1)]) (g := gName 1) (tt := tTest (tOp rEq (tOp (rI (fun _ j => 0 < j) fun i j => .int (i % j)) (tCB (fun xs H Q => ∃ i : Str, xs = [.str i] ∧ i.length ≤ sizeLine ∧ Q (.int i.length) H) (tCons (tDGet (tFld K (tVar 0) "around") (tVar 1)) tNil)) (tC (.int 2))) (tC (.int 1))))
      rfl scOdd.nd (pi_tup (pe_meth0 (pv 0) TC.cl DP.mt GP hr DP.b .nil pass0)) (blkOk_by (N := ["self", "point"]) (sc := defScope tOdd) (by decide +kernel))
        (fun _ _ _ _ _ => pg_name (i := 1) scOdd.nd rfl (Or.inl rfl)) (fun _ _ _ _ _ => pts_one (pt_cmpR op_eq (pe_op op_mod (pe_callB call_len_str (by rfl) T.len PySem.boot_len (pa_cons (pe_dget hu (pe_fld (pv 0) (by rfl)) (pv 1) (fun _ _ => rfl)) pa_nil)) pe_int) pe_int (nomark _))) (fun _ _ _ _ _ => pv 1)) pa_nil))), ?_⟩
    obtain ⟨dx, a, d, r, L, kvs, f1, f2, f3, f4, f5, f6, f7⟩ := id f.ex
    obtain ⟨ps, a1, a2, a3, a4⟩ := f7.ex
    refine ⟨_, rfl, x, dx, _, rfl, f1, ff_no _ _ _ (by decide +kernel) (by decide +kernel) (by decide +kernel), x, es, rfl, f, fun t M H1 s1 ht hM sp hiff hM8 => ⟨t, rfl, ⟨_, SqT.of ht⟩, fun R hR => ?_⟩⟩
    refine lc_tup (K := K) (a := t) (xs := rf M) (fun i H' => Same H1 H' ∧ H' R = some (.lst (rf ((M.take i).filter fun q => decide (deg es q.2 % 2 = 1))))) ⟨Same.at_ hR, upd_same⟩ (fun i H' _ z => SqT.of (z.1 _ _ ht)) ?_ ?_
    · rintro i v H' hv ⟨s2, hd⟩
      obtain ⟨q, hq, rfl⟩ := rf_get hv
      have hm := List.mem_of_getElem? hq
      obtain ⟨p1, p2⟩ := filt_pv hR (fun q => decide (deg es q.2 % 2 = 1)) hq s2 hd
      have s12 := s1.trans s2
      have hin : q.2 ∈ ps := (a3 _).mpr ((hiff _).mp (List.mem_map_of_mem hm))
      obtain ⟨z, hz, hzl⟩ := a4 _ hin
      have hg : DGet H' r (.ref q.1) (some (.str z)) := by
        rw [← hz]
        exact DGet.t (s12 _ _ f6) (s2.pt (hM q hm)).key
      have hz4 : z.length ≤ 4 := by
        rw [hzl, ← cnt4 f.ok]
        exact cnt_le _ _ 4
      refine ⟨rfl, _, rfl, x, C, dx, _, _, rfl, s12 _ _ f1, TC.cl, TC.nA, ff_around _ _ _, _, rfl, r, _, rfl, hg, z, rfl, (by rw [sizeLine_eq]; omega), _, _, rfl, rfl, (by show (0 : Int) < 2; decide), rfl, _, rfl, ?_⟩
      refine ite2 (fun hc => ⟨_, rfl, _, hd, ?_, p1 ?_⟩) (fun hc => p2 ?_)
      · rw [rf_len]
        refine Nat.lt_of_le_of_lt (List.length_filter_le _ _) ?_
        rw [List.length_take, sizeLine_eq]
        omega
      · have hc := of_decide_eq_true hc
        injection hc with hc
        refine decide_eq_true ?_
        show deg es q.2 % 2 = 1
        rw [hzl] at hc
        omega
      · refine decide_eq_false fun h => hc (decide_eq_true ?_)
        have h : deg es q.2 % 2 = 1 := h
        show V.int (((z.length : Nat) : Int) % 2) = V.int 1
        rw [hzl]
        congr 1
        omega
    · rintro H' ⟨s2, hd⟩
      rw [rf_len M, List.take_length] at hd
      refine ⟨R, _, rfl, .inl ⟨SqL.of hd, fun u hu' => ?_⟩⟩
      have s3 := (s1.trans s2).up ((s1.trans s2).free hu') (o := .tup (rf (M.filter fun q => decide (deg es q.2 % 2 = 1))))
      have e1 : pts (M.filter fun q => decide (deg es q.2 % 2 = 1)) = (pts M).filter fun p => decide (deg es p % 2 = 1) := by
        rw [pts, List.filter_map]
        rfl
      refine k u _ _ s3 upd_same (fun q hq => (s2.up (s2.free hu')).pt (hM q (List.mem_filter.mp hq).1)) ?_ fun p => ?_
      · rw [e1]
        exact List.Pairwise.filter _ sp
      · rw [e1, List.mem_filter, hiff]
        simp
end
end NC
/-! Sets of edges as rising lists: they exist; sizes. -/
namespace NC
theorem ss_insert {gs : List Ed} (h : SS gs) (e : Ed) : ∃ hs, SS hs ∧ ∀ f, f ∈ hs ↔ (f = e ∨ f ∈ gs) := by
  by_cases he : e ∈ gs
  · exact ⟨gs, h, fun f => ⟨.inr, fun z => z.elim (fun z => z ▸ he) id⟩⟩
  · refine ⟨gs.filter (fun f => decide (ltE f e)) ++ e :: gs.filter (fun f => decide (ltE e f)), ?_, fun f => ?_⟩
    · refine List.pairwise_append.mpr ⟨h.filter _, List.pairwise_cons.mpr ⟨fun f hf => ?_, h.filter _⟩, fun a ha b hb => ?_⟩
      · exact of_decide_eq_true (List.mem_filter.mp hf).2
      · have h1 := of_decide_eq_true (List.mem_filter.mp ha).2
        rcases List.mem_cons.mp hb with rfl | hb
        · exact h1
        · exact ltE_tr h1 (of_decide_eq_true (List.mem_filter.mp hb).2)
    · simp only [List.mem_append, List.mem_cons, List.mem_filter, decide_eq_true_eq]
      constructor
      · rintro (⟨g, _⟩ | g | ⟨g, _⟩)
        · exact .inr g
        · exact .inl g
        · exact .inr g
      · rintro (g | g)
        · exact .inr (.inl g)
        · rcases ltE_tri f e with t | t | t
          · exact .inl ⟨g, t⟩
          · exact .inr (.inl t)
          · exact .inr (.inr ⟨g, t⟩)
theorem ss_of : ∀ l : List Ed, ∃ gs, SS gs ∧ ∀ e, e ∈ gs ↔ e ∈ l
  | [] => ⟨[], List.Pairwise.nil, fun _ => Iff.rfl⟩
  | e :: l => by
    obtain ⟨gs, h, m⟩ := ss_of l
    obtain ⟨hs, h', m'⟩ := ss_insert h e
    exact ⟨hs, h', fun f => by rw [m', m, List.mem_cons]⟩
theorem Turned.ex (k : Bool) (es : List Ed) : ∃ gs, Turned k es gs := by
  obtain ⟨gs, h, m⟩ := ss_of (es.map (tE k))
  refine ⟨gs, h, fun e => ?_⟩
  rw [m, List.mem_map]
  constructor
  · rintro ⟨f, hf, h⟩
    exact ⟨f, hf, h.symm⟩
  · rintro ⟨f, hf, h⟩
    exact ⟨f, hf, h.symm⟩
theorem Shifted.ex (dx dy : Int) (es : List Ed) : ∃ gs, Shifted dx dy es gs := by
  obtain ⟨gs, h, m⟩ := ss_of (es.map (sE dx dy))
  refine ⟨gs, h, fun e => ?_⟩
  rw [m, List.mem_map]
  constructor
  · rintro ⟨f, hf, h⟩
    exact ⟨f, hf, h.symm⟩
  · rintro ⟨f, hf, h⟩
    exact ⟨f, hf, h.symm⟩
theorem Put.exists_ (k : Nat) (a b : List Ed) : ∃ c, Put k a b c := by
  obtain ⟨gs, h, m⟩ := ss_of ((a ++ b).filter fun e => putOp k (decide (e ∈ a)) (decide (e ∈ b)))
  refine ⟨gs, h, fun e => ?_⟩
  have no : ¬ e ∈ a → ¬ e ∈ b → putOp k (decide (e ∈ a)) (decide (e ∈ b)) = false := fun h1 h2 => by
    rw [decide_eq_false h1, decide_eq_false h2]
    unfold putOp
    split <;> rfl
  have q : e ∈ gs ↔ putOp k (decide (e ∈ a)) (decide (e ∈ b)) = true := by
    rw [m, List.mem_filter, List.mem_append]
    constructor
    · exact fun h => h.2
    · intro h
      refine ⟨?_, h⟩
      by_cases h1 : e ∈ a
      · exact .inl h1
      · by_cases h2 : e ∈ b
        · exact .inr h2
        · rw [no h1 h2] at h
          cases h
  by_cases h1 : putOp k (decide (e ∈ a)) (decide (e ∈ b)) = true
  · rw [h1, decide_eq_true (q.mpr h1)]
  · rw [Bool.eq_false_iff.mpr h1, decide_eq_false fun z => h1 (q.mp z)]
theorem Turned.len {k : Bool} {es gs : List Ed} (t : Turned k es gs) : gs.length ≤ es.length := by
  have h := nodup_len (m := es.map (tE k)) t.ss.nodup fun e he => by
    obtain ⟨f, hf, h⟩ := (t.mem e).mp he
    exact List.mem_map.mpr ⟨f, hf, h.symm⟩
  rwa [List.length_map] at h
theorem Shifted.len {dx dy : Int} {es gs : List Ed} (t : Shifted dx dy es gs) : gs.length ≤ es.length := by
  have h := nodup_len (m := es.map (sE dx dy)) t.ss.nodup fun e he => by
    obtain ⟨f, hf, h⟩ := (t.mem e).mp he
    exact List.mem_map.mpr ⟨f, hf, h.symm⟩
  rwa [List.length_map] at h
end NC
/-! changed, by a lambda that stands in the heap. -/
namespace NC
open PySem PySem.Spec PyProof.Rows L2
abbrev tChg : Stmt := inClass cFig 13
section
variable {X : Cx}
theorem pe_lc1F {elt tg iter : Expr} {scope : Scope} {own : List (Str × Nat)} {pos : Pos} {wi : TI} {g : TG} {te : TE}
    (hc : X.calm = true) (hN : X.N.Nodup) (hi : PI X tg iter wi) (ok : BlkOk X.N X.env.scope scope own)
    (hg : ∀ (s : Shared) (H : Hp) (C : Addr) (cl : List (Str × Addr)) (fp : List Addr), PG (X.blk s H scope (compEnvC scope cl C X.env) fp) tg g)
    (he : ∀ (s : Shared) (H : Hp) (C : Addr) (cl : List (Str × Addr)) (fp : List Addr), Un X.fs X.ex X.H_0 H X.s_0.heap s.heap → (∀ b ∈ fp, b ∈ X.ex ∨ X.s_0.heap.objs.size ≤ b) → PE (X.blk s H scope (compEnvC scope cl C X.env) fp) elt te)
    (hs : ∀ x, foldedSetIterable iter X.env x = pure x := by intro _; rfl) :
    PE X (.ListComp elt [⟨tg, iter, [], 0⟩] scope pos) (tDcG wi g (fun _ => .lst []) (fun D => bApp te D) (own.map (·.2))) :=
  pe_lcF (emit := fun env D => emitApp env elt D) hc hN hi ok hg (fun s H C cl fp D u f => em_app rfl (he s H C cl fp u f)) (fun _ _ _ => rfl) hs
end

def NChg : List Str := ["self", "change", "one", "other"]
theorem scChg : FnScope ["self", "change", "one", "other"] ["self", "change"] (defScope tChg) := ⟨rfl, rfl, rfl, by decide +kernel, rfl, by decide +kernel, by decide +kernel⟩
/-- what changed is asked: the points' map fn -/
def Chg (P : Program) (w : World) (C : Addr) (fn : Pt → Pt) (a : Addr) (H : Hp) (Q : VK) : Prop := ∃ es gs, FigAt P w C H a es ∧ SS gs ∧ (∀ e, e ∈ gs ↔ ∃ f ∈ es, e = nrm (fn f.1) (fn f.2)) ∧ (∀ f ∈ es, okE (nrm (fn f.1) (fn f.2))) ∧ gs.length ≤ 400 ∧
  ∀ z H', Same H H' → FigAt P w C H' z gs → Q (.ref z) H'
section
variable {X : Cx} {C g fi fJ : Addr} {fd fdi fdJ : FuncData} {pins : List (Addr × Obj)} {σ : L2.St} {H : Hp} {s : Shared} {cl : List (Str × Addr)} {fr Nl : List Str} {ws : List (Option V)} {q pn : Str} {params : Arguments} {body : Expr} {scope : Scope} {f c' a : Addr} {tb : TE} {fn : Pt → Pt} {Q : VK}
theorem chg_call (D : Md X.K C "changed" "Figure.changed" tChg ["self", "change"] g fd) (M : MkF X.prog X.w X.K X.mg X.base C fi fdi) (DJ : Dn X.K X.mg "joined" tJoined ["one", "other"] fJ fdJ) (hr : Room 9 X.A)
    (S : NdefX.NScope Nl [pn] fr scope) (hbind : ∀ (pm ctv u : Value), bindArgs (PySem.W.kla_fn "<lambda>" q params body scope cl pm (.ref c') ctv) ⟨[u], []⟩ = pure [(pn, u)])
    (hb : ∀ (A : PySem.Around) (outer : List Env) (s : Shared) (H : Hp), PE (NdefX.ncx L2.CX0 X.prog X.w X.K X.mg X.base Nl (lamF q params scope cl c') f A outer s H L2.E0) body tb)
    (htb : ∀ (H : Hp) (p : Addr) (pt : Pt) (Q : VK), PtA H p pt → (∀ r H', Same H H' → PtA H' r (fn pt) → Q (.ref r) H') → tb (NdefX.startF Nl [.ref p] ws) H Q)
    (I : Inv X pins σ H s) (L : LamAt cl fr ws q params body scope f c' s.heap H) (hco : H c' = some (LamX.CodeO c' q)) (h : Chg X.prog X.w C fn a H Q) :
    wpAny (model X.prog X.w) X.A (call (.ref g) [.ref a, .ref f]) (EP X pins σ Q) X.xe s := by
  have TC := M.C
  have GJ : FnOk X.prog X.w X.K X.mg X.base L2.CX0 1 fJ fdJ ["one", "other"] spJoined := ok_joined DJ
  obtain ⟨oc, od, kV, doc, pm, an, cdv, ct, osl, hfd, lk, hcd⟩ := D.F.ex
  have bnd := D.b s [.ref a, .ref f] I.kIn rfl
  rw [List.append_nil, hfd] at bnd
  have rc : codeAny (model X.prog X.w) X.A (.call (.ref g) ⟨[.ref a, .ref f], []⟩) (CR L2.CX0 X.stack X.prog X.w H s Q L2.E0) s := by
    rw [hfd] at lk
    refine LamX.run_ofS (N := ["self", "change", "one", "other"]) (ps := ["self", "change"]) (us := [.ref a, .ref f]) (vs := [.ref a, .ref f]) lk hcd scChg hr I.env0 bnd (.cons rfl (.cons rfl .nil)) rfl fun hr' => ?_
    suffices hh : ∃ t, PSs (cxOf L2.CX0 X.prog X.w X.K X.mg X.base ["self", "change", "one", "other"] "Figure.changed" (defScope tChg) g cdv X.A X.stack s H L2.E0).nox (defBody tChg) t ∧ t { nx := fun _ H' => Q .non H', rt := Q } (L2.start ["self", "change", "one", "other"] [.ref a, .ref f]) H by
      obtain ⟨t, h1, h2⟩ := hh
      exact ⟨t, h1.nox, h2⟩
    have lowf : f < s.heap.objs.size := by
      obtain ⟨_, _, _, _, ho⟩ := L.ob
      exact Heap.lt_size ho
    have lowc : ∀ y c, cl.lookup y = some c → c < s.heap.objs.size := fun y c e => by
      obtain ⟨_, v, o, eo, _⟩ := L.cells.all y c e
      exact Heap.lt_size eo
    refine ⟨_, pss_one (ps_ret (pe_make M.M M.G (hr'.mono (by decide)) rfl TC.m M.b .nil pass0 (pa_cons (pe_lc1F (own := [("one", 2), ("other", 3)]) (g := gTup X.K 2 (gCons (gName 2) (gCons (gName 3) gNil)))
      (te := tCall spJoined [] L2.E0 (tCons (tLamCall 1 q f c' Nl ws (tVar 2) tb) (tCons (tLamCall 1 q f c' Nl ws (tVar 3) tb) tNil)))
      rfl scChg.nd (pi_tup (pe_fld (pv 0) rfl)) (blkOk_by (N := ["self", "change", "one", "other"]) (sc := defScope tChg) (by decide +kernel))
      (fun _ _ _ _ _ => pg_tup (by rfl) (pgs_cons (pg_name (i := 2) scChg.nd rfl (Or.inl rfl)) (pgs_cons (pg_name (i := 3) scChg.nd rfl (Or.inl rfl)) pgs_nil)))
      (fun s3 H3 C3 cl3 fp hun hfp => by
        have L3 := L.later hun (fun _ z => nomatch z)
        have hex : ∀ b ∈ fp, s3.heap.objs.size ≤ b ∨ (∀ y c, cl.lookup y = some c → c ≠ b) ∧ b ≠ f := fun b hb => by
          rcases hfp b hb with z | z
          · exact nomatch z
          · have z : s.heap.objs.size ≤ b := z
            exact .inr ⟨fun y c e h => absurd (lowc y c e) (Nat.not_lt.mpr (h ▸ z)), fun h => absurd lowf (Nat.not_lt.mpr (h ▸ z))⟩
        refine pe_call GJ (hr'.mono (by decide)) (by rfl) DJ.m DJ.F.kp DJ.b .nil pass0 (pa_cons ?_ (pa_cons ?_ pa_nil))
        · exact pe_lamCall (k := 1) S hbind (hr'.mono (by decide)) L3 hex (fun A outer s H _ => hb A outer s H) (pv 2) rfl (Or.inr (Or.inl rfl))
        · exact pe_lamCall (k := 1) S hbind (hr'.mono (by decide)) L3 hex (fun A outer s H _ => hb A outer s H) (pv 3) rfl (Or.inr (Or.inl rfl)))) pa_nil))), ?_⟩
    obtain ⟨es, gs, fa, ssg, mem, okg, h4, k⟩ := h
    obtain ⟨dx, t, d, r, N, kvs, f1, f2, f3, f4, f5, f6, f7⟩ := fa.ex
    refine ⟨_, rfl, a, C, dx, _, _, rfl, f1, TC.cl, TC.nE, ff_edges _ _ _, t, rfl, ⟨_, SqT.of f2⟩, fun R hR => ?_⟩
    refine loop_it walk_tup (fun i H' => Same H H' ∧ ∃ M, H' R = some (.lst (rf M)) ∧ EL H' M ∧ eds M = (es.take i).map fun e => nrm (fn e.1) (fn e.2)) ⟨Same.at_ hR, [], upd_same, (fun _ z => nomatch z), by simp⟩ (fun i H' _ z => SqT.of (z.1 _ _ f2)) ?_ ?_
    · rintro i v Ha Hb hi ⟨s1, N1, hd, elN, eN⟩ ⟨rfl, hv⟩
      obtain ⟨p, hp, rfl⟩ := rf_get hv
      obtain ⟨b, c, hpt, hb1, hc1⟩ := s1.ed (f3 p (List.mem_of_getElem? hp))
      have hpe : es[i]? = some p.2 := by rw [← f4, List.getElem?_map, hp]; rfl
      refine ⟨p.1, _, rfl, SqT.of hpt, rfl, .ref b, _, rfl, .ref c, _, rfl, rfl, rfl, ?_⟩
      refine ⟨rfl, _, rfl, s1 _ _ hco, htb _ b p.2.1 _ hb1 fun r1 H1 s2 hr1 => ⟨rfl, _, rfl, s2 _ _ (s1 _ _ hco), htb _ c p.2.2 _ (s2.pt hc1) fun r2 H2 s3 hr2 => ?_⟩⟩
      refine ⟨r1, r2, _, _, rfl, s3.pt hr1, hr2, fun r3 H3 s4 he => ?_⟩
      have s24 := (s2.trans s3).trans s4
      have hlen : N1.length ≤ 400 := by
        have e := congrArg List.length eN
        rw [List.length_map, List.length_map, List.length_take] at e
        have := fa.few
        omega
      refine ⟨rf N1, s24 _ _ hd, by rw [rf_len, sizeLine_eq]; omega, (s1.trans s24).up hR, N1 ++ [(r3, nrm (fn p.2.1) (fn p.2.2))], ?_, ?_, ?_⟩
      · rw [upd_same, ← rf_both]
        rfl
      · have tk : Tk H3 (upd H3 R (.lst (rf N1 ++ [.ref r3]))) := Tk.wr (s24 _ _ hd) fun _ z => nomatch z
        exact ((s24.el elN).tk tk).both fun y hy => by
          rw [List.mem_singleton] at hy
          subst hy
          exact he.tk tk
      · rw [eds_both, eN, List.take_add_one, hpe, List.map_append]
        rfl
    · rintro H' ⟨s1, N1, hd, elN, eN⟩
      have hn : (rf N).length = es.length := by rw [rf_len, ← f4, List.length_map]
      rw [hn, List.take_length] at eN
      have hm : ∀ e, e ∈ eds N1 ↔ ∃ f ∈ es, e = nrm (fn f.1) (fn f.2) := fun e => by
        rw [eN, List.mem_map]
        constructor
        · rintro ⟨f, hf, h⟩
          exact ⟨f, hf, h.symm⟩
        · rintro ⟨f, hf, h⟩
          exact ⟨f, hf, h.symm⟩
      refine mk_read (L := N1) (es := gs) hd elN (fun e he => ?_) ?_ ssg (fun e => by rw [mem, hm]) h4 fun z H2 s2 fz => k z H2 (s1.trans s2) fz
      · obtain ⟨f, hf, rfl⟩ := (hm e).mp he
        exact okg f hf
      · have e := congrArg List.length eN
        rw [List.length_map, List.length_map] at e
        have := fa.few
        omega
  refine wpAny_call (codeAny_mono rc fun r s' z => ?_)
  cases r with
  | error e => exact z.elim
  | ok fl => cases fl with
    | ret u => exact I.after z
    | _ => exact z.elim
end
end NC
/-! turned, mirrored, shifted: the lambdas' makers. -/
namespace NC
open PySem PySem.Spec PyProof.Rows L2
abbrev tShift : Stmt := inClass cFig 14
abbrev tTurn : Stmt := inClass cFig 15
abbrev tMirr : Stmt := inClass cFig 16
/-- a method that makes a lambda: its own code object c, whose table stands at q -/
structure MdL (K : PySem.W.Frag) (C : Addr) (m qual : Str) (st : Stmt) (ps : List Str) (c : Addr) (f : Addr) (fd : FuncData) : Prop where
  ex : ∃ (oc : Value) (od : Option Addr) (kV doc pm : Value) (an : Option Addr) (ct : Value) (osl : Array (Option Value)),
    fd = PySem.W.fnOf m qual (defArgs st) (defBody st) (defScope st) .none kV doc pm an (.ref c) ct ∧ K.lookup f = some ⟨oc, od, .func fd, osl⟩ ∧ PySem.W.codeIn K (.ref c) qual = true
  b : Binds K fd ps []
  mt : Meth K C m f
theorem MdL.ok {P : Program} {w : World} {K : PySem.W.Frag} {mg : Str → Option Value} {base : Heap} {C c f : Addr} {m qual : Str} {st : Stmt} {ps N : List Str} {fd : FuncData} {k : Nat} {sp : Sp} (D : MdL K C m qual st ps c f fd) (S : FnScope N ps (defScope st)) (len : ∀ vs H Q E, sp vs H Q E → vs.length = ps.length)
    (hbody : ∀ (A : PySem.Around) (outer : List Env) (s : Shared) (H : Hp) (vs : List V) (Q : VK) (E : XK), Room k (A.deeper (envOfC qual (defScope st) s.heap.objs.size f (.ref c))) → sp vs H Q E →
      ∃ t, PSs (cxOf L2.CX0 P w K mg base N qual (defScope st) f (.ref c) A outer s H E).nox (defBody st) t ∧ t { nx := fun _ H' => Q .non H', rt := Q } (L2.start N vs) H) : FnOk P w K mg base L2.CX0 (k + 1) f fd ps sp := by
  obtain ⟨oc, od, kV, doc, pm, an, ct, osl, rfl, lk, hcd⟩ := D.ex
  refine fn_of lk hcd S len fun A outer s H vs Q E hr hsp => ?_
  obtain ⟨t, h, q⟩ := hbody A outer s H vs Q E hr hsp
  exact ⟨t, h.nox, q⟩

section
variable {P : Program} {w : World} {K : PySem.W.Frag} {mg : Str → Option Value} {base : Heap} {C : Addr}
def spTurn (P : Program) (w : World) (C : Addr) (T : List (Addr × Str)) (k : Bool) : Sp := fun vs H Q _ => ∃ (x : Addr) (es gs : List Ed), vs = [.ref x] ∧ FigAt P w C H x es ∧ LamX.Tabs T H ∧ Turned k es gs ∧
  ∀ z H', LamX.ExtN H H' → LamX.Tabs T H' → FigAt P w C H' z gs → Q (.ref z) H'
theorem scTurn : FnScope ["self"] ["self"] (defScope tTurn) := ⟨rfl, rfl, rfl, by decide +kernel, rfl, by decide +kernel, by decide +kernel⟩
theorem turn_chg {H : Hp} {T : List (Addr × Str)} {k : Bool} {es gs : List Ed} {a : Addr} {Q : VK} (f : FigAt P w C H a es) (t : Turned k es gs) (hT : LamX.Tabs T H) (q : ∀ z H', Same H H' → LamX.Tabs T H' → FigAt P w C H' z gs → Q (.ref z) H') : Chg P w C (tP k) a H Q :=
  ⟨es, gs, f, t.ss, t.mem, fun e he => tE_ok (f.ok e he), Nat.le_trans t.len f.few, fun z H' s1 fz => q z H' s1 (hT.ext s1) fz⟩
theorem ok_turn {c tab f0 g fi fJ : Addr} {fd fdg fdi fdJ : FuncData} {T : List (Addr × Str)} (D : MdL K C "turned" "Figure.turned" tTurn ["self"] c f0 fd) (DC : Md K C "changed" "Figure.changed" tChg ["self", "change"] g fdg) (M : MkF P w K mg base C fi fdi) (DJ : Dn K mg "joined" tJoined ["one", "other"] fJ fdJ) (B : Bt mg)
    (TB : LamX.TabB base mg c tab) (hm : (tab, ("Figure.turned.<locals>." : Str) ++ "<lambda>") ∈ T) (hu : ∀ p ∈ T, p.1 = tab → p.2 = ("Figure.turned.<locals>." : Str) ++ "<lambda>") : FnOk P w K mg base L2.CX0 10 f0 fd ["self"] (spTurn P w C T false) := by
  have TC := M.C
  obtain ⟨tg, hg⟩ := B.great
  refine D.ok scTurn (fun vs H Q E h => ?_) (fun A outer s H vs Q E hr h => ?_)
  · obtain ⟨x, es, gs, rfl, _⟩ := h
    rfl
  · obtain ⟨x, es, gs, rfl, f, hT, t, k⟩ := h
    obtain ⟨dx, a, d, r, L, kvs, f1, f2, f3, f4, f5, f6, f7⟩ := id f.ex
    refine ⟨_, pss_one (ps_ret (pe_lamMeth (fr := []) (js := []) (T := T) (chg := fun _ a H Q => Chg P w C (tP false) a H Q) (pv 0) TC.cl DC.mt TB rfl hm hu (NdefX.ndef_free (sc := defScope tTurn) (fr := []) (by decide +kernel)) (fun _ z => nomatch z) rfl rfl
      (fun pins s σ H Q f c' a I L hco h => chg_call (Nl := ["point"]) (pn := "point") (tb := tTup (tCons (tOp (rI0 fun i j => .int (i - j)) (tC (.int 30)) (tOp (rIxT K) (tVar 0) (tC (.int 1)))) (tCons (tOp (rIxT K) (tVar 0) (tC (.int 0))) tNil)))
        DC M DJ hr (NdefX.nscope_by (by decide +kernel)) (fun _ _ _ => rfl)
        (fun A outer s H => pe_tup (pa_cons (pe_op op_sub (pe_glob (v := .int 30) (by rfl) hg ⟨_, rfl⟩) (pe_ix ix_tup (pv 0) pe_int (fun _ _ => rfl))) (pa_cons (pe_ix ix_tup (pv 0) pe_int (fun _ _ => rfl)) pa_nil)))
        (fun H p pt Q hp q => ?_) I L hco h))), ?_⟩
    · refine ⟨_, rfl, p, _, _, _, rfl, rfl, SqT.of hp, rfl, _, _, rfl, rfl, _, rfl, p, _, _, _, rfl, rfl, SqT.of hp, rfl, (by show 2 ≤ sizeLine; decide), fun r hr => q r _ (Same.at_ hr) ?_⟩
      exact upd_same
    · refine ⟨_, rfl, x, dx, _, rfl, f1, ff_no _ _ _ (by decide +kernel) (by decide +kernel) (by decide +kernel), hT, fun H2 e2 t2 => ?_⟩
      exact turn_chg (f.ext e2) t t2 fun z H' s1 th fz => k z H' (e2.trans (LamX.ExtN.of s1)) th fz
theorem scMirr : FnScope ["self"] ["self"] (defScope tMirr) := ⟨rfl, rfl, rfl, by decide +kernel, rfl, by decide +kernel, by decide +kernel⟩
theorem ok_mirr {c tab f0 g fi fJ : Addr} {fd fdg fdi fdJ : FuncData} {T : List (Addr × Str)} (D : MdL K C "mirrored" "Figure.mirrored" tMirr ["self"] c f0 fd) (DC : Md K C "changed" "Figure.changed" tChg ["self", "change"] g fdg) (M : MkF P w K mg base C fi fdi) (DJ : Dn K mg "joined" tJoined ["one", "other"] fJ fdJ) (B : Bt mg)
    (TB : LamX.TabB base mg c tab) (hm : (tab, ("Figure.mirrored.<locals>." : Str) ++ "<lambda>") ∈ T) (hu : ∀ p ∈ T, p.1 = tab → p.2 = ("Figure.mirrored.<locals>." : Str) ++ "<lambda>") : FnOk P w K mg base L2.CX0 10 f0 fd ["self"] (spTurn P w C T true) := by
  have TC := M.C
  obtain ⟨tg, hg⟩ := B.great
  refine D.ok scMirr (fun vs H Q E h => ?_) (fun A outer s H vs Q E hr h => ?_)
  · obtain ⟨x, es, gs, rfl, _⟩ := h
    rfl
  · obtain ⟨x, es, gs, rfl, f, hT, t, k⟩ := h
    obtain ⟨dx, a, d, r, L, kvs, f1, f2, f3, f4, f5, f6, f7⟩ := id f.ex
    refine ⟨_, pss_one (ps_ret (pe_lamMeth (fr := []) (js := []) (T := T) (chg := fun _ a H Q => Chg P w C (tP true) a H Q) (pv 0) TC.cl DC.mt TB rfl hm hu (NdefX.ndef_free (sc := defScope tMirr) (fr := []) (by decide +kernel)) (fun _ z => nomatch z) rfl rfl
      (fun pins s σ H Q f c' a I L hco h => chg_call (Nl := ["point"]) (pn := "point") (tb := tTup (tCons (tOp (rI0 fun i j => .int (i - j)) (tC (.int 30)) (tOp (rIxT K) (tVar 0) (tC (.int 0)))) (tCons (tOp (rIxT K) (tVar 0) (tC (.int 1))) tNil)))
        DC M DJ hr (NdefX.nscope_by (by decide +kernel)) (fun _ _ _ => rfl)
        (fun A outer s H => pe_tup (pa_cons (pe_op op_sub (pe_glob (v := .int 30) (by rfl) hg ⟨_, rfl⟩) (pe_ix ix_tup (pv 0) pe_int (fun _ _ => rfl))) (pa_cons (pe_ix ix_tup (pv 0) pe_int (fun _ _ => rfl)) pa_nil)))
        (fun H p pt Q hp q => ?_) I L hco h))), ?_⟩
    · refine ⟨_, rfl, p, _, _, _, rfl, rfl, SqT.of hp, rfl, _, _, rfl, rfl, _, rfl, p, _, _, _, rfl, rfl, SqT.of hp, rfl, (by show 2 ≤ sizeLine; decide), fun r hr => q r _ (Same.at_ hr) ?_⟩
      exact upd_same
    · refine ⟨_, rfl, x, dx, _, rfl, f1, ff_no _ _ _ (by decide +kernel) (by decide +kernel) (by decide +kernel), hT, fun H2 e2 t2 => ?_⟩
      exact turn_chg (f.ext e2) t t2 fun z H' s1 th fz => k z H' (e2.trans (LamX.ExtN.of s1)) th fz
/-! ### shifted -/
def spShift (P : Program) (w : World) (C : Addr) (T : List (Addr × Str)) : Sp := fun vs H Q _ => ∃ (x : Addr) (dx dy : Int) (es gs : List Ed), vs = [.ref x, .int dx, .int dy] ∧ FigAt P w C H x es ∧ LamX.Tabs T H ∧ (-30 ≤ dx ∧ dx ≤ 30) ∧ (-30 ≤ dy ∧ dy ≤ 30) ∧ (∀ p, ptsOf es p → okP (sP dx dy p)) ∧ Shifted dx dy es gs ∧
  ∀ z H', LamX.ExtN H H' → LamX.Tabs T H' → FigAt P w C H' z gs → Q (.ref z) H'
theorem scShift : FnScope ["self", "dx", "dy", "number", "x", "y"] ["self", "dx", "dy"] (defScope tShift) := ⟨rfl, rfl, rfl, by decide +kernel, rfl, by decide +kernel, by decide +kernel⟩
theorem shift_chg {H : Hp} {T : List (Addr × Str)} {dx dy : Int} {es gs : List Ed} {a : Addr} {Q : VK} (f : FigAt P w C H a es) (hp : ∀ p, ptsOf es p → okP (sP dx dy p)) (t : Shifted dx dy es gs) (hT : LamX.Tabs T H) (q : ∀ z H', Same H H' → LamX.Tabs T H' → FigAt P w C H' z gs → Q (.ref z) H') : Chg P w C (sP dx dy) a H Q := by
  refine ⟨es, gs, f, t.ss, fun e => ?_, fun e he => ?_, Nat.le_trans t.len f.few, fun z H' s1 fz => q z H' s1 (hT.ext s1) fz⟩
  · rw [t.mem]
    constructor
    · rintro ⟨g, hg, rfl⟩
      exact ⟨g, hg, (sE_nrm dx dy (f.ok g hg)).symm⟩
    · rintro ⟨g, hg, rfl⟩
      exact ⟨g, hg, sE_nrm dx dy (f.ok g hg)⟩
  · rw [sE_nrm dx dy (f.ok e he)]
    exact sE_ok (f.ok e he) (hp _ ⟨e, he, .inl rfl⟩) (hp _ ⟨e, he, .inr rfl⟩)
theorem ok_shift {c tab f0 g fi fJ fO fI : Addr} {fd fdg fdi fdJ fdO fdI : FuncData} {T : List (Addr × Str)} (D : MdL K C "shifted" "Figure.shifted" tShift ["self", "dx", "dy"] c f0 fd) (DC : Md K C "changed" "Figure.changed" tChg ["self", "change"] g fdg) (M : MkF P w K mg base C fi fdi) (DJ : Dn K mg "joined" tJoined ["one", "other"] fJ fdJ) (B : Bt mg)
    (DO : Dn K mg "is_point" tPoint ["value"] fO fdO) (GO : FnOk P w K mg base L2.CX0 3 fO fdO ["value"] spPoint) (DI : Dn K mg "is_integer" tInteger ["value"] fI fdI)
    (TB : LamX.TabB base mg c tab) (hm : (tab, ("Figure.shifted.<locals>." : Str) ++ "<lambda>") ∈ T) (hu : ∀ p ∈ T, p.1 = tab → p.2 = ("Figure.shifted.<locals>." : Str) ++ "<lambda>") : FnOk P w K mg base L2.CX0 10 f0 fd ["self", "dx", "dy"] (spShift P w C T) := by
  have TC := M.C
  have GI : FnOk P w K mg base L2.CX0 1 fI fdI ["value"] spInt := ok_int DI B
  obtain ⟨tg, hg⟩ := B.great
  refine D.ok scShift (fun vs H Q E h => ?_) (fun A outer s H vs Q E hr h => ?_)
  · obtain ⟨x, dx, dy, es, gs, rfl, _⟩ := h
    rfl
  · obtain ⟨x, dx, dy, es, gs, rfl, f, hT, hx, hy, hp, t, k⟩ := h
    obtain ⟨dz, a, d, r, L, kvs, f1, f2, f3, f4, f5, f6, f7⟩ := id f.ex
    refine ⟨_, pss_cons (ps_for PassesOwn.never rfl (pi_tup (pe_tup (pa_cons (pv 1) (pa_cons (pv 2) pa_nil)))) (pg_name (i := 3) scShift.nd rfl (Or.inl rfl))
        (pss_one (ps_if (PW.pt (pw_or (pt_not (pt_val (pe_call GI (hr.mono (by decide)) rfl DI.m DI.F.kp DI.b .nil pass0 (pa_cons (pv 3) pa_nil)))) (pw_or1 (pt_not (pt_chain op_le op_le (pe_un un_neg (pe_glob (v := .int 30) rfl hg ⟨_, rfl⟩)) (pv 3) (pe_glob (v := .int 30) rfl hg ⟨_, rfl⟩)))))) pss_never pss_nil)))
      (pss_cons (ps_lock (ps_for PassesOwn.never rfl (pi_keys (pe_fld (pv 0) rfl)) (pg_tup (by rfl) (pgs_cons (pg_name (i := 4) scShift.nd rfl (Or.inl rfl)) (pgs_cons (pg_name (i := 5) scShift.nd rfl (Or.inl rfl)) pgs_nil)))
        (pss_one (ps_if (pt_not (pt_val (pe_call GO (hr.mono (by decide)) rfl DO.m DO.F.kp DO.b .nil pass0 (pa_cons (pe_tup (pa_cons (pe_op op_add (pv 4) (pv 1)) (pa_cons (pe_op op_add (pv 5) (pv 2)) pa_nil))) pa_nil)))) pss_never pss_nil))))
      (pss_one (ps_ret (pe_lamMeth (fr := ["dx", "dy"]) (js := [1, 2]) (T := T) (chg := fun ws a H Q => ∃ dx dy, ws = [some (.int dx), some (.int dy)] ∧ Chg P w C (sP dx dy) a H Q) (pv 0) TC.cl DC.mt TB rfl hm hu (NdefX.ndef_free (sc := defScope tShift) (fr := ["dx", "dy"]) (by decide +kernel)) (NdefX.ndef_fr (sc := defScope tShift) (by decide +kernel)) rfl rfl
      (fun pins s σ H Q f c' a I L hco h => by
        obtain ⟨dx, dy, hw, h⟩ := h
        rw [hw] at L
        exact chg_call (Nl := ["point", "dx", "dy"]) (pn := "point") (tb := tTup (tCons (tOp (rI0 fun i j => .int (i + j)) (tOp (rIxT K) (tVar 0) (tC (.int 0))) (tVar 1)) (tCons (tOp (rI0 fun i j => .int (i + j)) (tOp (rIxT K) (tVar 0) (tC (.int 1))) (tVar 2)) tNil)))
          DC M DJ hr (NdefX.nscope_by (by decide +kernel)) (fun _ _ _ => rfl)
          (fun A outer s H => pe_tup (pa_cons (pe_op op_add (pe_ix ix_tup (pv 0) pe_int (fun _ _ => rfl)) (pv 1)) (pa_cons (pe_op op_add (pe_ix ix_tup (pv 0) pe_int (fun _ _ => rfl)) (pv 2)) pa_nil)))
          (fun H p pt Q hp q => by
            refine ⟨_, rfl, p, _, _, _, rfl, rfl, SqT.of hp, rfl, _, rfl, _, _, rfl, rfl, ?_⟩
            refine ⟨_, rfl, p, _, _, _, rfl, rfl, SqT.of hp, rfl, _, rfl, _, _, rfl, rfl, (by show 2 ≤ sizeLine; decide), fun r hr => q r _ (Same.at_ hr) ?_⟩
            exact upd_same) I L hco h))))), ?_⟩
    obtain ⟨ps, a1, a2, a3, a4⟩ := f7.ex
    -- for number in (dx, dy)
    refine ⟨_, rfl, _, rfl, (by show 2 ≤ sizeLine; decide), fun u hu1 => ?_⟩
    have s1 : Same H (upd H u (.tup [.int dx, .int dy])) := Same.at_ hu1
    have hu2 : upd H u (.tup [.int dx, .int dy]) u = some (.tup [.int dx, .int dy]) := upd_same
    generalize upd H u (.tup [.int dx, .int dy]) = H1 at s1 hu2 ⊢
    refine ⟨u, rfl, ⟨_, SqT.of hu2⟩, for_tup (K := K) (a := u) (xs := [.int dx, .int dy]) (fun i σ H' => H' = H1 ∧ ∃ v, σ = [some (V.ref x), some (.int dx), some (.int dy), v, none, none]) ⟨rfl, none, rfl⟩ (fun i σ H' _ z => z.1 ▸ SqT.of hu2) ?_ ?_⟩
    · rintro i v σ H' hv ⟨rfl, w0, rfl⟩
      obtain ⟨n, rfl, hn1, hn2⟩ : ∃ n : Int, v = .int n ∧ -30 ≤ n ∧ n ≤ 30 := by
        have hv := List.mem_of_getElem? hv
        simp only [List.mem_cons, List.not_mem_nil, or_false] at hv
        rcases hv with rfl | rfl
        · exact ⟨dx, rfl, hx.1, hx.2⟩
        · exact ⟨dy, rfl, hy.1, hy.2⟩
      refine ⟨_, rfl, n, rfl, true, rfl, iteF ⟨30, rfl, _, rfl, _, _, rfl, rfl, true, congrArg V.bl (decide_eq_true hn1), iteT ⟨_, _, rfl, rfl, true, congrArg V.bl (decide_eq_true hn2), iteF ⟨rfl, _, rfl⟩⟩⟩⟩
    rintro σ H' ⟨rfl, w0, rfl⟩
    -- for x, y in self.around
    have hr1 := s1 _ _ f6
    refine ⟨r, _, hr1, True.intro, fun od => ?_⟩
    have xr : x ≠ r := ne_of f1 f6 fun z => nomatch z
    have hxl : upd H' r (.frz od (.dT kvs)) x = some (.ins C dz (ff a d r)) := by rw [upd_ne xr]; exact s1 _ _ f1
    refine ⟨_, rfl, x, C, dz, _, _, rfl, hxl, TC.cl, TC.nA, ff_around _ _ _, r, od, rfl, .inr ⟨kvs, upd_same, for_it walk_keysT (fun i σ H2 => Same (upd H' r (.frz od (.dT kvs))) H2 ∧ ∃ v1 v2 v3, σ = [some (V.ref x), some (.int dx), some (.int dy), v1, v2, v3]) ⟨Same.refl _, _, _, _, rfl⟩ (fun i σ H2 _ z => z.1 _ _ upd_same) ?_ ?_⟩⟩
    · rintro i v σ H2 H3 hi ⟨s2, v1, v2, v3, rfl⟩ ⟨rfl, ky, vv, q, hkv, rfl, hq⟩
      obtain ⟨p, hpi, rfl⟩ : ∃ p, ps[i]? = some p ∧ ky = ptKs p := by
        have e1 : (kvs.map (·.1))[i]? = some ky := by rw [List.getElem?_map, hkv]; rfl
        rw [a1, List.getElem?_map] at e1
        cases e2 : ps[i]? with
        | none => rw [e2] at e1; cases e1
        | some p => rw [e2] at e1; exact ⟨p, rfl, (Option.some.inj e1).symm⟩
      have hpp := (a3 p).mp (List.mem_of_getElem? hpi)
      refine ⟨q, [.int p.1, .int p.2], rfl, SqT.of hq, rfl, .int p.1, _, rfl, .int p.2, _, rfl, rfl, ?_⟩
      refine ⟨_, rfl, _, rfl, _, _, rfl, rfl, _, rfl, _, rfl, _, _, rfl, rfl, (by show 2 ≤ sizeLine; decide), fun t2 ht2 => ?_⟩
      exact ⟨t2, sP dx dy p, rfl, upd_same, hp p hpp, true, rfl, iteF ⟨s2.up (s2.free ht2), _, _, _, rfl⟩⟩
    rintro σ H2 ⟨s2, v1, v2, v3, rfl⟩
    refine ⟨s2 _ _ upd_same, ?_⟩
    have s3 : Same H (upd H2 r (.dT kvs)) := fun b o e => by
      by_cases hb : b = r
      · subst hb
        rw [upd_same]
        exact f6.symm.trans e
      · rw [upd_ne hb]
        refine s2 _ _ ?_
        rw [upd_ne hb]
        exact s1 _ _ e
    generalize upd H2 r (.dT kvs) = H3 at s3 ⊢
    refine ⟨_, rfl, x, dz, _, rfl, s3 _ _ f1, ff_no _ _ _ (by decide +kernel) (by decide +kernel) (by decide +kernel), hT.ext s3, fun H4 e4 t4 => ⟨dx, dy, rfl, ?_⟩⟩
    exact shift_chg ((f.same s3).ext e4) hp t t4 fun z H5 s5 th fz => k z H5 ((LamX.ExtN.of s3).trans (e4.trans (LamX.ExtN.of s5))) th fz
end
end NC
/-! The law's own defs: cell_at, box, take. -/
namespace NC
open PySem PySem.Spec PyProof.Rows L2
abbrev lCell : Stmt := top 27
abbrev lBox : Stmt := top 28
abbrev lTake : Stmt := top 29
abbrev lEdges : Stmt := top 30
abbrev lDirs : Stmt := top 31
abbrev lPoints : Stmt := top 32
abbrev lTurned : Stmt := top 33
abbrev lPut : Stmt := top 34
abbrev lMade : Stmt := top 35
abbrev lLaw : Stmt := top 36
section
variable {P : Program} {w : World} {K : PySem.W.Frag} {mg : Str → Option Value} {base : Heap}
/-! ### the cells -/
def spCell (K : PySem.W.Frag) : Sp := fun vs H Q _ => ∃ (a : Addr) (ns : List Int) (k : Nat), vs = [.ref a, .int k] ∧ SqL K H a (ns.map V.int) ∧ k ≤ 8 ∧ ∀ n : Int, Q (.int n) H
theorem scCell : FnScope ["_law_script", "_law_k"] ["_law_script", "_law_k"] (defScope lCell) := ⟨rfl, rfl, rfl, by decide +kernel, rfl, by decide +kernel, by decide +kernel⟩
theorem ok_cell {f : Addr} {fd : FuncData} (D : Dn K mg "_law_cell_at" lCell ["_law_script", "_law_k"] f fd) (T : Bt mg) : FnOk P w K mg base L2.CX0 1 f fd ["_law_script", "_law_k"] (spCell K) := by
  refine D.F.ok scCell (fun vs H Q E h => ?_) (fun cdv A outer s H vs Q E hr h => ?_)
  · obtain ⟨a, ns, k, rfl, _⟩ := h
    rfl
  · obtain ⟨a, ns, k, rfl, hS, hk, q⟩ := h
    refine ⟨_, pss_one (ps_ret (pe_ifExp (pt_cmpR op_lt (pv 1) (pe_callB call_len_seq (by rfl) T.len PySem.boot_len (pa_cons (pv 0) pa_nil)) (nomark _)) (pe_ix ix_list (pv 0) (pv 1) (fun _ _ => rfl)) (pe_op op_add (pe_op op_mul pe_int (pv 1)) pe_int))), ?_⟩
    refine ⟨_, rfl, _, rfl, a, _, rfl, .inl hS, _, _, rfl, rfl, _, rfl, ite2 (fun h => ?_) (fun h => ?_)⟩
    · have h := of_decide_eq_true h
      rw [List.length_map] at h
      have h : k < ns.length := by omega
      have e : (ns.map V.int)[k]? = some (V.int ns[k]) := by simp [h]
      exact ⟨_, rfl, _, rfl, a, _, _, _, rfl, rfl, hS, atI_nat e, q _⟩
    · exact ⟨_, rfl, _, _, rfl, rfl, .inl ⟨by decide, by decide⟩, _, _, rfl, rfl, q _⟩

/-! ### the box -/
/-- the box at l: a large number's rest, a seed, how often it was asked -/
def BoxAt (H : Hp) (l : Addr) (n : Nat) : Prop := ∃ a b c : Int, H l = some (.lst [.int a, .int b, .int c]) ∧ 0 ≤ a ∧ 0 ≤ b ∧ b < 2147483629 ∧ 0 ≤ c ∧ c ≤ n
theorem BoxAt.mono {H : Hp} {l : Addr} {n m : Nat} (b : BoxAt H l n) (h : n ≤ m) : BoxAt H l m := by
  obtain ⟨x, y, z, h1, h2, h3, h4, h5, h6⟩ := b
  exact ⟨x, y, z, h1, h2, h3, h4, h5, by omega⟩
theorem BoxAt.same {H H' : Hp} {l : Addr} {n : Nat} (b : BoxAt H l n) (s : Same H H') : BoxAt H' l n := by
  obtain ⟨x, y, z, h1, h2⟩ := b
  exact ⟨x, y, z, s _ _ h1, h2⟩
def spBox : Sp := fun vs H Q _ => ∃ n : Int, vs = [.int n] ∧ ∀ l H', Same H H' → BoxAt H' l 0 → H l = none → Q (.ref l) H'
theorem scBox : FnScope ["_law_number"] ["_law_number"] (defScope lBox) := ⟨rfl, rfl, rfl, by decide +kernel, rfl, by decide +kernel, by decide +kernel⟩
theorem ok_box {f : Addr} {fd : FuncData} (D : Dn K mg "_law_box" lBox ["_law_number"] f fd) (T : Bt mg) : FnOk P w K mg base L2.CX0 1 f fd ["_law_number"] spBox := by
  refine D.F.ok scBox (fun vs H Q E h => ?_) (fun cdv A outer s H vs Q E hr h => ?_)
  · obtain ⟨n, rfl, _⟩ := h
    rfl
  · obtain ⟨n, rfl, k⟩ := h
    refine ⟨_, pss_one (ps_ret (pe_lst (pa_cons (pe_callB (call_max2 rfl) (by rfl) T.max (by decide +kernel) (pa_cons pe_int (pa_cons (pe_op op_sub (pv 0) (pe_op op_pow pe_int pe_int)) pa_nil)))
      (pa_cons (pe_op op_mod (pv 0) pe_int) (pa_cons pe_int pa_nil))))), ?_⟩
    refine ⟨_, rfl, _, _, rfl, rfl, ⟨by decide, by decide, by decide⟩, _, _, rfl, rfl, _, _, rfl, ?_⟩
    refine ⟨_, rfl, _, _, rfl, rfl, (by show (0 : Int) < 2147483629; decide), (by show 3 ≤ sizeLine; decide), fun l hl => ?_⟩
    refine k l _ (Same.at_ hl) ⟨_, _, _, upd_same, ?_, ?_, ?_, Int.le_refl _, Int.le_refl _⟩ hl
    · split <;> omega
    · exact Int.emod_nonneg _ (by decide)
    · exact Int.emod_lt_of_pos _ (by decide)

/-! ### a digit -/
/-- all but the thing at l stays -/
def But (l : Addr) (H H' : Hp) : Prop := ∀ b o, b ≠ l → H b = some o → H' b = some o
def spTake : Sp := fun vs H Q _ => ∃ (l : Addr) (n : Nat) (m : Int), vs = [.ref l, .int m] ∧ BoxAt H l n ∧ n ≤ 100000 ∧ 1 ≤ m ∧ m ≤ 1000 ∧ ∀ (d : Int) H', 0 ≤ d → d < m → But l H H' → BoxAt H' l (n + 1) → Q (.int d) H'
theorem scTake : FnScope ["_law_box_here", "_law_many", "_law_digit", "_law_number"] ["_law_box_here", "_law_many"] (defScope lTake) := ⟨rfl, rfl, rfl, by decide +kernel, rfl, by decide +kernel, by decide +kernel⟩
theorem ok_take {f : Addr} {fd : FuncData} (D : Dn K mg "_law_take" lTake ["_law_box_here", "_law_many"] f fd) : FnOk P w K mg base L2.CX0 1 f fd ["_law_box_here", "_law_many"] spTake := by
  refine D.F.ok scTake (fun vs H Q E h => ?_) (fun cdv A outer s H vs Q E hr h => ?_)
  · obtain ⟨l, n, m, rfl, _⟩ := h
    rfl
  · obtain ⟨l, n, m, rfl, ⟨a, b, c, hl, ha, hb, hb2, hc, hcn⟩, hn, hm1, hm2, k⟩ := h
    refine ⟨_, pss_cons (ps_if (pt_cmpR op_gt (pe_ix ix_list (pv 0) pe_int (fun _ _ => rfl)) pe_int (nomark _))
        (pss_cons (ps_set (i := 2) scTake.nd rfl (Or.inl rfl) (pe_op op_mod (pe_ix ix_list (pv 0) pe_int (fun _ _ => rfl)) (pv 1)))
        (pss_cons (ps_asg (pe_op op_fdivN (pe_ix ix_list (pv 0) pe_int (fun _ _ => rfl)) (pv 1)) (pg_sub (pv 0) pe_int set_list))
        (pss_one (ps_ret (pv 2))))) pss_nil)
      (pss_cons (ps_asg (pe_op op_add (pe_ix ix_list (pv 0) pe_int (fun _ _ => rfl)) pe_int) (pg_sub (pv 0) pe_int set_list))
      (pss_cons (ps_set (i := 3) scTake.nd rfl (Or.inl rfl) (pe_op op_mod (pe_op op_pow (pe_op op_add (pe_op op_add (pe_ix ix_list (pv 0) pe_int (fun _ _ => rfl)) (pe_op op_mul pe_int (pe_ix ix_list (pv 0) pe_int (fun _ _ => rfl)))) pe_int) pe_int) pe_int))
      (pss_cons (ps_set (i := 3) scTake.nd rfl (Or.inl rfl) (pe_op op_mod (pe_op op_pow (pe_op op_add (pv 3) (pe_op op_mul pe_int (pe_ix ix_list (pv 0) pe_int (fun _ _ => rfl)))) pe_int) pe_int))
      (pss_one (ps_ret (pe_op op_mod (pe_op op_fdivN (pv 3) pe_int) (pv 1))))))), ?_⟩
    have two64 : (2 : Int) ^ 64 = 18446744073709551616 := by decide
    refine ⟨_, rfl, l, _, _, _, rfl, rfl, SqL.of hl, rfl, _, _, rfl, rfl, _, rfl, ite2 (fun h => ?_) (fun h => ?_)⟩
    · have h := of_decide_eq_true h
      refine ⟨_, rfl, l, _, _, _, rfl, rfl, SqL.of hl, rfl, _, rfl, _, _, rfl, rfl, (by show 0 < m; omega), ?_⟩
      refine ⟨_, rfl, l, _, _, _, rfl, rfl, SqL.of hl, rfl, _, rfl, _, _, rfl, rfl, ⟨by omega, by omega⟩, ?_⟩
      refine ⟨_, rfl, l, _, 0, 0, rfl, rfl, hl, rfl, ?_⟩
      refine ⟨_, rfl, k _ _ (Int.emod_nonneg _ (by omega)) (Int.emod_lt_of_pos _ (by omega)) (fun b o n e => by rw [upd_ne n]; exact e) ⟨a.fdiv m, b, c, upd_same, Int.fdiv_nonneg ha (by omega), hb, hb2, hc, by omega⟩⟩
    · refine ⟨_, rfl, l, _, _, _, rfl, rfl, SqL.of hl, rfl, _, _, rfl, rfl, ?_⟩
      refine ⟨_, rfl, l, _, 2, 2, rfl, rfl, hl, rfl, ?_⟩
      have h1 : upd H l (.lst [.int a, .int b, .int (c + 1)]) l = some (.lst [.int a, .int b, .int (c + 1)]) := upd_same
      refine ⟨_, rfl, l, _, _, _, rfl, rfl, SqL.of h1, rfl, ?_⟩
      refine ⟨_, rfl, l, _, _, _, rfl, rfl, SqL.of h1, rfl, _, _, rfl, rfl, .inl ⟨by decide, by decide⟩, _, _, rfl, rfl, _, _, rfl, rfl, _, _, rfl, rfl, ⟨by decide, by decide, by omega⟩, _, _, rfl, rfl, (by show (0 : Int) < 2147483647; decide), ?_⟩
      generalize (b + 6896 * (c + 1) + 1224) ^ (5 : Int).toNat = y
      have y0 : 0 ≤ y % 2147483647 := Int.emod_nonneg _ (by decide)
      have y1 : y % 2147483647 < 2147483647 := Int.emod_lt_of_pos _ (by decide)
      refine ⟨_, rfl, _, rfl, l, _, _, _, rfl, rfl, SqL.of h1, rfl, _, _, rfl, rfl, .inl ⟨by decide, by decide⟩, _, _, rfl, rfl, _, _, rfl, rfl, ⟨by decide, by decide, by omega⟩, _, _, rfl, rfl, (by show (0 : Int) < 2147483587; decide), ?_⟩
      refine ⟨_, rfl, _, _, rfl, rfl, ⟨by decide, by decide⟩, _, rfl, _, _, rfl, rfl, (by show 0 < m; omega), ?_⟩
      exact k _ _ (Int.emod_nonneg _ (by omega)) (Int.emod_lt_of_pos _ (by omega)) (fun b o n e => by rw [upd_ne n]; exact e) ⟨a, b, c + 1, upd_same, ha, hb, hb2, by omega, by omega⟩
end
end NC
/-! The law's drawn edges. -/
namespace NC
open PySem PySem.Spec PyProof.Rows L2
theorem But.refl (l : Addr) (H : Hp) : But l H H := fun _ _ _ e => e
theorem But.of {l : Addr} {H H' : Hp} (s : Same H H') : But l H H' := fun b o _ e => s b o e
theorem But.trans {l : Addr} {H H1 H2 : Hp} (a : But l H H1) (b : But l H1 H2) : But l H H2 := fun c o n e => b c o n (a c o n e)
theorem But.at_ {l b : Addr} {H H' : Hp} {xs : List V} {o : HO} (k : But l H H') (hl : H l = some (.lst xs)) (e : H b = some o) (h : ∀ ys, o ≠ .lst ys) : H' b = some o := k b o (ne_of e hl (h xs)) e
theorem But.tk {l : Addr} {H H' : Hp} {xs : List V} (k : But l H H') (hl : H l = some (.lst xs)) : Tk H H' := fun a ys e => k.at_ hl e fun _ z => nomatch z
theorem But.fig {P : Program} {w : World} {C l x : Addr} {H H' : Hp} {es : List Ed} {xs : List V} (f : FigAt P w C H x es) (k : But l H H') (hl : H l = some (.lst xs)) : FigAt P w C H' x es := f.tr fun b o e h1 _ => k.at_ hl e h1
theorem But.tabs {T : List (Addr × Str)} {l : Addr} {H H' : Hp} {xs : List V} (t : LamX.Tabs T H) (k : But l H H') (hl : H l = some (.lst xs)) : LamX.Tabs T H' := fun p hp => by
  obtain ⟨ps, h1, h2, h3⟩ := t p hp
  refine ⟨ps, k.at_ hl h1 (fun _ z => nomatch z), h2, fun pos cv hc => ?_⟩
  obtain ⟨c, e1, e2⟩ := h3 pos cv hc
  exact ⟨c, e1, k.at_ hl e2 fun _ z => by unfold LamX.CodeO at z; cases z⟩
theorem But.up {l D : Addr} {H H' : Hp} {o : HO} (k : But l H H') (n : H D = none) : But l H (upd H' D o) := fun b u nb e => by
  rw [upd_ne (ne_of_none e n)]
  exact k b u nb e
theorem BoxAt.lst {H : Hp} {l : Addr} {n : Nat} (b : BoxAt H l n) : ∃ xs, H l = some (.lst xs) := by
  obtain ⟨x, y, z, h, _⟩ := b
  exact ⟨_, h⟩
theorem But.free {l D : Addr} {H H' : Hp} (k : But l H H') (nd : D ≠ l) (n : H' D = none) : H D = none := by
  cases q : H D with
  | none => rfl
  | some o => rw [k D o nd q] at n; cases n
theorem BoxAt.ne {H : Hp} {l D : Addr} {n : Nat} (b : BoxAt H l n) (h : H D = none) : D ≠ l := fun z => by
  obtain ⟨xs, e⟩ := b.lst
  rw [z, e] at h
  cases h

/-- a statement with a word N of what stands behind it -/
def tMid (t : TS) : TS := fun D σ H => ∃ N : L2.St → Hp → Prop, t { D with nx := N } σ H ∧ ∀ σ' H', N σ' H' → D.nx σ' H'
theorem ps_mid {X : Cx} {st : Stmt} {t : TS} (h : PS X st t) : PS X st (tMid t) := by
  refine ⟨fun pins s σ H D I hw => ?_⟩
  obtain ⟨N, ht, hN⟩ := hw
  refine thn (h.run pins s σ H { D with nx := N } I ht) fun f s' q => ?_
  cases f with
  | next =>
    obtain ⟨σ', H', I', q⟩ := q
    exact ⟨σ', H', I', hN σ' H' q⟩
  | brk => exact q
  | cont => exact q
  | ret v => exact q

/-- the list at p so far -/
structure EdS (H0 : Hp) (l p : Addr) (n bnd : Nat) (top : Pt) (H' : Hp) (L : List (Addr × Ed)) : Prop where
  but : But l H0 H'
  box : BoxAt H' l n
  at_ : H' p = some (.lst (rf L))
  el : EL H' L
  ss : SS (eds L)
  ok : ∀ e ∈ eds L, okE e
  few : L.length ≤ bnd
  low : ∀ e ∈ eds L, ltP e.1 top
  new : H0 p = none
  nel : p ≠ l
theorem EdS.take {H0 H1 H2 : Hp} {l p : Addr} {n bnd : Nat} {t : Pt} {L : List (Addr × Ed)} (e : EdS H0 l p n bnd t H1 L) (b : But l H1 H2) (x : BoxAt H2 l (n + 1)) : EdS H0 l p (n + 1) bnd t H2 L := by
  obtain ⟨xs, hl⟩ := e.box.lst
  exact ⟨e.but.trans b, x, b _ _ e.nel e.at_, e.el.tk (b.tk hl), e.ss, e.ok, e.few, e.low, e.new, e.nel⟩
theorem EdS.mono {H0 H1 : Hp} {l p : Addr} {n m bnd bnd' : Nat} {t u : Pt} {L : List (Addr × Ed)} (e : EdS H0 l p n bnd t H1 L) (h : n ≤ m) (hb : bnd ≤ bnd') (htu : ∀ q, ltP q t → ltP q u) : EdS H0 l p m bnd' u H1 L :=
  ⟨e.but, e.box.mono h, e.at_, e.el, e.ss, e.ok, Nat.le_trans e.few hb, fun f hf => htu _ (e.low f hf), e.new, e.nel⟩
/-- an edge more; u: above all -/
theorem EdS.app {H0 H1 H2 : Hp} {l p c : Addr} {n bnd : Nat} {t u : Pt} {L : List (Addr × Ed)} {f : Ed} (e : EdS H0 l p n bnd t H1 L) (s : Same H1 H2) (hc : EdA H2 c f) (ok : okE f) (top : ∀ g ∈ eds L, ltE g f) (hu : ltP f.1 u) (hl : ∀ g ∈ eds L, ltP g.1 u) : EdS H0 l p n (bnd + 1) u (upd H2 p (.lst (rf L ++ [.ref c]))) (L ++ [(c, f)]) := by
  have h2 := s _ _ e.at_
  have tk : Tk H2 (upd H2 p (.lst (rf L ++ [.ref c]))) := Tk.wr h2 fun _ z => nomatch z
  refine ⟨(e.but.trans (But.of s)).up e.new, ?_, ?_, ?_, ?_, ?_, ?_, ?_, e.new, e.nel⟩
  · obtain ⟨x, y, z, h, r⟩ := e.box.same s
    exact ⟨x, y, z, by rw [upd_ne e.nel.symm]; exact h, r⟩
  · rw [upd_same, ← rf_both]
    rfl
  · exact ((s.el e.el).tk tk).both fun y hy => by
      rw [List.mem_singleton] at hy
      subst hy
      exact hc.tk tk
  · rw [eds_both]
    exact List.pairwise_append.mpr ⟨e.ss, List.pairwise_singleton _ _, fun g hg h hh => by
      have hh : h ∈ [f] := hh
      rw [List.mem_singleton] at hh
      subst hh
      exact top g hg⟩
  · intro g hg
    rw [eds_both] at hg
    rcases List.mem_append.mp hg with hg | hg
    · exact e.ok g hg
    · have hg : g ∈ [f] := hg
      rw [List.mem_singleton] at hg
      subst hg
      exact ok
  · rw [List.length_append]
    have := e.few
    simp
    omega
  · intro g hg
    rw [eds_both] at hg
    rcases List.mem_append.mp hg with hg | hg
    · exact hl g hg
    · have hg : g ∈ [f] := hg
      rw [List.mem_singleton] at hg
      subst hg
      exact hu

section
variable {P : Program} {w : World} {K : PySem.W.Frag} {mg : Str → Option Value} {base : Heap}
def spEdges : Sp := fun vs H Q _ => ∃ (l : Addr) (n : Nat) (m : Int), vs = [.ref l, .int m] ∧ BoxAt H l n ∧ n ≤ 50000 ∧ 1 ≤ m ∧ m ≤ 4 ∧ ∀ p L H', But l H H' → BoxAt H' l (n + 60) → H' p = some (.lst (rf L)) → EL H' L → SS (eds L) → (∀ e ∈ eds L, okE e) → (L.length : Int) ≤ 2 * ((m + 1) * (m + 1)) → H p = none → p ≠ l → Q (.ref p) H'
theorem scEdges : FnScope ["_law_box_here", "_law_most", "_law_wide", "_law_high", "_law_thick", "_law_left", "_law_low", "_law_found", "_law_x", "_law_y"] ["_law_box_here", "_law_most"] (defScope lEdges) := ⟨rfl, rfl, rfl, by decide +kernel, rfl, by decide +kernel, by decide +kernel⟩
theorem ok_edges {f fT : Addr} {fd fdT : FuncData} (D : Dn K mg "_law_edges" lEdges ["_law_box_here", "_law_most"] f fd) (DT : Dn K mg "_law_take" lTake ["_law_box_here", "_law_many"] fT fdT) (T : Bt mg) : FnOk P w K mg base L2.CX0 2 f fd ["_law_box_here", "_law_most"] spEdges := by
  have GT : FnOk P w K mg base L2.CX0 1 fT fdT ["_law_box_here", "_law_many"] spTake := ok_take DT
  refine D.F.ok scEdges (fun vs H Q E h => ?_) (fun cdv A outer s H vs Q E hr h => ?_)
  · obtain ⟨l, n, m, rfl, _⟩ := h
    rfl
  · obtain ⟨l, n, m, rfl, hbx, hn, hm1, hm2, k⟩ := h
    have app := @pe_bm
    refine ⟨_, pss_cons (ps_par3 (i := 2) (j := 3) (l := 4) rfl scEdges.nd rfl rfl rfl (by decide) (by decide) (by decide) rfl rfl rfl
        (pa_cons (pe_op op_add pe_int (pe_call GT hr rfl DT.m DT.F.kp DT.b .nil pass0 (pa_cons (pv 0) (pa_cons (pv 1) pa_nil))))
        (pa_cons (pe_op op_add pe_int (pe_call GT hr rfl DT.m DT.F.kp DT.b .nil pass0 (pa_cons (pv 0) (pa_cons (pv 1) pa_nil))))
        (pa_cons (pe_op op_add pe_int (pe_call GT hr rfl DT.m DT.F.kp DT.b .nil pass0 (pa_cons (pv 0) (pa_cons pe_int pa_nil)))) pa_nil))) (by rfl))
      (pss_cons (ps_par (i := 5) (j := 6) (by rfl) scEdges.nd rfl rfl (by decide) rfl rfl
        (pa_cons (pe_call GT hr rfl DT.m DT.F.kp DT.b .nil pass0 (pa_cons (pv 0) (pa_cons (pe_op op_sub pe_int (pv 2)) pa_nil)))
        (pa_cons (pe_call GT hr rfl DT.m DT.F.kp DT.b .nil pass0 (pa_cons (pv 0) (pa_cons (pe_op op_sub pe_int (pv 3)) pa_nil))) pa_nil)) (by rfl))
      (pss_cons (ps_set (i := 7) scEdges.nd rfl (Or.inl rfl) (pe_lst pa_nil))
      (pss_cons (ps_for PassesOwn.never rfl (pi_range2 (by rfl) T.range (pa_cons (pv 5) (pa_cons (pe_op op_add (pe_op op_add (pv 5) (pv 2)) pe_int) pa_nil))) (pg_name (i := 8) scEdges.nd rfl (Or.inl rfl))
        (pss_one (ps_for PassesOwn.never rfl (pi_range2 (by rfl) T.range (pa_cons (pv 6) (pa_cons (pe_op op_add (pe_op op_add (pv 6) (pv 3)) pe_int) pa_nil))) (pg_name (i := 9) scEdges.nd rfl (Or.inl rfl))
          (pss_cons (ps_mid <| ps_if (PW.pt (pw_and (pt_cmpR op_lt (pv 9) (pe_op op_add (pv 6) (pv 3)) (nomark _)) (pw_and1 (pt_cmpR op_lt (pe_call GT hr rfl DT.m DT.F.kp DT.b .nil pass0 (pa_cons (pv 0) (pa_cons pe_int pa_nil))) (pv 4) (nomark _)))))
            (pss_one (ps_expr (pe_bm PySem.F.plainAttrs_list PySem.F.slot_list_append PySem.F.type_list_append mt_append (pv 7) (pa_cons (pe_tup (pa_cons (pe_tup (pa_cons (pv 8) (pa_cons (pv 9) pa_nil))) (pa_cons (pe_tup (pa_cons (pv 8) (pa_cons (pe_op op_add (pv 9) pe_int) pa_nil))) pa_nil))) pa_nil)))) pss_nil)
          (pss_one (ps_if (PW.pt (pw_and (pt_cmpR op_lt (pv 8) (pe_op op_add (pv 5) (pv 2)) (nomark _)) (pw_and1 (pt_cmpR op_lt (pe_call GT hr rfl DT.m DT.F.kp DT.b .nil pass0 (pa_cons (pv 0) (pa_cons pe_int pa_nil))) (pv 4) (nomark _)))))
            (pss_one (ps_expr (pe_bm PySem.F.plainAttrs_list PySem.F.slot_list_append PySem.F.type_list_append mt_append (pv 7) (pa_cons (pe_tup (pa_cons (pe_tup (pa_cons (pv 8) (pa_cons (pv 9) pa_nil))) (pa_cons (pe_tup (pa_cons (pe_op op_add (pv 8) pe_int) (pa_cons (pv 9) pa_nil))) pa_nil))) pa_nil)))) pss_nil))))))
      (pss_one (ps_ret (pv 7)))))), ?_⟩
    obtain ⟨xs0, hl0⟩ := hbx.lst
    -- the sizes
    refine ⟨_, rfl, _, rfl, l, n, m, rfl, hbx, by omega, hm1, by omega, fun d1 H1 p1 q1 u1 x1 => ⟨_, _, rfl, rfl, ?_⟩⟩
    refine ⟨_, rfl, _, rfl, l, n + 1, m, rfl, x1, by omega, hm1, by omega, fun d2 H2 p2 q2 u2 x2 => ⟨_, _, rfl, rfl, ?_⟩⟩
    refine ⟨_, rfl, l, n + 1 + 1, 4, rfl, x2, by omega, by omega, by omega, fun d3 H3 p3 q3 u3 x3 => ⟨_, _, rfl, rfl, _, _, _, rfl, ?_⟩⟩
    refine ⟨_, rfl, _, rfl, _, _, rfl, rfl, l, n + 1 + 1 + 1, 31 - (1 + d1), rfl, x3, by omega, by omega, by omega, fun d4 H4 p4 q4 u4 x4 => ?_⟩
    refine ⟨_, rfl, _, rfl, _, _, rfl, rfl, l, n + 1 + 1 + 1 + 1, 31 - (1 + d2), rfl, x4, by omega, by omega, by omega, fun d5 H5 p5 q5 u5 x5 => ⟨_, _, rfl, ?_⟩⟩
    have u05 : But l H H5 := (((u1.trans u2).trans u3).trans u4).trans u5
    refine ⟨Nat.zero_le _, fun p hp => ?_⟩
    have nel := x5.ne hp
    have hp0 := u05.free nel hp
    obtain ⟨M, hM⟩ : ∃ M : Nat, (M : Int) = m + 1 := ⟨(m + 1).toNat, by omega⟩
    have e0 : EdS H l p (n + 5 + 10 * 0) (2 * M * 0) (d4 + ((0 : Nat) : Int), 0) (upd H5 p (.lst [])) [] := by
      refine ⟨u05.up hp0, ?_, upd_same, (fun _ z => nomatch z), List.Pairwise.nil, (fun _ z => nomatch z), Nat.zero_le _, (fun _ z => nomatch z), hp0, nel⟩
      exact (x5.same (Same.at_ hp)).mono (by omega)
    -- the window's columns
    refine ⟨_, rfl, _, rfl, _, rfl, _, _, rfl, rfl, _, _, rfl, rfl, d4, d4 + (1 + d1) + 1, rfl, ⟨by omega, by omega, by omega, by omega⟩, ?_⟩
    have hw : (d4 + (1 + d1) + 1 - d4).toNat ≤ M := by omega
    have hh : (d5 + (1 + d2) + 1 - d5).toNat ≤ M := by omega
    have hw2 : (((d4 + (1 + d1) + 1 - d4).toNat : Nat) : Int) = 1 + d1 + 1 := by omega
    have hh2 : (((d5 + (1 + d2) + 1 - d5).toNat : Nat) : Int) = 1 + d2 + 1 := by omega
    generalize (d4 + (1 + d1) + 1 - d4).toNat = wN at hw hw2 ⊢
    refine for_range (lo := d4) (n := wN) (fun i σ H' => ∃ L v8 v9, σ = [some (V.ref l), some (.int m), some (.int (1 + d1)), some (.int (1 + d2)), some (.int (1 + d3)), some (.int d4), some (.int d5), some (.ref p), v8, v9] ∧ EdS H l p (n + 5 + 10 * i) (2 * M * i) (d4 + ((i : Nat) : Int), 0) H' L) ⟨[], none, none, rfl, e0⟩ ?_ ?_
    · rintro i σ H6 hi ⟨L, v8, v9, rfl, e⟩
      refine ⟨_, rfl, _, rfl, _, rfl, _, _, rfl, rfl, _, _, rfl, rfl, d5, d5 + (1 + d2) + 1, rfl, ⟨by omega, by omega, by omega, by omega⟩, ?_⟩
      generalize (d5 + (1 + d2) + 1 - d5).toNat = hN at hh hh2 ⊢
      refine for_range (lo := d5) (n := hN) (fun j σ H' => ∃ L v9, σ = [some (V.ref l), some (.int m), some (.int (1 + d1)), some (.int (1 + d2)), some (.int (1 + d3)), some (.int d4), some (.int d5), some (.ref p), some (.int (d4 + (i : Nat))), v9] ∧ EdS H l p (n + 5 + 10 * i + 2 * j) (2 * M * i + 2 * j) (d4 + ((i : Nat) : Int), d5 + ((j : Nat) : Int)) H' L)
        ⟨L, v9, rfl, e.mono (by omega) (by omega) fun q hq => ?_⟩ ?_ ?_
      · unfold ltP at hq ⊢
        simp only at hq ⊢
        omega
      · rintro j σ H7 hj ⟨L2, v9', rfl, e2⟩
        have i5 : i ≤ 5 := by omega
        have j5 : j ≤ 5 := by omega
        -- up
        refine ⟨fun σ H' => ∃ L', σ = [some (V.ref l), some (.int m), some (.int (1 + d1)), some (.int (1 + d2)), some (.int (1 + d3)), some (.int d4), some (.int d5), some (.ref p), some (.int (d4 + (i : Nat))), some (.int (d5 + (j : Nat)))] ∧ EdS H l p (n + 5 + 10 * i + 2 * j + 1) (2 * M * i + 2 * j + 1) (d4 + ((i : Nat) : Int), d5 + ((j : Nat) : Int) + 1) H' L' ∧ ∀ g ∈ eds L', ltE g ((d4 + (i : Nat), d5 + (j : Nat)), (d4 + (i : Nat) + 1, d5 + (j : Nat))), ?_, ?_⟩
        · have wk : ∀ q : Pt, ltP q (d4 + ((i : Nat) : Int), d5 + ((j : Nat) : Int)) → ltP q (d4 + ((i : Nat) : Int), d5 + ((j : Nat) : Int) + 1) := fun q hq => by
            unfold ltP at hq ⊢
            simp only at hq ⊢
            omega
          have lw : ∀ {L'} {H'} {n' b' : Nat}, EdS H l p n' b' (d4 + ((i : Nat) : Int), d5 + ((j : Nat) : Int)) H' L' → ∀ f : Pt, ∀ g ∈ eds L', ltE g ((d4 + (i : Nat), d5 + (j : Nat)), f) := fun e f g hg => .inl (e.low g hg)
          refine ⟨_, rfl, _, rfl, _, rfl, _, _, rfl, rfl, _, _, rfl, rfl, _, rfl, ite2 (fun hc => ?_) (fun hc => ?_)⟩
          · have hc := of_decide_eq_true hc
            refine ⟨_, rfl, l, _, 5, rfl, e2.box, by omega, by omega, by omega, fun d6 H8 p6 q6 u6 x6 => ⟨_, rfl, _, _, rfl, rfl, _, rfl, ?_⟩⟩
            have e3 := e2.take u6 x6
            refine ite2 (fun _ => ?_) (fun _ => ⟨L2, rfl, e3.mono (Nat.le_refl _) (by omega) wk, lw e3 _⟩)
            refine ⟨_, rfl, .inl ⟨rfl, _, SqL.of e3.at_⟩, _, rfl, _, rfl, (by show 2 ≤ sizeLine; decide), fun t1 ht1 => ⟨_, rfl, _, rfl, _, _, rfl, rfl, (by show 2 ≤ sizeLine; decide), fun t2 ht2 => ⟨(by show 2 ≤ sizeLine; decide), fun t3 ht3 => ?_⟩⟩⟩
            have sm : Same H8 (upd (upd (upd H8 t1 (.tup [.int (d4 + (i : Nat)), .int (d5 + (j : Nat))])) t2 (.tup [.int (d4 + (i : Nat)), .int (d5 + (j : Nat) + 1)])) t3 (.tup [.ref t1, .ref t2])) := by
              have a1 : Same H8 (upd H8 t1 (.tup [.int (d4 + (i : Nat)), .int (d5 + (j : Nat))])) := Same.at_ ht1
              have a2 := a1.up (a1.free ht2) (o := .tup [.int (d4 + (i : Nat)), .int (d5 + (j : Nat) + 1)])
              exact a2.up (a2.free ht3)
            have ea : EdA (upd (upd (upd H8 t1 (.tup [.int (d4 + (i : Nat)), .int (d5 + (j : Nat))])) t2 (.tup [.int (d4 + (i : Nat)), .int (d5 + (j : Nat) + 1)])) t3 (.tup [.ref t1, .ref t2])) t3 ((d4 + (i : Nat), d5 + (j : Nat)), (d4 + (i : Nat), d5 + (j : Nat) + 1)) :=
              ⟨t1, t2, upd_same, (Same.at_ ht3).pt ((Same.at_ ht2).pt upd_same), (Same.at_ ht3).pt upd_same⟩
            have okf : okE ((d4 + (i : Nat), d5 + (j : Nat)), (d4 + (i : Nat), d5 + (j : Nat) + 1)) := ⟨⟨by show 0 ≤ d4 + (i : Int); omega, by show d4 + (i : Int) ≤ 30; omega, by show 0 ≤ d5 + (j : Int); omega, by show d5 + (j : Int) ≤ 30; omega⟩, ⟨by show 0 ≤ d4 + (i : Int); omega, by show d4 + (i : Int) ≤ 30; omega, by show 0 ≤ d5 + (j : Int) + 1; omega, by show d5 + (j : Int) + 1 ≤ 30; omega⟩, .inr rfl⟩
            have e4 := e3.app sm ea okf (lw e3 _) (u := (d4 + (i : Nat), d5 + (j : Nat) + 1)) (.inr ⟨rfl, by show d5 + (j : Int) < d5 + (j : Int) + 1; omega⟩) (fun g hg => wk _ (e3.low g hg))
            refine ⟨p, _, _, rfl, rfl, sm _ _ e3.at_, ?_, L2 ++ [(t3, ((d4 + (i : Nat), d5 + (j : Nat)), (d4 + (i : Nat), d5 + (j : Nat) + 1)))], rfl, e4, fun g hg => ?_⟩
            · rw [rf_len, sizeLine_eq]
              have h1 := e3.few
              have h2 : 2 * M * i ≤ 2 * M * 5 := Nat.mul_le_mul_left _ i5
              omega
            · rw [eds_both] at hg
              rcases List.mem_append.mp hg with hg | hg
              · exact lw e3 _ g hg
              · have hg : g ∈ [((d4 + (i : Int), d5 + (j : Int)), (d4 + (i : Int), d5 + (j : Int) + 1))] := hg
                rw [List.mem_singleton] at hg
                subst hg
                exact .inr ⟨rfl, .inl (by show d4 + (i : Int) < d4 + (i : Int) + 1; omega)⟩
          · exact ⟨L2, rfl, e2.mono (by omega) (by omega) wk, lw e2 _⟩
        · rintro σ H8 ⟨L3, rfl, e3, hlt⟩
          refine ⟨_, rfl, _, rfl, _, rfl, _, _, rfl, rfl, _, _, rfl, rfl, _, rfl, ite2 (fun hc => ?_) (fun hc => ?_)⟩
          · have hc := of_decide_eq_true hc
            refine ⟨_, rfl, l, _, 5, rfl, e3.box, by omega, by omega, by omega, fun d6 H9 p6 q6 u6 x6 => ⟨_, rfl, _, _, rfl, rfl, _, rfl, ?_⟩⟩
            have e4 := e3.take u6 x6
            have wk2 : ∀ q : Pt, ltP q (d4 + ((i : Nat) : Int), d5 + ((j : Nat) : Int) + 1) → ltP q (d4 + ((i : Nat) : Int), d5 + ((j + 1 : Nat) : Int)) := fun q hq => by
              unfold ltP at hq ⊢
              simp only at hq ⊢
              omega
            refine ite2 (fun _ => ?_) (fun _ => ⟨L3, _, rfl, e4.mono (by omega) (by omega) wk2⟩)
            refine ⟨_, rfl, .inl ⟨rfl, _, SqL.of e4.at_⟩, _, rfl, _, rfl, (by show 2 ≤ sizeLine; decide), fun t1 ht1 => ⟨_, rfl, _, _, rfl, rfl, _, rfl, (by show 2 ≤ sizeLine; decide), fun t2 ht2 => ⟨(by show 2 ≤ sizeLine; decide), fun t3 ht3 => ?_⟩⟩⟩
            have sm : Same H9 (upd (upd (upd H9 t1 (.tup [.int (d4 + (i : Nat)), .int (d5 + (j : Nat))])) t2 (.tup [.int (d4 + (i : Nat) + 1), .int (d5 + (j : Nat))])) t3 (.tup [.ref t1, .ref t2])) := by
              have a1 : Same H9 (upd H9 t1 (.tup [.int (d4 + (i : Nat)), .int (d5 + (j : Nat))])) := Same.at_ ht1
              have a2 := a1.up (a1.free ht2) (o := .tup [.int (d4 + (i : Nat) + 1), .int (d5 + (j : Nat))])
              exact a2.up (a2.free ht3)
            have ea : EdA (upd (upd (upd H9 t1 (.tup [.int (d4 + (i : Nat)), .int (d5 + (j : Nat))])) t2 (.tup [.int (d4 + (i : Nat) + 1), .int (d5 + (j : Nat))])) t3 (.tup [.ref t1, .ref t2])) t3 ((d4 + (i : Nat), d5 + (j : Nat)), (d4 + (i : Nat) + 1, d5 + (j : Nat))) :=
              ⟨t1, t2, upd_same, (Same.at_ ht3).pt ((Same.at_ ht2).pt upd_same), (Same.at_ ht3).pt upd_same⟩
            have okf : okE ((d4 + (i : Nat), d5 + (j : Nat)), (d4 + (i : Nat) + 1, d5 + (j : Nat))) := ⟨⟨by show 0 ≤ d4 + (i : Int); omega, by show d4 + (i : Int) ≤ 30; omega, by show 0 ≤ d5 + (j : Int); omega, by show d5 + (j : Int) ≤ 30; omega⟩, ⟨by show 0 ≤ d4 + (i : Int) + 1; omega, by show d4 + (i : Int) + 1 ≤ 30; omega, by show 0 ≤ d5 + (j : Int); omega, by show d5 + (j : Int) ≤ 30; omega⟩, .inl rfl⟩
            have e5 := e4.app sm ea okf hlt (u := (d4 + ((i : Nat) : Int), d5 + ((j + 1 : Nat) : Int))) (.inr ⟨rfl, by show d5 + (j : Int) < d5 + ((j + 1 : Nat) : Int); omega⟩) (fun g hg => wk2 _ (e4.low g hg))
            refine ⟨p, _, _, rfl, rfl, sm _ _ e4.at_, ?_, L3 ++ [(t3, ((d4 + (i : Nat), d5 + (j : Nat)), (d4 + (i : Nat) + 1, d5 + (j : Nat))))], _, rfl, e5.mono (by omega) (by omega) fun _ h => h⟩
            rw [rf_len, sizeLine_eq]
            have h1 := e4.few
            have h2 : 2 * M * i ≤ 2 * M * 5 := Nat.mul_le_mul_left _ i5
            omega
          · refine ⟨L3, _, rfl, e3.mono (by omega) (by omega) fun q hq => ?_⟩
            unfold ltP at hq ⊢
            simp only at hq ⊢
            omega
      · rintro σ H7 ⟨L2, v9', rfl, e2⟩
        refine ⟨L2, _, v9', rfl, e2.mono (by omega) ?_ fun q hq => ?_⟩
        · have : 2 * M * (i + 1) = 2 * M * i + 2 * M := Nat.mul_succ _ _
          omega
        · unfold ltP at hq ⊢
          simp only at hq ⊢
          omega
    · rintro σ H6 ⟨L, v8, v9, rfl, e⟩
      refine ⟨_, rfl, k p L H6 e.but (e.box.mono (by omega)) e.at_ e.el e.ss e.ok ?_ e.new e.nel⟩
      have h1 := e.few
      have h2 : 2 * M * wN ≤ 2 * M * M := Nat.mul_le_mul_left _ hw
      have h3 : ((2 * M * M : Nat) : Int) = 2 * ((m + 1) * (m + 1)) := by
        rw [Int.natCast_mul, Int.natCast_mul, hM, Int.mul_assoc]
        rfl
      omega
end
end NC
/-! The law's own reading of points and their directions. -/
namespace NC
open PySem PySem.Spec PyProof.Rows L2
/-- the four edges that may stand at a point -/
def row4 (p : Pt) : Nat → Ed
  | 0 => (p, (p.1 + 1, p.2))
  | 1 => (p, (p.1, p.2 + 1))
  | 2 => ((p.1 - 1, p.2), p)
  | _ => ((p.1, p.2 - 1), p)
def cntR (es : List Ed) (p : Pt) : Nat → Nat
  | 0 => 0
  | i + 1 => cntR es p i + b1 (decide (row4 p i ∈ es))
theorem cntR4 (es : List Ed) (p : Pt) : cntR es p 4 = deg es p := by
  simp [cntR, row4, deg]
theorem join_len : ∀ (ys : List Str), (∀ s ∈ ys, s.length = 1) → (Txt.join ("" : Str) ys).length = ys.length := by
  have key : ∀ ys : List (List Nat), (∀ s ∈ ys, s.length = 1) → (TL.joinL [] ys).length = ys.length := by
    intro ys
    induction ys with
    | nil => intro _; rfl
    | cons y ys ih =>
      intro h
      have hy := h y List.mem_cons_self
      have ht := ih fun s hs => h s (List.mem_cons_of_mem _ hs)
      cases ys with
      | nil => simpa [TL.joinL] using hy
      | cons z zs =>
        show (y ++ ([] ++ TL.joinL [] (z :: zs))).length = _
        rw [List.nil_append, List.length_append, hy, ht]
        simp
        omega
  intro ys h
  rw [TL.join_eq]
  have e := TL.tl_join ("" : Str) ys
  have e2 : (TL.tl (Str.join ("" : Str) ys)).length = (Str.join ("" : Str) ys).length := by
    show (Str.join ("" : Str) ys).cps.toList.length = _
    rw [Array.length_toList]
    rfl
  rw [← e2, e]
  have e3 : TL.tl ("" : Str) = [] := by decide +kernel
  rw [e3, key]
  · rw [List.length_map]
  · intro s hs
    obtain ⟨t, ht, rfl⟩ := List.mem_map.mp hs
    have := h t ht
    show t.cps.toList.length = 1
    rw [Array.length_toList]
    exact this

theorem sum_ones : ∀ ys : List Str, (∀ z ∈ ys, z.length = 1) → (ys.map (·.length)).sum = ys.length
  | [], _ => rfl
  | y :: ys, h => by
    rw [List.map_cons, List.sum_cons, h y List.mem_cons_self, sum_ones ys fun z hz => h z (List.mem_cons_of_mem _ hz), List.length_cons]
    omega
theorem cntR_le (es : List Ed) (p : Pt) : ∀ i, cntR es p i ≤ i
  | 0 => Nat.le_refl _
  | i + 1 => by
    have h := cntR_le es p i
    have h2 : b1 (decide (row4 p i ∈ es)) ≤ 1 := by unfold b1; split <;> omega
    show cntR es p i + b1 (decide (row4 p i ∈ es)) ≤ i + 1
    omega
theorem rowA {H : Hp} {x y z : Addr} {u v : Int} {o : Addr → List V} {c : Str} {e : Ed} (h1 : H x = none) (h2 : upd H x (.tup [.int u, .int v]) y = none) (h3 : upd (upd H x (.tup [.int u, .int v])) y (.tup (o x)) z = none)
    (he : ∀ H' e1, Same H H' → PtA H' e1 (u, v) → ∃ b c, o e1 = [.ref b, .ref c] ∧ PtA H' b e.1 ∧ PtA H' c e.2) :
    Same H (upd (upd (upd H x (.tup [.int u, .int v])) y (.tup (o x))) z (.tup [.str c, .ref y])) ∧ ∃ ea, upd (upd (upd H x (.tup [.int u, .int v])) y (.tup (o x))) z (.tup [.str c, .ref y]) z = some (.tup [.str c, .ref ea]) ∧ EdA (upd (upd (upd H x (.tup [.int u, .int v])) y (.tup (o x))) z (.tup [.str c, .ref y])) ea e := by
  have s1 : Same H (upd H x (.tup [.int u, .int v])) := Same.at_ h1
  have s2 := s1.up (s1.free h2) (o := .tup (o x))
  have s3 := s2.up (s2.free h3) (o := .tup [.str c, .ref y])
  have t2 : Same (upd H x (.tup [.int u, .int v])) (upd (upd H x (.tup [.int u, .int v])) y (.tup (o x))) := Same.at_ h2
  have t3 : Same (upd (upd H x (.tup [.int u, .int v])) y (.tup (o x))) (upd (upd (upd H x (.tup [.int u, .int v])) y (.tup (o x))) z (.tup [.str c, .ref y])) := Same.at_ h3
  obtain ⟨b, d, e1, e2, e3⟩ := he _ x s3 (t3.pt (t2.pt upd_same))
  refine ⟨s3, y, upd_same, b, d, ?_, e2, e3⟩
  rw [← e1]
  exact t3 _ _ upd_same

section
variable {P : Program} {w : World} {K : PySem.W.Frag} {mg : Str → Option Value} {base : Heap}
def spLDirs : Sp := fun vs H Q _ => ∃ (l a : Addr) (L : List (Addr × Ed)) (p : Pt), vs = [.ref l, .ref a] ∧ H l = some (.lst (rf L)) ∧ EL H L ∧ PtA H a p ∧ ∀ z H', Same H H' → z.length = deg (eds L) p → Q (.str z) H'
theorem scLDirs : FnScope ["_law_edges_here", "_law_point", "_law_x", "_law_y", "_law_rows", "_law_letter", "_law_edge"] ["_law_edges_here", "_law_point"] (defScope lDirs) := ⟨rfl, rfl, rfl, by decide +kernel, rfl, by decide +kernel, by decide +kernel⟩
theorem ok_ldirs {f : Addr} {fd : FuncData} (D : Dn K mg "_law_dirs" lDirs ["_law_edges_here", "_law_point"] f fd) : FnOk P w K mg base L2.CX0 1 f fd ["_law_edges_here", "_law_point"] spLDirs := by
  refine D.F.ok scLDirs (fun vs H Q E h => ?_) (fun cdv A outer s H vs Q E hr h => ?_)
  · obtain ⟨l, a, L, p, rfl, _⟩ := h
    rfl
  · obtain ⟨l, a, L, p, rfl, hl, hL, hp, k⟩ := h
    have hu : (A.deeper (envOfC ("_law_dirs" : Str) (defScope lDirs) s.heap.objs.size f cdv)).units + 65 < cLine := by have := hr.un; omega
    refine ⟨_, pss_cons (ps_asg (pv 1) (pg_tup (by rfl) (pgs_cons (pg_name (i := 2) scLDirs.nd rfl (Or.inl rfl)) (pgs_cons (pg_name (i := 3) scLDirs.nd rfl (Or.inl rfl)) pgs_nil))))
      (pss_cons (ps_set (i := 4) scLDirs.nd rfl (Or.inl rfl) (pe_lst (pa_cons (pe_tup (pa_cons pe_str (pa_cons (pe_tup (pa_cons (pv 1) (pa_cons (pe_tup (pa_cons (pe_op op_add (pv 2) pe_int) (pa_cons (pv 3) pa_nil))) pa_nil))) pa_nil)))
          (pa_cons (pe_tup (pa_cons pe_str (pa_cons (pe_tup (pa_cons (pv 1) (pa_cons (pe_tup (pa_cons (pv 2) (pa_cons (pe_op op_add (pv 3) pe_int) pa_nil))) pa_nil))) pa_nil))) pa_nil))))
      (pss_cons (ps_set (i := 4) scLDirs.nd rfl (Or.inl rfl) (pe_op op_cat (pv 4) (pe_lst (pa_cons (pe_tup (pa_cons pe_str (pa_cons (pe_tup (pa_cons (pe_tup (pa_cons (pe_op op_sub (pv 2) pe_int) (pa_cons (pv 3) pa_nil))) (pa_cons (pv 1) pa_nil))) pa_nil)))
          (pa_cons (pe_tup (pa_cons pe_str (pa_cons (pe_tup (pa_cons (pe_tup (pa_cons (pv 2) (pa_cons (pe_op op_sub (pv 3) pe_int) pa_nil))) (pa_cons (pv 1) pa_nil))) pa_nil))) pa_nil)))))
      (pss_one (ps_ret (pe_join pe_str (pe_lc (own := [("_law_letter", 5), ("_law_edge", 6)]) (g := gTup K 2 (gCons (gName 5) (gCons (gName 6) gNil))) (tt := tTest (tOp (rInE K false) (tVar 6) (tVar 0))) rfl scLDirs.nd (pi_list (pv 4))
        (blkOk_by (N := ["_law_edges_here", "_law_point", "_law_x", "_law_y", "_law_rows", "_law_letter", "_law_edge"]) (sc := defScope lDirs) (by decide +kernel))
        (fun _ _ _ _ _ => pg_tup (by rfl) (pgs_cons (pg_name (i := 5) scLDirs.nd rfl (Or.inl rfl)) (pgs_cons (pg_name (i := 6) scLDirs.nd rfl (Or.inl rfl)) pgs_nil)))
        (fun _ _ _ _ _ => pts_one (pt_cmpR (op_inE hu) (pv 6) (pv 0) (by rfl))) (fun _ _ _ _ _ => pv 5))))))), ?_⟩
    refine ⟨_, rfl, a, _, rfl, SqT.of hp, rfl, .int p.1, _, rfl, .int p.2, _, rfl, rfl, ?_⟩
    -- the four rows
    refine ⟨_, rfl, _, rfl, _, _, rfl, rfl, _, rfl, (by show 2 ≤ sizeLine; decide), fun a1 h1 => ⟨(by show 2 ≤ sizeLine; decide), fun b1' h2 => ⟨(by show 2 ≤ sizeLine; decide), fun c1 h3 => ?_⟩⟩⟩
    obtain ⟨s3, r0⟩ := rowA (o := fun e1 => [.ref a, .ref e1]) (c := "r") (e := row4 p 0) h1 h2 h3 fun H' e1 hs he => ⟨a, e1, rfl, hs.pt hp, he⟩
    generalize upd (upd (upd H a1 (.tup [.int (p.1 + 1), .int p.2])) b1' (.tup [.ref a, .ref a1])) c1 (.tup [.str "r", .ref b1']) = H3 at s3 r0 ⊢
    refine ⟨_, rfl, _, rfl, _, rfl, _, _, rfl, rfl, (by show 2 ≤ sizeLine; decide), fun a2 h4 => ⟨(by show 2 ≤ sizeLine; decide), fun b2 h5 => ⟨(by show 2 ≤ sizeLine; decide), fun c2 h6 => ?_⟩⟩⟩
    obtain ⟨s6, r1⟩ := rowA (o := fun e1 => [.ref a, .ref e1]) (c := "u") (e := row4 p 1) h4 h5 h6 fun H' e1 hs he => ⟨a, e1, rfl, hs.pt (s3.pt hp), he⟩
    generalize upd (upd (upd H3 a2 (.tup [.int p.1, .int (p.2 + 1)])) b2 (.tup [.ref a, .ref a2])) c2 (.tup [.str "u", .ref b2]) = H6 at s6 r1 ⊢
    have s06 := s3.trans s6
    refine ⟨(by show 2 ≤ sizeLine; decide), fun m1 h7 => ?_⟩
    have s7 : Same H6 (upd H6 m1 (.lst [.ref c1, .ref c2])) := Same.at_ h7
    have hm1 : upd H6 m1 (.lst [.ref c1, .ref c2]) m1 = some (.lst [.ref c1, .ref c2]) := upd_same
    generalize upd H6 m1 (.lst [.ref c1, .ref c2]) = H7 at s7 hm1 ⊢
    have s07 := s06.trans s7
    refine ⟨_, rfl, ?_⟩
    refine ⟨_, rfl, _, _, rfl, rfl, _, rfl, (by show 2 ≤ sizeLine; decide), fun a3 h8 => ⟨_, rfl, (by show 2 ≤ sizeLine; decide), fun b3 h9 => ⟨(by show 2 ≤ sizeLine; decide), fun c3 h10 => ?_⟩⟩⟩
    obtain ⟨s10, r2⟩ := rowA (o := fun e1 => [.ref e1, .ref a]) (c := "l") (e := row4 p 2) h8 h9 h10 fun H' e1 hs he => ⟨e1, a, rfl, he, hs.pt (s07.pt hp)⟩
    generalize upd (upd (upd H7 a3 (.tup [.int (p.1 - 1), .int p.2])) b3 (.tup [.ref a3, .ref a])) c3 (.tup [.str "l", .ref b3]) = H10 at s10 r2 ⊢
    have s010 := s07.trans s10
    refine ⟨_, rfl, _, rfl, _, _, rfl, rfl, (by show 2 ≤ sizeLine; decide), fun a4 h11 => ⟨_, rfl, (by show 2 ≤ sizeLine; decide), fun b4 h12 => ⟨(by show 2 ≤ sizeLine; decide), fun c4 h13 => ?_⟩⟩⟩
    obtain ⟨s13, r3⟩ := rowA (o := fun e1 => [.ref e1, .ref a]) (c := "d") (e := row4 p 3) h11 h12 h13 fun H' e1 hs he => ⟨e1, a, rfl, he, hs.pt (s010.pt hp)⟩
    generalize upd (upd (upd H10 a4 (.tup [.int p.1, .int (p.2 - 1)])) b4 (.tup [.ref a4, .ref a])) c4 (.tup [.str "d", .ref b4]) = H13 at s13 r3 ⊢
    have s013 := s010.trans s13
    refine ⟨(by show 2 ≤ sizeLine; decide), fun m2 h14 => ?_⟩
    have s14 : Same H13 (upd H13 m2 (.lst [.ref c3, .ref c4])) := Same.at_ h14
    have hm2 : upd H13 m2 (.lst [.ref c3, .ref c4]) m2 = some (.lst [.ref c3, .ref c4]) := upd_same
    generalize upd H13 m2 (.lst [.ref c3, .ref c4]) = H14 at s14 hm2 ⊢
    refine ⟨m1, m2, _, _, rfl, rfl, s14 _ _ (s13 _ _ (s10 _ _ hm1)), hm2, (by show 4 ≤ sizeLine; decide), fun m3 h15 => ?_⟩
    rw [show (([V.ref c1, V.ref c2] : List V) ++ [V.ref c3, V.ref c4]) = [V.ref c1, V.ref c2, V.ref c3, V.ref c4] from rfl]
    have s15 : Same H14 (upd H14 m3 (.lst [.ref c1, .ref c2, .ref c3, .ref c4])) := Same.at_ h15
    have hm3 : upd H14 m3 (.lst [.ref c1, .ref c2, .ref c3, .ref c4]) m3 = some (.lst [.ref c1, .ref c2, .ref c3, .ref c4]) := upd_same
    have sAll : Same H (upd H14 m3 (.lst [.ref c1, .ref c2, .ref c3, .ref c4])) := (s013.trans s14).trans s15
    have rows : ∀ (i : Nat) (v : V), ([.ref c1, .ref c2, .ref c3, .ref c4] : List V)[i]? = some v → ∃ (c : Addr) (e : Addr) (z : Str), v = .ref c ∧ z.length = 1 ∧ upd H14 m3 (.lst [.ref c1, .ref c2, .ref c3, .ref c4]) c = some (.tup [.str z, .ref e]) ∧ EdA (upd H14 m3 (.lst [.ref c1, .ref c2, .ref c3, .ref c4])) e (row4 p i) := by
      intro i v hv
      have k15 := s14.trans s15
      rcases i with _ | _ | _ | _ | i
      · obtain ⟨e, g1, g2⟩ := r0
        have kk := (((s6.trans s7).trans s10).trans s13).trans k15
        exact ⟨c1, e, _, (Option.some.inj hv).symm, rfl, kk _ _ g1, kk.ed g2⟩
      · obtain ⟨e, g1, g2⟩ := r1
        have kk := ((s7.trans s10).trans s13).trans k15
        exact ⟨c2, e, _, (Option.some.inj hv).symm, rfl, kk _ _ g1, kk.ed g2⟩
      · obtain ⟨e, g1, g2⟩ := r2
        have kk := s13.trans k15
        exact ⟨c3, e, _, (Option.some.inj hv).symm, rfl, kk _ _ g1, kk.ed g2⟩
      · obtain ⟨e, g1, g2⟩ := r3
        exact ⟨c4, e, _, (Option.some.inj hv).symm, rfl, k15 _ _ g1, k15.ed g2⟩
      · simp at hv
    generalize upd H14 m3 (.lst [.ref c1, .ref c2, .ref c3, .ref c4]) = H15 at hm3 sAll rows ⊢
    -- the letters of those that stand
    refine ⟨⟨_, rfl⟩, _, rfl, m3, rfl, ⟨_, SqL.of hm3⟩, fun R hR => ?_⟩
    refine lc_list (K := K) (a := m3) (xs := [.ref c1, .ref c2, .ref c3, .ref c4]) (fun i H' => Same H15 H' ∧ ∃ ys : List Str, H' R = some (.lst (ys.map V.str)) ∧ (∀ z ∈ ys, z.length = 1) ∧ ys.length = cntR (eds L) p i) ⟨Same.at_ hR, [], upd_same, (fun _ z => nomatch z), rfl⟩ (fun i H' _ z => SqL.of (z.1 _ _ hm3)) ?_ ?_
    · rintro i v H' hv ⟨sa, ys, hd, h1, hn⟩
      obtain ⟨c, e, z, rfl, hz, g1, g2⟩ := rows i v hv
      refine ⟨c, [.str z, .ref e], rfl, SqT.of (sa _ _ g1), rfl, .str z, _, rfl, .ref e, _, rfl, rfl, rfl, ?_⟩
      refine ⟨_, rfl, _, rfl, e, row4 p i, l, L, rfl, sa.ed g2, rfl, SqL.of (sa _ _ (sAll _ _ hl)), (sAll.trans sa).el hL, _, rfl, ?_⟩
      refine ite2 (fun hc => ⟨_, rfl, _, hd, ?_, sa.up hR, ys ++ [z], ?_, ?_, ?_⟩) (fun hc => ⟨sa, ys, hd, h1, ?_⟩)
      · have hi : i < 4 := (List.getElem?_eq_some_iff.mp hv).1
        have := cntR_le (eds L) p i
        rw [List.length_map, hn, sizeLine_eq]
        omega
      · rw [upd_same, List.map_append]
        rfl
      · intro y hy
        rcases List.mem_append.mp hy with hy | hy
        · exact h1 y hy
        · rw [List.mem_singleton] at hy
          subst hy
          exact hz
      · have hc : decide (row4 p i ∈ eds L) = true := hc
        rw [List.length_append, hn]
        simp [cntR, hc, b1]
      · have hc : ¬ decide (row4 p i ∈ eds L) = true := hc
        rw [hn]
        simp only [cntR, Bool.eq_false_iff.mpr hc]
        rfl
    · rintro H' ⟨sa, ys, hd, h1, hn⟩
      have hn : ys.length = cntR (eds L) p 4 := hn
      refine ⟨_, R, ys, rfl, rfl, .inl (SqL.of hd), ?_, k _ _ (sAll.trans sa) ?_⟩
      · have hs := sum_ones ys h1
        have := cntR_le (eds L) p 4
        have e0 : ("" : Str).length = 0 := rfl
        rw [hs, e0, Nat.mul_zero]
        omega
      · rw [join_len ys h1, hn, cntR4]
end
end NC
/-! The law's own points and turned edges. -/
namespace NC
open PySem PySem.Spec PyProof.Rows L2
theorem pts_flt (L : List (Addr × Pt)) (f : Pt → Bool) : pts (L.filter fun q => f q.2) = (pts L).filter f := by
  unfold pts
  rw [List.filter_map]
  rfl
theorem pts_both (L M : List (Addr × Pt)) : pts (L ++ M) = pts L ++ pts M := List.map_append ..
theorem rf_bothP {β : Type} (L M : List (Addr × β)) : rf L ++ rf M = rf (L ++ M) := by unfold rf; rw [List.map_append]
section
variable {P : Program} {w : World} {K : PySem.W.Frag} {mg : Str → Option Value} {base : Heap}
def spLPts : Sp := fun vs H Q _ => ∃ (l : Addr) (L : List (Addr × Ed)), vs = [.ref l] ∧ H l = some (.lst (rf L)) ∧ EL H L ∧ (∀ e ∈ eds L, okE e) ∧ L.length ≤ 400 ∧
  ∀ p M H', Same H H' → H' p = some (.lst (rf M)) → PL H' M → SP (pts M) → (∀ q, q ∈ pts M ↔ ptsOf (eds L) q) → M.length ≤ 800 → Q (.ref p) H'
theorem scLPts : FnScope ["_law_edges_here", "_law_found", "_law_edge", "_law_point"] ["_law_edges_here"] (defScope lPoints) := ⟨rfl, rfl, rfl, by decide +kernel, rfl, by decide +kernel, by decide +kernel⟩
theorem ok_lpts {f : Addr} {fd : FuncData} (D : Dn K mg "_law_points" lPoints ["_law_edges_here"] f fd) (T : Bt mg) : FnOk P w K mg base L2.CX0 1 f fd ["_law_edges_here"] spLPts := by
  refine D.F.ok scLPts (fun vs H Q E h => ?_) (fun cdv A outer s H vs Q E hr h => ?_)
  · obtain ⟨l, L, rfl, _⟩ := h
    rfl
  · obtain ⟨l, L, rfl, hl, hL, ok, hn4, k⟩ := h
    have hu : (A.deeper (envOfC ("_law_points" : Str) (defScope lPoints) s.heap.objs.size f cdv)).units + 65 < cLine := by have := hr.un; omega
    have hu' : (A.deeper (envOfC ("_law_points" : Str) (defScope lPoints) s.heap.objs.size f cdv)).units + 64 < cLine := by omega
    refine ⟨_, pss_cons (ps_set (i := 1) scLPts.nd rfl (Or.inr rfl) (pe_lst pa_nil))
      (pss_cons (ps_for PassesOwn.never rfl (pi_list (pv 0)) (pg_name (i := 2) scLPts.nd rfl (Or.inl rfl))
        (pss_one (ps_set (i := 1) scLPts.nd rfl (Or.inr rfl) (pe_op op_cat (pv 1) (pe_lc (own := [("_law_point", 3)]) (g := gName 3) (tt := tTest (tOp (rInP K true) (tVar 3) (tVar 1))) rfl scLPts.nd (pi_tup (pv 2))
          (blkOk_by (N := ["_law_edges_here", "_law_found", "_law_edge", "_law_point"]) (sc := defScope lPoints) (by decide +kernel))
          (fun _ _ _ _ _ => pg_name (i := 3) scLPts.nd rfl (Or.inl rfl)) (fun _ _ _ _ _ => pts_one (pt_cmpR (op_notInP hu) (pv 3) (pv 1) (by rfl))) (fun _ _ _ _ _ => pv 3))))))
      (pss_one (ps_ret (pe_callB (call_srtP hu' : CallR _ _ (rSrtP K)) (by rfl) T.sorted (by decide +kernel) (pa_cons (pv 1) pa_nil))))), ?_⟩
    refine ⟨Nat.zero_le _, fun m hm => ?_⟩
    refine ⟨_, rfl, l, rfl, ⟨_, SqL.of (Same.at_ hm _ _ hl)⟩, for_list (K := K) (a := l) (xs := rf L) (fun i σ H' => Same H H' ∧ ∃ r M v u, σ = [some (V.ref l), some (.ref r), v, u] ∧ H' r = some (.lst (rf M)) ∧ PL H' M ∧ (pts M).Nodup ∧ (∀ q, q ∈ pts M ↔ ptsOf ((eds L).take i) q) ∧ M.length ≤ 2 * i)
      ⟨Same.at_ hm, m, [], none, none, rfl, upd_same, (fun _ z => nomatch z), List.nodup_nil, (fun q => by simp [ptsOf]), Nat.zero_le _⟩ (fun i σ H' _ z => SqL.of (z.1 _ _ hl)) ?_ ?_⟩
    · rintro i x σ H1 hx ⟨s1, r, M, v, u, rfl, hr1, hM, nd, hq, hlen⟩
      obtain ⟨q, hq0, rfl⟩ := rf_get hx
      have hi400 : i < 400 := by
        have := (List.getElem?_eq_some_iff.mp hq0).1
        omega
      have hqe : (eds L)[i]? = some q.2 := by rw [List.getElem?_map, hq0]; rfl
      have okq : okE q.2 := ok _ (List.mem_of_getElem? hqe)
      obtain ⟨b, c, hqt, hb, hc⟩ := s1.ed (hL q (List.mem_of_getElem? hq0))
      -- the edge's points that are not there yet
      refine ⟨_, rfl, _, rfl, q.1, rfl, ⟨_, SqT.of hqt⟩, fun R hR => ?_⟩
      have two : ([.ref b, .ref c] : List V) = rf [(b, q.2.1), (c, q.2.2)] := rfl
      have pl2 : PL H1 [(b, q.2.1), (c, q.2.2)] := fun y hy => by
        simp only [List.mem_cons, List.not_mem_nil, or_false] at hy
        rcases hy with rfl | rfl
        · exact hb
        · exact hc
      refine lc_tup (K := K) (a := q.1) (xs := rf [(b, q.2.1), (c, q.2.2)]) (fun j H' => Same H1 H' ∧ H' R = some (.lst (rf (([(b, q.2.1), (c, q.2.2)].take j).filter fun y => !decide (y.2 ∈ pts M))))) ⟨Same.at_ hR, upd_same⟩ (fun j H' _ z => SqT.of (z.1 _ _ hqt)) ?_ ?_
      · rintro j y H2 hy ⟨s2, hd⟩
        obtain ⟨z, hz, rfl⟩ := rf_get hy
        obtain ⟨p1, p2⟩ := filt_pv hR (fun y => !decide (y.2 ∈ pts M)) hz s2 hd
        refine ⟨rfl, _, rfl, _, rfl, z.1, z.2, r, M, rfl, s2.pt (pl2 z (List.mem_of_getElem? hz)), rfl, SqL.of (s2 _ _ hr1), fun y hy => s2.pt (hM y hy), _, rfl, ?_⟩
        refine ite2 (fun hc => ⟨_, rfl, _, hd, ?_, p1 hc⟩) (fun hc => p2 (Bool.eq_false_iff.mpr hc))
        rw [rf_len]
        refine Nat.lt_of_le_of_lt (List.length_filter_le _ _) ?_
        rw [List.length_take, sizeLine_eq]
        show min j 2 < _
        omega
      · rintro H2 ⟨s2, hd⟩
        have h2 : (rf [(b, q.2.1), (c, q.2.2)]).length = 2 := rfl
        rw [h2] at hd
        have hd : H2 R = some (.lst (rf ([(b, q.2.1), (c, q.2.2)].filter fun y => !decide (y.2 ∈ pts M)))) := hd
        generalize hF : ([(b, q.2.1), (c, q.2.2)].filter fun y => !decide (y.2 ∈ pts M)) = F at hd
        have hFl : F.length ≤ 2 := by rw [← hF]; exact List.length_filter_le _ _
        refine ⟨r, R, _, _, rfl, rfl, s2 _ _ hr1, hd, (by rw [rf_len, rf_len, sizeLine_eq]; omega), fun g hg => ?_⟩
        have s12 := s1.trans s2
        have s3 := s12.up (s12.free hg) (o := .lst (rf M ++ rf F))
        have s23 : Same H1 (upd H2 g (.lst (rf M ++ rf F))) := s2.up (s2.free hg)
        have eF : pts F = [q.2.1, q.2.2].filter fun y => !decide (y ∈ pts M) := by
          rw [← hF]
          exact pts_flt [(b, q.2.1), (c, q.2.2)] fun y => !decide (y ∈ pts M)
        have ne12 : q.2.1 ≠ q.2.2 := okE_ne okq
        refine ⟨s3, g, M ++ F, _, _, rfl, ?_, ?_, ?_, ?_, ?_⟩
        · rw [upd_same, rf_bothP]
        · intro y hy
          rcases List.mem_append.mp hy with hy | hy
          · exact s23.pt (hM y hy)
          · rw [← hF] at hy
            exact s23.pt (pl2 y (List.mem_filter.mp hy).1)
        · rw [pts_both]
          refine List.nodup_append.mpr ⟨nd, ?_, fun x hx y hy => ?_⟩
          · rw [eF]
            exact List.Pairwise.filter _ (List.pairwise_pair.mpr ne12)
          · rw [eF, List.mem_filter] at hy
            intro z
            subst z
            simp [hx] at hy
        · intro y
          have tk : (eds L).take (i + 1) = (eds L).take i ++ [q.2] := by
            rw [List.take_add_one, hqe]
            rfl
          rw [pts_both, List.mem_append, eF, List.mem_filter, tk]
          have h0 := hq y
          unfold ptsOf at h0 ⊢
          simp only [List.mem_append, List.mem_singleton, List.mem_cons, List.not_mem_nil, or_false]
          constructor
          · rintro (h | ⟨h, _⟩)
            · obtain ⟨e, he, g⟩ := h0.mp h
              exact ⟨e, .inl he, g⟩
            · exact ⟨q.2, .inr rfl, h⟩
          · rintro ⟨e, he | rfl, g⟩
            · exact .inl (h0.mpr ⟨e, he, g⟩)
            · by_cases hm : y ∈ pts M
              · exact .inl hm
              · exact .inr ⟨g, by simp [hm]⟩
        · rw [List.length_append]
          omega
    · rintro σ H1 ⟨s1, r, M, v, u, rfl, hr1, hM, nd, hq, hlen⟩
      have hn : (rf L).length = (eds L).length := by rw [rf_len, List.length_map]
      rw [hn] at hq hlen
      rw [List.length_map] at hlen
      refine ⟨_, rfl, r, M, rfl, SqL.of hr1, hM, fun p N pm pw hp => ?_⟩
      have s2 := s1.up (s1.free hp) (o := .lst (rf N))
      have nd2 : (pts N).Nodup := (pm.map _).nodup_iff.mpr nd
      refine k p N _ s2 upd_same (fun y hy => (Same.at_ hp).pt (hM y (pm.mem_iff.mp hy))) (rising_of nd2 ltP_tri pw) (fun y => ?_) ?_
      · rw [(pm.map _).mem_iff, hq, List.take_length]
      · rw [pm.length_eq]
        omega
end
end NC
/-! The law's own turned edges. -/
namespace NC
open PySem PySem.Spec PyProof.Rows L2
theorem perm_two {β : Type} {a b : β} {l : List β} (h : l.Perm [a, b]) : l = [a, b] ∨ l = [b, a] := by
  have hl := h.length_eq
  match l, hl with
  | [u, v], _ =>
    have hu : u ∈ [a, b] := h.mem_iff.mp List.mem_cons_self
    simp only [List.mem_cons, List.not_mem_nil, or_false] at hu
    rcases hu with rfl | rfl
    · have h2 := (List.perm_cons u).mp h
      exact .inl (by rw [List.perm_singleton.mp h2])
    · have h2 : [u, v].Perm [u, a] := h.trans (List.Perm.swap u a [])
      have h3 := (List.perm_cons u).mp h2
      exact .inr (by rw [List.perm_singleton.mp h3])
section
variable {P : Program} {w : World} {K : PySem.W.Frag} {mg : Str → Option Value} {base : Heap}
def spLTurn : Sp := fun vs H Q _ => ∃ (l : Addr) (L : List (Addr × Ed)) (k : Bool), vs = [.ref l, .int (if k then 1 else 0)] ∧ H l = some (.lst (rf L)) ∧ EL H L ∧ SS (eds L) ∧ (∀ e ∈ eds L, okE e) ∧ L.length ≤ 400 ∧
  ∀ p M H', Same H H' → H' p = some (.lst (rf M)) → EL H' M → Turned k (eds L) (eds M) → Q (.ref p) H'
theorem scLTurn : FnScope ["_law_edges_here", "_law_kind", "_law_found", "_law_edge", "_law_points_here", "_law_x", "_law_y"] ["_law_edges_here", "_law_kind"] (defScope lTurned) := ⟨rfl, rfl, rfl, by decide +kernel, rfl, by decide +kernel, by decide +kernel⟩
theorem ok_lturn {f : Addr} {fd : FuncData} (D : Dn K mg "_law_turned" lTurned ["_law_edges_here", "_law_kind"] f fd) (T : Bt mg) : FnOk P w K mg base L2.CX0 1 f fd ["_law_edges_here", "_law_kind"] spLTurn := by
  refine D.F.ok scLTurn (fun vs H Q E h => ?_) (fun cdv A outer s H vs Q E hr h => ?_)
  · obtain ⟨l, L, k, rfl, _⟩ := h
    rfl
  · obtain ⟨l, L, kd, rfl, hl, hL, ss, ok, hn4, k⟩ := h
    have hu : (A.deeper (envOfC ("_law_turned" : Str) (defScope lTurned) s.heap.objs.size f cdv)).units + 64 < cLine := by have := hr.un; omega
    refine ⟨_, pss_cons (ps_set (i := 2) scLTurn.nd rfl (Or.inl rfl) (pe_lst pa_nil))
      (pss_cons (ps_for PassesOwn.never rfl (pi_list (pv 0)) (pg_name (i := 3) scLTurn.nd rfl (Or.inl rfl))
        (pss_cons (ps_set (i := 4) scLTurn.nd rfl (Or.inl rfl) (pe_lst pa_nil))
        (pss_cons (ps_for PassesOwn.never rfl (pi_tup (pv 3)) (pg_tup (by rfl) (pgs_cons (pg_name (i := 5) scLTurn.nd rfl (Or.inl rfl)) (pgs_cons (pg_name (i := 6) scLTurn.nd rfl (Or.inl rfl)) pgs_nil)))
          (pss_one (ps_expr (pe_bm PySem.F.plainAttrs_list PySem.F.slot_list_append PySem.F.type_list_append mt_append (pv 4) (pa_cons (pe_ix ix_list (pe_lst (pa_cons (pe_tup (pa_cons (pe_op op_sub pe_int (pv 6)) (pa_cons (pv 5) pa_nil))) (pa_cons (pe_tup (pa_cons (pe_op op_sub pe_int (pv 5)) (pa_cons (pv 6) pa_nil))) pa_nil))) (pv 1) (fun _ _ => rfl)) pa_nil)))))
        (pss_one (ps_expr (pe_bm PySem.F.plainAttrs_list PySem.F.slot_list_append PySem.F.type_list_append mt_append (pv 2) (pa_cons (pe_callTy call_tuple_of (by rfl) T.tuple (by decide +kernel) (pa_cons (pe_callB (call_srtP hu : CallR _ _ (rSrtP K)) (by rfl) T.sorted (by decide +kernel) (pa_cons (pv 4) pa_nil)) pa_nil)) pa_nil)))))))
      (pss_one (ps_ret (pe_callB (call_srtE hu : CallR _ _ (rSrtE K)) (by rfl) T.sorted (by decide +kernel) (pa_cons (pv 2) pa_nil))))), ?_⟩
    refine ⟨Nat.zero_le _, fun g hg => ?_⟩
    have s0 : Same H (upd H g (.lst [])) := Same.at_ hg
    refine ⟨_, rfl, l, rfl, ⟨_, SqL.of (s0 _ _ hl)⟩, for_list (K := K) (a := l) (xs := rf L) (fun i σ H' => Same H H' ∧ ∃ M v3 v4 v5 v6, σ = [some (V.ref l), some (.int (if kd then 1 else 0)), some (.ref g), v3, v4, v5, v6] ∧ H' g = some (.lst (rf M)) ∧ EL H' M ∧ eds M = ((eds L).take i).map (tE kd))
      ⟨s0, [], none, none, none, none, rfl, upd_same, (fun _ z => nomatch z), by simp⟩ (fun i σ H' _ z => SqL.of (z.1 _ _ hl)) ?_ ?_⟩
    · rintro i x σ H1 hx ⟨s1, M, v3, v4, v5, v6, rfl, hg1, elM, eM⟩
      obtain ⟨q, hq0, rfl⟩ := rf_get hx
      have hqe : (eds L)[i]? = some q.2 := by rw [List.getElem?_map, hq0]; rfl
      have okq : okE q.2 := ok _ (List.mem_of_getElem? hqe)
      have ne12 : tP kd q.2.1 ≠ tP kd q.2.2 := fun z => okE_ne okq (tP_inj z)
      obtain ⟨b, c, hqt, hb, hc⟩ := s1.ed (hL q (List.mem_of_getElem? hq0))
      refine ⟨Nat.zero_le _, fun r hr => ?_⟩
      have s2 : Same H1 (upd H1 r (.lst [])) := Same.at_ hr
      refine ⟨_, rfl, q.1, rfl, ⟨_, SqT.of (s2 _ _ hqt)⟩, for_tup (K := K) (a := q.1) (xs := [.ref b, .ref c]) (fun j σ H' => Same H1 H' ∧ ∃ N u5 u6, σ = [some (V.ref l), some (.int (if kd then 1 else 0)), some (.ref g), some (.ref q.1), some (.ref r), u5, u6] ∧ H' r = some (.lst (rf N)) ∧ PL H' N ∧ pts N = ([q.2.1, q.2.2].take j).map (tP kd))
        ⟨s2, [], v5, v6, rfl, upd_same, (fun _ z => nomatch z), by simp⟩ (fun j σ H' _ z => SqT.of (z.1 _ _ hqt)) ?_ ?_⟩
      · rintro j y σ H2 hy ⟨s3, N, u5, u6, rfl, hr2, hN, eN⟩
        obtain ⟨u, pt, rfl, hu', hpt⟩ : ∃ (u : Addr) (pt : Pt), y = .ref u ∧ PtA H1 u pt ∧ [q.2.1, q.2.2][j]? = some pt := by
          rcases j with _ | _ | j
          · exact ⟨b, q.2.1, (Option.some.inj hy).symm, hb, rfl⟩
          · exact ⟨c, q.2.2, (Option.some.inj hy).symm, hc, rfl⟩
          · simp at hy
        have hp2 := s3.pt hu'
        refine ⟨u, _, rfl, SqT.of hp2, rfl, .int pt.1, _, rfl, .int pt.2, _, rfl, rfl, ?_⟩
        refine ⟨_, rfl, .inl ⟨rfl, _, SqL.of hr2⟩, _, rfl, _, _, rfl, rfl, _, rfl, (by show 2 ≤ sizeLine; decide), fun t1 ht1 => ⟨_, rfl, _, _, rfl, rfl, _, rfl, (by show 2 ≤ sizeLine; decide), fun t2 ht2 => ⟨(by show 2 ≤ sizeLine; decide), fun t3 ht3 => ?_⟩⟩⟩
        have a1 : Same H2 (upd H2 t1 (.tup [.int (30 - pt.2), .int pt.1])) := Same.at_ ht1
        have a2 : Same (upd H2 t1 (.tup [.int (30 - pt.2), .int pt.1])) (upd (upd H2 t1 (.tup [.int (30 - pt.2), .int pt.1])) t2 (.tup [.int (30 - pt.1), .int pt.2])) := Same.at_ ht2
        have a3 : Same (upd (upd H2 t1 (.tup [.int (30 - pt.2), .int pt.1])) t2 (.tup [.int (30 - pt.1), .int pt.2])) (upd (upd (upd H2 t1 (.tup [.int (30 - pt.2), .int pt.1])) t2 (.tup [.int (30 - pt.1), .int pt.2])) t3 (.lst [.ref t1, .ref t2])) := Same.at_ ht3
        have aa := (a1.trans a2).trans a3
        have g1 : PtA (upd (upd (upd H2 t1 (.tup [.int (30 - pt.2), .int pt.1])) t2 (.tup [.int (30 - pt.1), .int pt.2])) t3 (.lst [.ref t1, .ref t2])) t1 (tP false pt) := (a2.trans a3).pt upd_same
        have g2 : PtA (upd (upd (upd H2 t1 (.tup [.int (30 - pt.2), .int pt.1])) t2 (.tup [.int (30 - pt.1), .int pt.2])) t3 (.lst [.ref t1, .ref t2])) t2 (tP true pt) := a3.pt upd_same
        have g3 : upd (upd (upd H2 t1 (.tup [.int (30 - pt.2), .int pt.1])) t2 (.tup [.int (30 - pt.1), .int pt.2])) t3 (.lst [.ref t1, .ref t2]) t3 = some (.lst [.ref t1, .ref t2]) := upd_same
        generalize upd (upd (upd H2 t1 (.tup [.int (30 - pt.2), .int pt.1])) t2 (.tup [.int (30 - pt.1), .int pt.2])) t3 (.lst [.ref t1, .ref t2]) = H3 at aa g1 g2 g3 ⊢
        obtain ⟨t, hat, ht⟩ : ∃ t, atI ([.ref t1, .ref t2] : List V) (if kd then 1 else 0) = some (.ref t) ∧ PtA H3 t (tP kd pt) := by
          cases kd with
          | false => exact ⟨t1, rfl, g1⟩
          | true => exact ⟨t2, rfl, g2⟩
        refine ⟨_, rfl, t3, _, _, _, rfl, rfl, SqL.of g3, hat, ?_⟩
        have hr3 := aa _ _ hr2
        have hNl : N.length ≤ 2 := by
          have e := congrArg List.length eN
          rw [List.length_map, List.length_map, List.length_take] at e
          have : [q.2.1, q.2.2].length = 2 := rfl
          omega
        refine ⟨r, _, _, rfl, rfl, hr3, (by rw [rf_len, sizeLine_eq]; omega), (s3.trans aa).up hr, N ++ [(t, tP kd pt)], _, _, rfl, ?_, ?_, ?_⟩
        · rw [upd_same, ← rf_bothP]
          rfl
        · have tk : Tk H3 (upd H3 r (.lst (rf N ++ [.ref t]))) := Tk.wr hr3 fun _ z => nomatch z
          intro y hy
          rcases List.mem_append.mp hy with hy | hy
          · exact (aa.pt (hN y hy)).tk tk
          · rw [List.mem_singleton] at hy
            subst hy
            exact ht.tk tk
        · rw [pts_both, eN, List.take_add_one, hpt, List.map_append]
          rfl
      · rintro σ H2 ⟨s3, N, u5, u6, rfl, hr2, hN, eN⟩
        have eN : pts N = [tP kd q.2.1, tP kd q.2.2] := eN
        have hg2 := s3 _ _ hg1
        refine ⟨_, rfl, .inl ⟨rfl, _, SqL.of hg2⟩, _, rfl, r, N, rfl, SqL.of hr2, hN, fun p N' pm pw hp => ?_⟩
        have b1' : Same H2 (upd H2 p (.lst (rf N'))) := Same.at_ hp
        refine ⟨p, _, rfl, .inl ⟨SqL.of upd_same, fun t ht => ?_⟩⟩
        have b2 : Same (upd H2 p (.lst (rf N'))) (upd (upd H2 p (.lst (rf N'))) t (.tup (rf N'))) := Same.at_ ht
        have bb := b1'.trans b2
        have htt : upd (upd H2 p (.lst (rf N'))) t (.tup (rf N')) t = some (.tup (rf N')) := upd_same
        generalize upd (upd H2 p (.lst (rf N'))) t (.tup (rf N')) = H3 at bb htt ⊢
        have plN : PL H3 N' := fun y hy => bb.pt (hN y (pm.mem_iff.mp hy))
        have pmN : (pts N').Perm [tP kd q.2.1, tP kd q.2.2] := eN ▸ pm.map _
        have edT : EdA H3 t (tE kd q.2) := by
          have len2 : N'.length = 2 := by
            have e := pmN.length_eq
            rw [List.length_map] at e
            exact e
          match N', len2 with
          | [y, z], _ =>
            have hy := plN y List.mem_cons_self
            have hz := plN z (List.mem_cons_of_mem _ List.mem_cons_self)
            have nlt : ¬ ltP z.2 y.2 := (List.pairwise_cons.mp pw).1 _ List.mem_cons_self
            have e : tE kd q.2 = (y.2, z.2) := by
              unfold tE nrm
              rcases perm_two pmN with g | g
              · simp only [pts, List.map_cons, List.map_nil, List.cons.injEq, and_true] at g
                rw [← g.1, ← g.2]
                have : ltP y.2 z.2 := by
                  rcases ltP_tri y.2 z.2 with h | h | h
                  · exact h
                  · exact absurd (by rw [← g.1, ← g.2]; exact h) ne12
                  · exact absurd h nlt
                rw [if_pos this]
              · simp only [pts, List.map_cons, List.map_nil, List.cons.injEq, and_true] at g
                rw [← g.1, ← g.2, if_neg nlt]
            rw [e]
            exact ⟨y.1, z.1, htt, hy, hz⟩
        have hMl : M.length ≤ 400 := by
          have e := congrArg List.length eM
          rw [List.length_map, List.length_map, List.length_take, List.length_map] at e
          omega
        have hg3 := bb _ _ hg2
        refine ⟨g, _, _, rfl, rfl, hg3, (by rw [rf_len, sizeLine_eq]; omega), ((s1.trans s3).trans bb).up hg, M ++ [(t, tE kd q.2)], _, _, _, _, rfl, ?_, ?_, ?_⟩
        · rw [upd_same, ← rf_both]
          rfl
        · have tk : Tk H3 (upd H3 g (.lst (rf M ++ [.ref t]))) := Tk.wr hg3 fun _ z => nomatch z
          exact (((s3.trans bb).el elM).tk tk).both fun y hy => by
            rw [List.mem_singleton] at hy
            subst hy
            exact edT.tk tk
        · rw [eds_both, eM, List.take_add_one, hqe, List.map_append]
          rfl
    · rintro σ H1 ⟨s1, M, v3, v4, v5, v6, rfl, hg1, elM, eM⟩
      have hn : (rf L).length = (eds L).length := by rw [rf_len, List.length_map]
      rw [hn, List.take_length] at eM
      refine ⟨_, rfl, g, M, rfl, SqL.of hg1, elM, fun p N pm pw hp => ?_⟩
      have s2 := s1.up (s1.free hp) (o := .lst (rf N))
      have nd : (eds N).Nodup := by
        rw [(pm.map _).nodup_iff]
        show (eds M).Nodup
        rw [eM]
        exact map_tE_nodup ss.nodup ok
      refine k p N _ s2 upd_same (fun y hy => (Same.at_ hp).ed (elM y (pm.mem_iff.mp hy))) ⟨rising_of nd ltE_tri pw, fun e => ?_⟩
      rw [(pm.map _).mem_iff]
      show e ∈ eds M ↔ _
      rw [eM, List.mem_map]
      constructor
      · rintro ⟨f, hf, h⟩
        exact ⟨f, hf, h.symm⟩
      · rintro ⟨f, hf, h⟩
        exact ⟨f, hf, h.symm⟩
end
end NC
/-! The law's own putting together, and the making of figures. -/
namespace NC
open PySem PySem.Spec PyProof.Rows L2
section
variable {P : Program} {w : World} {K : PySem.W.Frag} {mg : Str → Option Value} {base : Heap}
def spLPut : Sp := fun vs H Q _ => ∃ (a b : Addr) (L N : List (Addr × Ed)) (k : Nat), vs = [.int k, .ref a, .ref b] ∧ k < 4 ∧ H a = some (.lst (rf L)) ∧ H b = some (.lst (rf N)) ∧ EL H L ∧ EL H N ∧ SS (eds L) ∧ SS (eds N) ∧ L.length + N.length ≤ 799 ∧
  ∀ p M H', Same H H' → H' p = some (.lst (rf M)) → EL H' M → Put k (eds L) (eds N) (eds M) → Q (.ref p) H'
theorem scLPut : FnScope ["_law_kind", "_law_one", "_law_other", "_law_edge"] ["_law_kind", "_law_one", "_law_other"] (defScope lPut) := ⟨rfl, rfl, rfl, by decide +kernel, rfl, by decide +kernel, by decide +kernel⟩
theorem put_of {k : Nat} {a b c : List Ed} (ss : SS c) (h : ∀ e, e ∈ c ↔ putOp k (decide (e ∈ a)) (decide (e ∈ b)) = true) : Put k a b c := ⟨ss, fun e => by
  by_cases g : putOp k (decide (e ∈ a)) (decide (e ∈ b)) = true
  · rw [g, decide_eq_true ((h e).mpr g)]
  · rw [Bool.eq_false_iff.mpr g, decide_eq_false fun z => g ((h e).mp z)]⟩
theorem ok_lput {f : Addr} {fd : FuncData} (D : Dn K mg "_law_put" lPut ["_law_kind", "_law_one", "_law_other"] f fd) (T : Bt mg) : FnOk P w K mg base L2.CX0 1 f fd ["_law_kind", "_law_one", "_law_other"] spLPut := by
  refine D.F.ok scLPut (fun vs H Q E h => ?_) (fun cdv A outer s H vs Q E hr h => ?_)
  · obtain ⟨a, b, L, N, k, rfl, _⟩ := h
    rfl
  · obtain ⟨a, b, L, N, kd, rfl, hk, ha, hb, eL, eN, ssL, ssN, hlen, k⟩ := h
    have hu : (A.deeper (envOfC ("_law_put" : Str) (defScope lPut) s.heap.objs.size f cdv)).units + 65 < cLine := by have := hr.un; omega
    have hu' : (A.deeper (envOfC ("_law_put" : Str) (defScope lPut) s.heap.objs.size f cdv)).units + 64 < cLine := by omega
    refine ⟨_, pss_cons (ps_if (pt_cmpR op_eq (pv 0) pe_int (nomark _)) (pss_one (ps_ret (pe_callB (call_sortSet rfl hu' : CallR _ _ (rSortSet w)) (by rfl) T.sorted (by decide +kernel) (pa_cons (pe_callTy (call_setO rfl hu' : CallR _ _ (rSetOf K w)) (by rfl) T.set (by decide +kernel) (pa_cons (pe_op op_cat (pv 1) (pv 2)) pa_nil)) pa_nil)))) pss_nil)
      (pss_cons (ps_if (pt_cmpR op_eq (pv 0) pe_int (nomark _)) (pss_one (ps_ret (pe_lc (own := [("_law_edge", 3)]) (g := gName 3) (tt := tTest (tOp (rInE K false) (tVar 3) (tVar 2))) rfl scLPut.nd (pi_list (pv 1)) (blkOk_by (N := ["_law_kind", "_law_one", "_law_other", "_law_edge"]) (sc := defScope lPut) (by decide +kernel))
        (fun _ _ _ _ _ => pg_name (i := 3) scLPut.nd rfl (Or.inl rfl)) (fun _ _ _ _ _ => pts_one (pt_cmpR (op_inE hu) (pv 3) (pv 2) (by rfl))) (fun _ _ _ _ _ => pv 3)))) pss_nil)
      (pss_cons (ps_if (pt_cmpR op_eq (pv 0) pe_int (nomark _)) (pss_one (ps_ret (pe_lc (own := [("_law_edge", 3)]) (g := gName 3) (tt := tTest (tOp (rInE K true) (tVar 3) (tVar 2))) rfl scLPut.nd (pi_list (pv 1)) (blkOk_by (N := ["_law_kind", "_law_one", "_law_other", "_law_edge"]) (sc := defScope lPut) (by decide +kernel))
        (fun _ _ _ _ _ => pg_name (i := 3) scLPut.nd rfl (Or.inl rfl)) (fun _ _ _ _ _ => pts_one (pt_cmpR (op_notInE hu) (pv 3) (pv 2) (by rfl))) (fun _ _ _ _ _ => pv 3)))) pss_nil)
      (pss_one (ps_ret (pe_callB (call_srtE hu' : CallR _ _ (rSrtE K)) (by rfl) T.sorted (by decide +kernel) (pa_cons (pe_lc (own := [("_law_edge", 3)]) (g := gName 3) (tt := tTest (tOp rNe (tOp (rInE K false) (tVar 3) (tVar 1)) (tOp (rInE K false) (tVar 3) (tVar 2)))) rfl scLPut.nd (pi_list (pe_op op_cat (pv 1) (pv 2))) (blkOk_by (N := ["_law_kind", "_law_one", "_law_other", "_law_edge"]) (sc := defScope lPut) (by decide +kernel))
        (fun _ _ _ _ _ => pg_name (i := 3) scLPut.nd rfl (Or.inl rfl)) (fun _ _ _ _ _ => pts_one (pt_cmpR op_ne (pe_cmpR (op_inE hu) (pv 3) (pv 1) (by rfl)) (pe_cmpR (op_inE hu) (pv 3) (pv 2) (by rfl)) (nomark _))) (fun _ _ _ _ _ => pv 3)) pa_nil)))))), ?_⟩
    have d01 : ∀ n m : Nat, n ≠ m → ¬ decide (V.int (n : Int) = V.int (m : Int)) = true := fun n m h z => h (by
      have z := of_decide_eq_true z
      injection z with z
      omega)
    refine ⟨_, rfl, rfl, _, rfl, ite2 (fun h0 => ?_) (fun h0 => ?_)⟩
    · have e0 : kd = 0 := by
        have z := of_decide_eq_true h0
        injection z with z
        omega
      subst e0
      refine ⟨_, rfl, _, rfl, _, _, _, _, rfl, rfl, ha, hb, (by rw [rf_len, rf_len, sizeLine_eq]; omega), fun p hp => ?_⟩
      have s1 : Same H (upd H p (.lst (rf L ++ rf N))) := Same.at_ hp
      have hp1 : upd H p (.lst (rf L ++ rf N)) p = some (.lst (rf (L ++ N))) := by rw [← rf_both]; exact upd_same
      refine ⟨p, L ++ N, rfl, SqL.of hp1, (s1.el eL).both (s1.el eN), by rw [List.length_append]; omega, fun c M hc hsub hcov hnd => ?_⟩
      have s2 := s1.up (s1.free hc) (o := SetEO w c M)
      have s12 : Same (upd H p (.lst (rf L ++ rf N))) (upd (upd H p (.lst (rf L ++ rf N))) c (SetEO w c M)) := Same.at_ hc
      have elM : EL (upd (upd H p (.lst (rf L ++ rf N))) c (SetEO w c M)) M := fun q hq => s12.ed (((s1.el eL).both (s1.el eN)) q (hsub q hq))
      refine ⟨c, M, rfl, upd_same, elM, fun g M' pm ss' hg => ?_⟩
      refine k g M' _ (s2.up (s2.free hg)) upd_same (fun q hq => (Same.at_ hg).ed (elM q (pm.mem_iff.mp hq))) (put_of ss' fun e => ?_)
      rw [(pm.map _).mem_iff]
      show e ∈ eds M ↔ (decide (e ∈ eds L) || decide (e ∈ eds N)) = true
      have hb' : e ∈ eds (L ++ N) ↔ e ∈ eds L ∨ e ∈ eds N := by rw [eds_both, List.mem_append]
      rw [Bool.or_eq_true, decide_eq_true_eq, decide_eq_true_eq, ← hb']
      constructor
      · intro h
        obtain ⟨q, hq, rfl⟩ := List.mem_map.mp h
        exact List.mem_map_of_mem (hsub q hq)
      · intro h
        obtain ⟨q, hq, rfl⟩ := List.mem_map.mp h
        exact hcov q hq
    -- the two that keep some of the one
    have keepS : ∀ (f : Ed → Bool) (M : List (Addr × Ed)), M = L.filter (fun q => f q.2) → SS (eds M) ∧ ∀ e, e ∈ eds M ↔ e ∈ eds L ∧ f e = true := fun f M e => by
      subst e
      rw [eds_flt]
      exact ⟨ssL.filter _, fun e => List.mem_filter⟩
    refine ⟨_, rfl, rfl, _, rfl, ite2 (fun h1 => ?_) (fun h1 => ?_)⟩
    · have e1 : kd = 1 := by
        have z := of_decide_eq_true h1
        injection z with z
        omega
      subst e1
      refine ⟨_, rfl, a, rfl, ⟨_, SqL.of ha⟩, fun R hR => lc_list (K := K) (a := a) (xs := rf L) (fun i H' => Same H H' ∧ H' R = some (.lst (rf ((L.take i).filter fun q => decide (q.2 ∈ eds N))))) ⟨Same.at_ hR, upd_same⟩ (fun i H' _ z => SqL.of (z.1 _ _ ha)) ?_ ?_⟩
      · rintro i v H' hv ⟨s1, hd⟩
        obtain ⟨q, hq, rfl⟩ := rf_get hv
        obtain ⟨p1, p2⟩ := filt_pv hR (fun q => decide (q.2 ∈ eds N)) hq s1 hd
        refine ⟨rfl, _, rfl, _, rfl, q.1, q.2, b, N, rfl, s1.ed (eL q (List.mem_of_getElem? hq)), rfl, SqL.of (s1 _ _ hb), s1.el eN, _, rfl, ?_⟩
        refine ite2 (fun hc => ⟨_, rfl, _, hd, ?_, p1 hc⟩) (fun hc => p2 (Bool.eq_false_iff.mpr hc))
        rw [rf_len]
        refine Nat.lt_of_le_of_lt (List.length_filter_le _ _) ?_
        rw [List.length_take, sizeLine_eq]
        omega
      · rintro H' ⟨s1, hd⟩
        rw [rf_len L, List.take_length] at hd
        obtain ⟨g1, g2⟩ := keepS (fun e => decide (e ∈ eds N)) _ rfl
        refine k R _ H' s1 hd (s1.el (eL.flt _)) (put_of g1 fun e => ?_)
        rw [g2]
        show _ ↔ (decide (e ∈ eds L) && decide (e ∈ eds N)) = true
        simp
    refine ⟨_, rfl, rfl, _, rfl, ite2 (fun h2 => ?_) (fun h2 => ?_)⟩
    · have e2 : kd = 2 := by
        have z := of_decide_eq_true h2
        injection z with z
        omega
      subst e2
      refine ⟨_, rfl, a, rfl, ⟨_, SqL.of ha⟩, fun R hR => lc_list (K := K) (a := a) (xs := rf L) (fun i H' => Same H H' ∧ H' R = some (.lst (rf ((L.take i).filter fun q => !decide (q.2 ∈ eds N))))) ⟨Same.at_ hR, upd_same⟩ (fun i H' _ z => SqL.of (z.1 _ _ ha)) ?_ ?_⟩
      · rintro i v H' hv ⟨s1, hd⟩
        obtain ⟨q, hq, rfl⟩ := rf_get hv
        obtain ⟨p1, p2⟩ := filt_pv hR (fun q => !decide (q.2 ∈ eds N)) hq s1 hd
        refine ⟨rfl, _, rfl, _, rfl, q.1, q.2, b, N, rfl, s1.ed (eL q (List.mem_of_getElem? hq)), rfl, SqL.of (s1 _ _ hb), s1.el eN, _, rfl, ?_⟩
        refine ite2 (fun hc => ⟨_, rfl, _, hd, ?_, p1 hc⟩) (fun hc => p2 (Bool.eq_false_iff.mpr hc))
        rw [rf_len]
        refine Nat.lt_of_le_of_lt (List.length_filter_le _ _) ?_
        rw [List.length_take, sizeLine_eq]
        omega
      · rintro H' ⟨s1, hd⟩
        rw [rf_len L, List.take_length] at hd
        obtain ⟨g1, g2⟩ := keepS (fun e => !decide (e ∈ eds N)) _ rfl
        refine k R _ H' s1 hd (s1.el (eL.flt _)) (put_of g1 fun e => ?_)
        rw [g2]
        show _ ↔ (decide (e ∈ eds L) && !decide (e ∈ eds N)) = true
        simp
    have e3 : kd = 3 := by
      have z0 : kd ≠ 0 := fun z => h0 (by subst z; exact decide_eq_true rfl)
      have z1 : kd ≠ 1 := fun z => h1 (by subst z; exact decide_eq_true rfl)
      have z2 : kd ≠ 2 := fun z => h2 (by subst z; exact decide_eq_true rfl)
      omega
    subst e3
    refine ⟨_, rfl, _, rfl, _, _, _, _, rfl, rfl, ha, hb, (by rw [rf_len, rf_len, sizeLine_eq]; omega), fun p hp => ?_⟩
    have s1 : Same H (upd H p (.lst (rf L ++ rf N))) := Same.at_ hp
    have hp1 : upd H p (.lst (rf L ++ rf N)) p = some (.lst (rf (L ++ N))) := by rw [← rf_both]; exact upd_same
    generalize upd H p (.lst (rf L ++ rf N)) = H1 at s1 hp1 ⊢
    have eB : EL H1 (L ++ N) := (s1.el eL).both (s1.el eN)
    refine ⟨p, rfl, ⟨_, SqL.of hp1⟩, fun R hR => lc_list (K := K) (a := p) (xs := rf (L ++ N)) (fun i H' => Same H1 H' ∧ H' R = some (.lst (rf (((L ++ N).take i).filter fun q => decide (q.2 ∈ eds L) != decide (q.2 ∈ eds N))))) ⟨Same.at_ hR, upd_same⟩ (fun i H' _ z => SqL.of (z.1 _ _ hp1)) ?_ ?_⟩
    · rintro i v H' hv ⟨s2, hd⟩
      obtain ⟨q, hq, rfl⟩ := rf_get hv
      obtain ⟨p1, p2⟩ := filt_pv hR (fun q => decide (q.2 ∈ eds L) != decide (q.2 ∈ eds N)) hq s2 hd
      have s12 := s1.trans s2
      refine ⟨rfl, _, rfl, _, rfl, q.1, q.2, a, L, rfl, s2.ed (eB q (List.mem_of_getElem? hq)), rfl, SqL.of (s12 _ _ ha), s12.el eL, ?_⟩
      refine ⟨_, rfl, _, rfl, q.1, q.2, b, N, rfl, s2.ed (eB q (List.mem_of_getElem? hq)), rfl, SqL.of (s12 _ _ hb), s12.el eN, rfl, _, rfl, ?_⟩
      have hne : (!decide (V.bl (decide (q.2 ∈ eds L)) = V.bl (decide (q.2 ∈ eds N)))) = (decide (q.2 ∈ eds L) != decide (q.2 ∈ eds N)) := by
        cases decide (q.2 ∈ eds L) <;> cases decide (q.2 ∈ eds N) <;> rfl
      refine ite2 (fun hc => ⟨_, rfl, _, hd, ?_, p1 (hne ▸ hc)⟩) (fun hc => p2 (Bool.eq_false_iff.mpr fun z => hc (hne.symm ▸ z)))
      rw [rf_len]
      refine Nat.lt_of_le_of_lt (List.length_filter_le _ _) ?_
      rw [List.length_take, List.length_append, sizeLine_eq]
      omega
    · rintro H' ⟨s2, hd⟩
      rw [rf_len (L ++ N), List.take_length] at hd
      have s12 := s1.trans s2
      have elF : EL H' ((L ++ N).filter fun q => decide (q.2 ∈ eds L) != decide (q.2 ∈ eds N)) := (s2.el eB).flt _
      refine ⟨R, _, rfl, SqL.of hd, elF, fun g M pm pw hg => ?_⟩
      have hm : ∀ e, e ∈ eds ((L ++ N).filter fun q => decide (q.2 ∈ eds L) != decide (q.2 ∈ eds N)) ↔ (e ∈ eds L ∨ e ∈ eds N) ∧ (decide (e ∈ eds L) != decide (e ∈ eds N)) = true := fun e => by
        rw [eds_flt (L ++ N) fun e => decide (e ∈ eds L) != decide (e ∈ eds N), List.mem_filter, eds_both, List.mem_append]
      have nd0 : (eds ((L ++ N).filter fun q => decide (q.2 ∈ eds L) != decide (q.2 ∈ eds N))).Nodup := by
        rw [eds_flt (L ++ N) fun e => decide (e ∈ eds L) != decide (e ∈ eds N), eds_both, List.filter_append]
        refine List.nodup_append.mpr ⟨List.Pairwise.filter _ ssL.nodup, List.Pairwise.filter _ ssN.nodup, fun x hx y hy => ?_⟩
        intro z
        subst z
        have h1 := List.mem_filter.mp hx
        have h2 := List.mem_filter.mp hy
        have h3 := h1.2
        rw [decide_eq_true h1.1, decide_eq_true h2.1] at h3
        cases h3
      have nd : (eds M).Nodup := (pm.map _).nodup_iff.mpr nd0
      refine k g M _ (s12.up (s12.free hg)) upd_same (fun q hq => (Same.at_ hg).ed (elF q (pm.mem_iff.mp hq))) (put_of (rising_of nd ltE_tri pw) fun e => ?_)
      rw [(pm.map _).mem_iff]
      refine (hm e).trans ?_
      show _ ↔ (decide (e ∈ eds L) != decide (e ∈ eds N)) = true
      constructor
      · exact fun h => h.2
      · intro h
        refine ⟨?_, h⟩
        by_cases h1 : e ∈ eds L
        · exact .inl h1
        · by_cases h2 : e ∈ eds N
          · exact .inr h2
          · rw [decide_eq_false h1, decide_eq_false h2] at h
            cases h
end
end NC
/-! The law's making of figures by their operators. -/
namespace NC
open PySem PySem.Spec PyProof.Rows L2
/-- the figure's methods and what they promise -/
structure FigM (P : Program) (w : World) (K : PySem.W.Frag) (mg : Str → Option Value) (base : Heap) (C : Addr) : Prop where
  sf : PySem.W.selfFirst K C = true
  or_ : ∃ f fd, Meth K C "__or__" f ∧ Binds K fd ["self", "other"] [] ∧ FnOk P w K mg base L2.CX0 8 f fd ["self", "other"] (spBin P w C 0)
  and_ : ∃ f fd, Meth K C "__and__" f ∧ Binds K fd ["self", "other"] [] ∧ FnOk P w K mg base L2.CX0 8 f fd ["self", "other"] (spBin P w C 1)
  sub_ : ∃ f fd, Meth K C "__sub__" f ∧ Binds K fd ["self", "other"] [] ∧ FnOk P w K mg base L2.CX0 8 f fd ["self", "other"] (spBin P w C 2)
  xor_ : ∃ f fd, Meth K C "__xor__" f ∧ Binds K fd ["self", "other"] [] ∧ FnOk P w K mg base L2.CX0 8 f fd ["self", "other"] (spBin P w C 3)
section
variable {P : Program} {w : World} {K : PySem.W.Frag} {mg : Str → Option Value} {base : Heap} {C : Addr}
theorem bin_read {k : Nat} {H : Hp} {x y : Addr} {es fs gs : List Ed} {Q : VK} (f : FigAt P w C H x es) (g : FigAt P w C H y fs) (pt : Put k es fs gs) (h1 : es.length + fs.length ≤ 799) (h2 : gs.length ≤ 400) (q : ∀ z H', Same H H' → FigAt P w C H' z gs → Q (.ref z) H') :
    rBin C (spBin P w C k) (.ref x) (.ref y) H Q := by
  obtain ⟨dx, _, _, _, _, _, h, _⟩ := f.ex
  obtain ⟨dy, _, _, _, _, _, h', _⟩ := g.ex
  exact ⟨x, y, dx, dy, _, _, rfl, rfl, h, h', x, y, es, fs, gs, rfl, f, g, pt, h1, h2, q⟩
def spMade (P : Program) (w : World) (C : Addr) : Sp := fun vs H Q _ => ∃ (k : Nat) (x y : Addr) (es fs gs : List Ed), vs = [.int k, .ref x, .ref y] ∧ k < 4 ∧ FigAt P w C H x es ∧ FigAt P w C H y fs ∧ Put k es fs gs ∧ es.length + fs.length ≤ 799 ∧ gs.length ≤ 400 ∧
  ∀ z H', Same H H' → FigAt P w C H' z gs → Q (.ref z) H'
theorem scMade : FnScope ["_law_kind", "_law_one", "_law_other"] ["_law_kind", "_law_one", "_law_other"] (defScope lMade) := ⟨rfl, rfl, rfl, by decide +kernel, rfl, by decide +kernel, by decide +kernel⟩
theorem ok_made {f : Addr} {fd : FuncData} (D : Dn K mg "_law_made" lMade ["_law_kind", "_law_one", "_law_other"] f fd) (M : FigM P w K mg base C) : FnOk P w K mg base L2.CX0 9 f fd ["_law_kind", "_law_one", "_law_other"] (spMade P w C) := by
  obtain ⟨fo, fdo, mo, bo, Go⟩ := M.or_
  obtain ⟨fa, fda, ma, ba, Ga⟩ := M.and_
  obtain ⟨fs, fds, ms, bs, Gs⟩ := M.sub_
  obtain ⟨fx, fdx, mx, bx, Gx⟩ := M.xor_
  refine D.F.ok scMade (fun vs H Q E h => ?_) (fun cdv A outer s H vs Q E hr h => ?_)
  · obtain ⟨k, x, y, es, fs, gs, rfl, _⟩ := h
    rfl
  · obtain ⟨kd, x, y, es, fs, gs, rfl, hk, f, g, pt, h7, h4, k⟩ := h
    refine ⟨_, pss_cons (ps_if (pt_cmpR op_eq (pv 0) pe_int (nomark _)) (pss_one (ps_ret (pe_op (op_bin (op := .BitOr) Go hr bo M.sf mo.at_ mo.fn) (pv 1) (pv 2)))) pss_nil)
      (pss_cons (ps_if (pt_cmpR op_eq (pv 0) pe_int (nomark _)) (pss_one (ps_ret (pe_op (op_bin (op := .BitAnd) Ga hr ba M.sf ma.at_ ma.fn) (pv 1) (pv 2)))) pss_nil)
      (pss_cons (ps_if (pt_cmpR op_eq (pv 0) pe_int (nomark _)) (pss_one (ps_ret (pe_op (op_bin (op := .Sub) Gs hr bs M.sf ms.at_ ms.fn) (pv 1) (pv 2)))) pss_nil)
      (pss_one (ps_ret (pe_op (op_bin (op := .BitXor) Gx hr bx M.sf mx.at_ mx.fn) (pv 1) (pv 2)))))), ?_⟩
    refine ⟨_, rfl, rfl, _, rfl, ite2 (fun h0 => ?_) (fun h0 => ?_)⟩
    · have e0 : kd = 0 := by
        have z := of_decide_eq_true h0
        injection z with z
        omega
      subst e0
      exact ⟨_, rfl, _, rfl, bin_read f g pt h7 h4 k⟩
    refine ⟨_, rfl, rfl, _, rfl, ite2 (fun h1 => ?_) (fun h1 => ?_)⟩
    · have e1 : kd = 1 := by
        have z := of_decide_eq_true h1
        injection z with z
        omega
      subst e1
      exact ⟨_, rfl, _, rfl, bin_read f g pt h7 h4 k⟩
    refine ⟨_, rfl, rfl, _, rfl, ite2 (fun h2 => ?_) (fun h2 => ?_)⟩
    · have e2 : kd = 2 := by
        have z := of_decide_eq_true h2
        injection z with z
        omega
      subst e2
      exact ⟨_, rfl, _, rfl, bin_read f g pt h7 h4 k⟩
    have e3 : kd = 3 := by
      have z0 : kd ≠ 0 := fun z => h0 (by subst z; exact decide_eq_true rfl)
      have z1 : kd ≠ 1 := fun z => h1 (by subst z; exact decide_eq_true rfl)
      have z2 : kd ≠ 2 := fun z => h2 (by subst z; exact decide_eq_true rfl)
      omega
    subst e3
    exact ⟨_, rfl, _, rfl, bin_read f g pt h7 h4 k⟩
end
end NC
/-! What stands through the law's inner loop. -/
namespace NC
open PySem PySem.Spec PyProof.Rows L2
/-- a list of edges at p, not the box at l -/
def RowAt (l : Addr) (H : Hp) (p : Addr) (es : List Ed) : Prop := ∃ L, H p = some (.lst (rf L)) ∧ p ≠ l ∧ EL H L ∧ eds L = es
theorem RowAt.kp {l p : Addr} {H H' : Hp} {es : List Ed} {xs : List V} (r : RowAt l H p es) (k : Kp l H H') (hl : H l = some (.lst xs)) : RowAt l H' p es := by
  obtain ⟨L, h1, h2, h3, h4⟩ := r
  exact ⟨L, k _ _ h1 h2 (fun _ z => nomatch z), h2, h3.tk (k.tk hl), h4⟩
theorem Kp.but {l : Addr} {H H' : Hp} (b : But l H H') : Kp l H H' := fun c o e n _ => b c o n e
/-- the rows and their figures -/
structure Fix (P : Program) (w : World) (C l : Addr) (H : Hp) (rw fg : Addr) (R : Nat → List Ed) : Prop where
  ex : ∃ ra fa : Nat → Addr, H rw = some (.lst [.ref (ra 0), .ref (ra 1), .ref (ra 2)]) ∧ rw ≠ l ∧ H fg = some (.lst [.ref (fa 0), .ref (fa 1), .ref (fa 2)]) ∧ fg ≠ l ∧ ∀ i, i < 3 → RowAt l H (ra i) (R i) ∧ FigAt P w C H (fa i) (R i)
theorem Fix.kp {P : Program} {w : World} {C l rw fg : Addr} {H H' : Hp} {R : Nat → List Ed} {xs : List V} (x : Fix P w C l H rw fg R) (k : Kp l H H') (hl : H l = some (.lst xs)) : Fix P w C l H' rw fg R := by
  obtain ⟨ra, fa, h1, h2, h3, h4, h5⟩ := x.ex
  exact ⟨ra, fa, k _ _ h1 h2 (fun _ z => nomatch z), h2, k _ _ h3 h4 (fun _ z => nomatch z), h4, fun i hi => ⟨(h5 i hi).1.kp k hl, (h5 i hi).2.kp k hl⟩⟩
theorem three_at {a b c : V} {ra : Nat → Addr} {i : Nat} (hi : i < 3) : atI ([.ref (ra 0), .ref (ra 1), .ref (ra 2)] : List V) (i : Int) = some (.ref (ra i)) := by
  refine atI_nat ?_
  rcases i with _ | _ | _ | i
  · rfl
  · rfl
  · rfl
  · omega
structure InnS (P : Program) (w : World) (C : Addr) (T : List (Addr × Str)) (l rw fg : Addr) (Hb : Hp) (U : List Ed) (R : Nat → List Ed) (t n : Nat) (e g : Addr) (es : List Ed) (H' : Hp) : Prop where
  kp : Kp l Hb H'
  box : BoxAt H' l n
  tabs : LamX.Tabs T H'
  fix : Fix P w C l H' rw fg R
  row : RowAt l H' e es
  fig : FigAt P w C H' g es
  few : Few U es t
section
variable {P : Program} {w : World} {C : Addr} {T : List (Addr × Str)} {l rw fg e g : Addr} {Hb H1 H2 : Hp} {U : List Ed} {R : Nat → List Ed} {t n m : Nat} {es : List Ed}
theorem InnS.tr (x : InnS P w C T l rw fg Hb U R t n e g es H1) (k : Kp l H1 H2) (b : BoxAt H2 l m) (tb : LamX.Tabs T H2) : InnS P w C T l rw fg Hb U R t m e g es H2 := by
  obtain ⟨xs, hl⟩ := x.box.lst
  exact ⟨x.kp.trans k, b, tb, x.fix.kp k hl, x.row.kp k hl, x.fig.kp k hl, x.few⟩
theorem InnS.same (x : InnS P w C T l rw fg Hb U R t n e g es H1) (s : Same H1 H2) : InnS P w C T l rw fg Hb U R t n e g es H2 := x.tr (Kp.of s) (x.box.same s) (x.tabs.ext s)
theorem InnS.but (x : InnS P w C T l rw fg Hb U R t n e g es H1) (b : But l H1 H2) (h : BoxAt H2 l m) : InnS P w C T l rw fg Hb U R t m e g es H2 := by
  obtain ⟨xs, hl⟩ := x.box.lst
  exact x.tr (Kp.but b) h (But.tabs x.tabs b hl)
theorem BoxAt.ext {H H' : Hp} {l : Addr} {n : Nat} (b : BoxAt H l n) (s : LamX.ExtN H H') : BoxAt H' l n := by
  obtain ⟨x, y, z, h1, h2⟩ := b
  exact ⟨x, y, z, s _ _ h1 (fun _ z => nomatch z), h2⟩
theorem InnS.ext (x : InnS P w C T l rw fg Hb U R t n e g es H1) (s : LamX.ExtN H1 H2) (h : LamX.Tabs T H2) : InnS P w C T l rw fg Hb U R t n e g es H2 := x.tr (Kp.ext s) (x.box.ext s) h
end
theorem BoxAt.ner {β : Type} {H : Hp} {l p : Addr} {n : Nat} {M : List (Addr × β)} (b : BoxAt H l n) (h : H p = some (.lst (rf M))) : p ≠ l := fun z => by
  obtain ⟨x, y, w, e, _⟩ := b
  rw [z, e] at h
  have h := Option.some.inj h
  injection h with h
  cases M with
  | nil => cases h
  | cons q M =>
    unfold rf at h
    rw [List.map_cons] at h
    injection h with h _
    cases h
theorem mk_readZ {P : Program} {w : World} {C : Addr} {H : Hp} {l : Addr} {L : List (Addr × Ed)} {es : List Ed} {Z : Addr → Hp → Prop} (hl : H l = some (.lst (rf L))) (hL : EL H L) (ok : ∀ e ∈ eds L, okE e) (hn : L.length ≤ 799) (ss : SS es) (hes : ∀ e, e ∈ es ↔ e ∈ eds L) (h4 : es.length ≤ 400)
    (q : ∀ z H', Same H H' → FigAt P w C H' z es → Z z H') : ∀ x dx, H x = none → H dx = none → dx ≠ x → spInit P w C (.ref x :: ([.ref l] ++ [])) (upd (upd H dx (.own x)) x (.ins C dx [])) (fun v H2 => v = .non ∧ Z x H2) L2.E0 := by
  intro x dx hx hd ne
  have s0 : Same H (upd (upd H dx (.own x)) x (.ins C dx [])) := ((Same.refl H).up hd).up hx
  exact ⟨x, l, dx, L, es, rfl, upd_same, s0 _ _ hl, s0.el hL, ok, hn, ss, hes, h4, fun H' k f => ⟨rfl, q x H' (fun b o e => k b o (ne_of_none e hx) (s0 _ _ e)) f⟩⟩
/-- the slots -/
abbrev Sg (a : Addr) (k : V) (l rw : Addr) (v4 v5 : Option V) (e fg g : Addr) (v9 v10 v11 v12 v13 v14 v15 v16 v17 v18 : Option V) : L2.St :=
  [some (.ref a), some k, some (.ref l), some (.ref rw), v4, v5, some (.ref e), some (.ref fg), some (.ref g), v9, v10, v11, v12, v13, v14, v15, v16, v17, v18]
/-- the greatest of the second points -/
theorem shift_fits {es : List Ed} (ok : ∀ e ∈ es, okE e) {mx my : Int} (hx : mx ∈ es.map fun e => e.2.1) (hy : my ∈ es.map fun e => e.2.2) (ux : ∀ x ∈ es.map (fun e => e.2.1), x ≤ mx) (uy : ∀ y ∈ es.map (fun e => e.2.2), y ≤ my) :
    (-30 ≤ 30 - mx ∧ 30 - mx ≤ 30) ∧ (-30 ≤ 30 - my ∧ 30 - my ≤ 30) ∧ ∀ p, ptsOf es p → okP p ∧ okP (sP (30 - mx) (30 - my) p) := by
  obtain ⟨e, he, rfl⟩ := List.mem_map.mp hx
  obtain ⟨f, hf, rfl⟩ := List.mem_map.mp hy
  obtain ⟨a1, ⟨a2, a3, a4, a5⟩, _⟩ := ok e he
  obtain ⟨b1, ⟨b2, b3, b4, b5⟩, _⟩ := ok f hf
  refine ⟨by omega, by omega, fun p hp => ?_⟩
  obtain ⟨d, hd, h⟩ := hp
  have hx := ux _ (List.mem_map_of_mem (f := fun e => e.2.1) hd)
  have hy := uy _ (List.mem_map_of_mem (f := fun e => e.2.2) hd)
  obtain ⟨⟨c1, c2, c3, c4⟩, ⟨c5, c6, c7, c8⟩, o⟩ := ok d hd
  have o1 : d.1.1 ≤ d.2.1 ∧ d.1.2 ≤ d.2.2 := by
    rcases o with o | o <;> rw [o] <;> simp <;> omega
  rcases h with rfl | rfl
  · exact ⟨⟨c1, c2, c3, c4⟩, by show 0 ≤ d.1.1 + (30 - e.2.1); omega, by show d.1.1 + (30 - e.2.1) ≤ 30; omega, by show 0 ≤ d.1.2 + (30 - f.2.2); omega, by show d.1.2 + (30 - f.2.2) ≤ 30; omega⟩
  · exact ⟨⟨c5, c6, c7, c8⟩, by show 0 ≤ d.2.1 + (30 - e.2.1); omega, by show d.2.1 + (30 - e.2.1) ≤ 30; omega, by show 0 ≤ d.2.2 + (30 - f.2.2); omega, by show d.2.2 + (30 - f.2.2) ≤ 30; omega⟩
theorem shift_back' {dx dy : Int} {es gs : List Ed} (ss : SS es) (x : Shifted dx dy es gs) : Shifted (-dx) (-dy) gs es := by
  obtain ⟨hs, y⟩ := Shifted.ex (-dx) (-dy) gs
  have e := shift_back ss x y
  rw [← e]
  exact y
theorem pts_shift {dx dy : Int} {es gs : List Ed} (x : Shifted dx dy es gs) {p : Pt} (h : ptsOf gs p) : ∃ q, ptsOf es q ∧ p = sP dx dy q ∧ sP (-dx) (-dy) p = q := by
  obtain ⟨e, he, h⟩ := h
  obtain ⟨f, hf, rfl⟩ := (x.mem e).mp he
  have back : ∀ q : Pt, sP (-dx) (-dy) (sP dx dy q) = q := fun q => by
    unfold sP
    exact pt_ext (by show q.1 + dx + -dx = q.1; omega) (by show q.2 + dy + -dy = q.2; omega)
  rcases h with rfl | rfl
  · exact ⟨f.1, ⟨f, hf, .inl rfl⟩, rfl, back _⟩
  · exact ⟨f.2, ⟨f, hf, .inr rfl⟩, rfl, back _⟩
end NC
/-! One turn of the law's inner loop. -/
namespace NC
open PySem PySem.Spec PyProof.Rows L2
def forB : Stmt → List Stmt
  | .For _ _ b _ _ => b
  | _ => []
abbrev outerB : List Stmt := forB ((defBody lLaw).getD 0 (.Pass ⟨0, 0, 0, 0⟩))
abbrev innerB : List Stmt := forB (outerB.getD 8 (.Pass ⟨0, 0, 0, 0⟩))
abbrev NL : List Str := ["_law_script", "_law_k", "_law_box_here", "_law_rows", "_law_near", "_law_some", "_law_edges_here", "_law_figures", "_law_figure", "_law_turn", "_law_kind", "_law_other", "_law_dx", "_law_dy", "_law_odd", "_law_both", "_law_edge", "_law_first", "_law_point"]
theorem scLaw : FnScope NL ["_law_script"] (defScope lLaw) := ⟨rfl, rfl, rfl, by decide +kernel, rfl, by decide +kernel, by decide +kernel⟩

structure Cal (P : Program) (w : World) (K : PySem.W.Frag) (mg : Str → Option Value) (base : Heap) (x : Str) (ps : List Str) (k : Nat) (sp : Sp) : Prop where
  ex : ∃ f fd, mg x = some (.ref f) ∧ PySem.W.keepIn K (.ref f) = true ∧ Binds K fd ps [] ∧ FnOk P w K mg base L2.CX0 k f fd ps sp
structure CalM (P : Program) (w : World) (K : PySem.W.Frag) (mg : Str → Option Value) (base : Heap) (C : Addr) (m : Str) (ps : List Str) (k : Nat) (sp : Sp) : Prop where
  ex : ∃ f fd, Meth K C m f ∧ Binds K fd ps [] ∧ FnOk P w K mg base L2.CX0 k f fd ps sp
/-- all that the law calls -/
structure LawEnv (P : Program) (w : World) (K : PySem.W.Frag) (mg : Str → Option Value) (base : Heap) (C : Addr) (T : List (Addr × Str)) : Prop where
  B : Bt mg
  mkf : ∃ fi fdi, MkF P w K mg base C fi fdi
  fm : FigM P w K mg base C
  so : PySem.W.subIn K (.ref C) (.type "object") = some true
  ne : PySem.W.findIn K (.ref C) "__ne__" = some (some (.builtin "object.__ne__"))
  cell : Cal P w K mg base "_law_cell_at" ["_law_script", "_law_k"] 1 (spCell K)
  box : Cal P w K mg base "_law_box" ["_law_number"] 1 spBox
  take : Cal P w K mg base "_law_take" ["_law_box_here", "_law_many"] 1 spTake
  edges : Cal P w K mg base "_law_edges" ["_law_box_here", "_law_most"] 2 spEdges
  dirs : Cal P w K mg base "_law_dirs" ["_law_edges_here", "_law_point"] 1 spLDirs
  points : Cal P w K mg base "_law_points" ["_law_edges_here"] 1 spLPts
  turned : Cal P w K mg base "_law_turned" ["_law_edges_here", "_law_kind"] 1 spLTurn
  put : Cal P w K mg base "_law_put" ["_law_kind", "_law_one", "_law_other"] 1 spLPut
  made : Cal P w K mg base "_law_made" ["_law_kind", "_law_one", "_law_other"] 9 (spMade P w C)
  mlen : CalM P w K mg base C "__len__" ["self"] 1 (spLen P w C)
  meq : CalM P w K mg base C "__eq__" ["self", "other"] 1 (NC.spEq P w C)
  min : CalM P w K mg base C "__contains__" ["self", "edge"] 5 (spIn P w C)
  modd : CalM P w K mg base C "odd_points" ["self"] 2 (spOdd P w C)
  mturn : CalM P w K mg base C "turned" ["self"] 10 (spTurn P w C T false)
  mmirr : CalM P w K mg base C "mirrored" ["self"] 10 (spTurn P w C T true)
  mshift : CalM P w K mg base C "shifted" ["self", "dx", "dy"] 10 (spShift P w C T)

section
variable {P : Program} {w : World} {K : PySem.W.Frag} {mg : Str → Option Value} {base : Heap} {C : Addr} {T : List (Addr × Str)}
theorem inner_ok {f : Addr} {cdv : Value} {A : PySem.Around} {outer : List Env} {s : Shared} {H : Hp} {E : XK} (LE : LawEnv P w K mg base C T) (hr : Room 10 (A.deeper (envOfC "law" (defScope lLaw) s.heap.objs.size f cdv))) :
    ∃ t, PSs (cxOf L2.CX0 P w K mg base NL "law" (defScope lLaw) f cdv A outer s H E).nox innerB t ∧ ∀ (D : Ends) (a l rw fg : Addr) (kk : V) (Hb : Hp) (U : List Ed) (R : Nat → List Ed) (tt n : Nat) (σ : L2.St) (H0 : Hp), U.length ≤ 68 → (∀ i, i < 3 → ∀ e ∈ R i, e ∈ U) → tt < 8 → n ≤ 90000 →
      (∃ e g es v4 v5 v9 v10 v11 v12 v13 v14 v15 v16 v17 v18, σ = Sg a kk l rw v4 v5 e fg g v9 v10 v11 v12 v13 v14 v15 v16 v17 v18 ∧ InnS P w C T l rw fg Hb U R tt n e g es H0) →
      (∀ σ' H', (∃ e g es v4 v5 v9 v10 v11 v12 v13 v14 v15 v16 v17 v18, σ' = Sg a kk l rw v4 v5 e fg g v9 v10 v11 v12 v13 v14 v15 v16 v17 v18 ∧ InnS P w C T l rw fg Hb U R (tt + 1) (n + 2) e g es H') → D.nx σ' H') → t D σ H0 := by
  have B := LE.B
  obtain ⟨fi, fdi, M⟩ := LE.mkf
  have TC := M.C
  obtain ⟨fx, fdx, mx, bx, Gx⟩ := LE.fm.xor_
  obtain ⟨ft, fdt, gt, kt, bt, Gt⟩ := LE.take.ex
  obtain ⟨fd, fdd, gd, kd, bd, Gd⟩ := LE.dirs.ex
  obtain ⟨fp, fdp, gp, kp, bp, Gp⟩ := LE.points.ex
  obtain ⟨fu, fdu, gu, ku, bu, Gu⟩ := LE.turned.ex
  obtain ⟨fq, fdq, gq, kq, bq, Gq⟩ := LE.put.ex
  obtain ⟨fm, fdm, gm, km, bm, Gm⟩ := LE.made.ex
  obtain ⟨fl, fdl, ml, bl, Gl'⟩ := LE.mlen.ex
  obtain ⟨fe, fde, me, be, Ge⟩ := LE.meq.ex
  obtain ⟨fn, fdn, mn, bn, Gn⟩ := LE.min.ex
  obtain ⟨fo, fdo, mo, bo, Go⟩ := LE.modd.ex
  obtain ⟨fT, fdT, mT, bT, GT⟩ := LE.mturn.ex
  obtain ⟨fM, fdM, mM, bM, GM⟩ := LE.mmirr.ex
  obtain ⟨fS, fdS, mS, bS, GS⟩ := LE.mshift.ex
  have hu : (A.deeper (envOfC ("law" : Str) (defScope lLaw) s.heap.objs.size f cdv)).units + 64 < cLine := by have := hr.un; omega
  have h1 := hr.mono (show 1 ≤ 10 by decide)
  have h2 := hr.mono (show 2 ≤ 10 by decide)
  have h5 := hr.mono (show 5 ≤ 10 by decide)
  have h7 := hr.mono (show 7 ≤ 10 by decide)
  have h8 := hr.mono (show 8 ≤ 10 by decide)
  have h9 := hr.mono (show 9 ≤ 10 by decide)
  refine ⟨_, pss_cons (ps_par (i := 10) (j := 11) (by rfl) scLaw.nd rfl rfl (by decide) rfl rfl (pa_cons (pe_call Gt h1 rfl gt kt bt .nil pass0 (pa_cons (pv 2) (pa_cons pe_int pa_nil))) (pa_cons (pe_call Gt h1 rfl gt kt bt .nil pass0 (pa_cons (pv 2) (pa_cons pe_int pa_nil))) pa_nil)) (by rfl))
    (pss_cons (ps_mid <| ps_if (pt_cmpR op_gt (pv 10) pe_int (nomark _))
        (pss_cons (ps_set (i := 6) scLaw.nd rfl (Or.inr rfl) (pe_call Gu h1 rfl gu ku bu .nil pass0 (pa_cons (pv 6) (pa_cons (pe_op op_sub (pv 10) pe_int) pa_nil))))
        (pss_one (ps_set (i := 8) scLaw.nd rfl (Or.inr rfl) (pe_ifExp (pt_cmpR op_eq (pv 10) pe_int (nomark _)) (pe_meth0 (pv 8) TC.cl mT GT hr bT .nil pass0) (pe_meth0 (pv 8) TC.cl mM GM hr bM .nil pass0)))))
        (pss_one (ps_asg (pe_tup (pa_cons (pe_call Gq h1 rfl gq kq bq .nil pass0 (pa_cons (pv 10) (pa_cons (pv 6) (pa_cons (pe_ix ix_list (pv 3) (pv 11) (fun _ _ => rfl)) pa_nil)))) (pa_cons (pe_call Gm h9 rfl gm km bm .nil pass0 (pa_cons (pv 10) (pa_cons (pv 8) (pa_cons (pe_ix ix_list (pv 7) (pv 11) (fun _ _ => rfl)) pa_nil)))) pa_nil)))
          (pg_tup (by rfl) (pgs_cons (pg_name (i := 6) scLaw.nd rfl (Or.inr rfl)) (pgs_cons (pg_name (i := 8) scLaw.nd rfl (Or.inr rfl)) pgs_nil))))))
    (pss_cons (ps_mid <| ps_if (pt_cmpR (op_neD hu : OpR _ _ (rNeD K)) (pv 6) (pe_lst pa_nil) (nomark _))
        (pss_cons (ps_set (i := 12) scLaw.nd rfl (Or.inl rfl) (pe_op op_sub pe_int (pe_callB (cr_max rfl) (by rfl) B.max (by decide +kernel) (pa_cons (pe_lc (own := [("_law_first", 17), ("_law_other", 11)]) (g := gTup K 2 (gCons (gName 17) (gCons (gName 11) gNil))) (tt := tYes) (te := tOp (rIxT K) (tVar 11) (tC (.int 0))) rfl scLaw.nd (pi_list (pv 6)) (blkOk_by (N := NL) (sc := defScope lLaw) (by decide +kernel))
            (fun _ _ _ _ _ => pg_tup (by rfl) (pgs_cons (pg_name (i := 17) scLaw.nd rfl (Or.inl rfl)) (pgs_cons (pg_name (i := 11) scLaw.nd rfl (Or.inl rfl)) pgs_nil))) (fun _ _ _ _ _ => pts_nil) (fun _ _ _ _ _ => pe_ix ix_tup (pv 11) pe_int (fun _ _ => rfl))) pa_nil))))
        (pss_cons (ps_set (i := 13) scLaw.nd rfl (Or.inl rfl) (pe_op op_sub pe_int (pe_callB (cr_max rfl) (by rfl) B.max (by decide +kernel) (pa_cons (pe_lc (own := [("_law_first", 17), ("_law_other", 11)]) (g := gTup K 2 (gCons (gName 17) (gCons (gName 11) gNil))) (tt := tYes) (te := tOp (rIxT K) (tVar 11) (tC (.int 1))) rfl scLaw.nd (pi_list (pv 6)) (blkOk_by (N := NL) (sc := defScope lLaw) (by decide +kernel))
            (fun _ _ _ _ _ => pg_tup (by rfl) (pgs_cons (pg_name (i := 17) scLaw.nd rfl (Or.inl rfl)) (pgs_cons (pg_name (i := 11) scLaw.nd rfl (Or.inl rfl)) pgs_nil))) (fun _ _ _ _ _ => pts_nil) (fun _ _ _ _ _ => pe_ix ix_tup (pv 11) pe_int (fun _ _ => rfl))) pa_nil))))
        (pss_one (ps_set (i := 8) scLaw.nd rfl (Or.inr rfl) (pe_meth (pe_meth (pv 8) TC.cl mS GS hr bS .nil pass0 (pa_cons (pv 12) (pa_cons (pv 13) pa_nil))) TC.cl mS GS hr bS .nil pass0 (pa_cons (pe_un un_neg (pv 12)) (pa_cons (pe_un un_neg (pv 13)) pa_nil)))))))
        pss_nil)
    (pss_cons (ps_mid <| ps_if (PW.pt (pw_or (pt_cmpR (op_neD hu : OpR _ _ (rNeD K)) (pe_lc (own := [("_law_edge", 16)]) (g := gName 16) (tt := tTest (tOp (rInO C (spIn P w C) true) (tVar 16) (tVar 8))) rfl scLaw.nd (pi_list (pv 6)) (blkOk_by (N := NL) (sc := defScope lLaw) (by decide +kernel))
            (fun _ _ _ _ _ => pg_name (i := 16) scLaw.nd rfl (Or.inl rfl)) (fun _ _ _ _ _ => pts_one (pt_cmpR (op_notInO Gn h5 bn mn.at_ mn.fn) (pv 16) (pv 8) (by rfl))) (fun _ _ _ _ _ => pv 16)) (pe_lst pa_nil) (nomark _))
          (pw_or1 (pt_cmpR op_ne (pe_callB (call_lenO Gl' h2 bl ml.at_ ml.fn) (by rfl) B.len PySem.boot_len (pa_cons (pv 8) pa_nil)) (pe_callB call_len_seq (by rfl) B.len PySem.boot_len (pa_cons (pv 6) pa_nil)) (nomark _))))) pss_never pss_nil)
    (pss_cons (ps_mid <| ps_setLc (i := 14) (own := [("_law_point", 18)]) (g := gName 18) (tt := tTest (tOp rEq (tOp (rI (fun _ j => 0 < j) fun i j => .int (i % j)) (tCB (fun xs H Q => ∃ i : Str, xs = [.str i] ∧ i.length ≤ sizeLine ∧ Q (.int i.length) H) (tCons (tCall spLDirs [] L2.E0 (tCons (tVar 6) (tCons (tVar 18) tNil))) tNil)) (tC (.int 2))) (tC (.int 1)))) rfl scLaw.nd rfl rfl (sw_true rfl rfl rfl (by decide +kernel))
        (pi_list (pe_call Gp h1 rfl gp kp bp .nil pass0 (pa_cons (pv 6) pa_nil))) (blkOk_by (N := NL) (sc := defScope lLaw) (by decide +kernel))
        (fun _ _ _ _ _ => pg_name (i := 18) scLaw.nd rfl (Or.inl rfl)) (fun _ _ _ _ _ => pts_one (pt_cmpR op_eq (pe_op op_mod (pe_callB call_len_str (by rfl) B.len PySem.boot_len (pa_cons (pe_call Gd h1 (by rfl) gd kd bd .nil pass0 (pa_cons (pv 6) (pa_cons (pv 18) pa_nil))) pa_nil)) pe_int) pe_int (nomark _))) (fun _ _ _ _ _ => pv 18))
    (pss_cons (ps_mid <| ps_if (PW.pt (pw_or (pt_cmpR (op_neO Ge h2 be LE.so LE.ne me.at_ me.fn) (pv 8) (pe_make M.M M.G h7 rfl TC.m M.b .nil pass0 (pa_cons (pv 6) pa_nil)) (nomark _))
          (pw_or1 (pt_cmpR (op_neD hu : OpR _ _ (rNeD K)) (pe_meth0 (pv 8) TC.cl mo Go h2 bo .nil pass0) (pe_callTy call_tuple_of (by rfl) B.tuple (by decide +kernel) (pa_cons (pv 14) pa_nil)) (nomark _))))) pss_never pss_nil)
    (pss_cons (ps_mid <| ps_if (pt_cmpR (op_neO Ge h2 be LE.so LE.ne me.at_ me.fn) (pe_op (op_bin (op := .BitXor) Gx h8 bx LE.fm.sf mx.at_ mx.fn) (pe_op (op_bin (op := .BitXor) Gx h8 bx LE.fm.sf mx.at_ mx.fn) (pv 8) (pe_ix ix_list (pv 7) (pv 11) (fun _ _ => rfl))) (pe_ix ix_list (pv 7) (pv 11) (fun _ _ => rfl))) (pv 8) (nomark _)) pss_never pss_nil)
    (pss_cons (ps_set (i := 15) scLaw.nd rfl (Or.inl rfl) (pe_op (op_bin (op := .BitXor) Gx h8 bx LE.fm.sf mx.at_ mx.fn) (pv 8) (pe_ix ix_list (pv 7) (pv 11) (fun _ _ => rfl))))
    (pss_one (ps_if (pt_cmpR (op_neO Ge h2 be LE.so LE.ne me.at_ me.fn) (pe_meth0 (pv 15) TC.cl mT GT hr bT .nil pass0) (pe_op (op_bin (op := .BitXor) Gx h8 bx LE.fm.sf mx.at_ mx.fn) (pe_meth0 (pv 8) TC.cl mT GT hr bT .nil pass0) (pe_meth0 (pe_ix ix_list (pv 7) (pv 11) (fun _ _ => rfl)) TC.cl mT GT hr bT .nil pass0)) (nomark _)) pss_never pss_nil))))))))), ?_⟩
  intro D a l rw fg kk Hb U R tt n σ H0 hU hR ht hn hin k
  obtain ⟨e, g, es, v4, v5, v9, v10, v11, v12, v13, v14, v15, v16, v17, v18, rfl, I0⟩ := hin
  -- kind, other
  refine ⟨_, rfl, l, n, 6, rfl, I0.box, by omega, by omega, by omega, fun d1 H1 p1 q1 b1 x1 => ⟨_, rfl, l, n + 1, 3, rfl, x1, by omega, by omega, by omega, fun d2 H2 p2 q2 b2 x2 => ⟨_, _, rfl, ?_⟩⟩⟩
  have I2 := (I0.but b1 x1).but b2 x2
  obtain ⟨kd, rfl⟩ : ∃ kd : Nat, d1 = (kd : Int) := ⟨d1.toNat, by omega⟩
  obtain ⟨i, rfl⟩ : ∃ i : Nat, d2 = (i : Int) := ⟨d2.toNat, by omega⟩
  have hk6 : kd < 6 := by omega
  have hi3 : i < 3 := by omega
  clear I0 b1 b2 x1 x2 p1 p2 q1 q2 H1
  refine ⟨fun σ H' => ∃ e g es v9 v10 v12 v13 v14 v15 v16 v17 v18, σ = Sg a kk l rw v4 v5 e fg g v9 v10 (some (.int (i : Nat))) v12 v13 v14 v15 v16 v17 v18 ∧ InnS P w C T l rw fg Hb U R (tt + 1) (n + 2) e g es H', ?_, ?_⟩
  · obtain ⟨L, hl, nl, el, eL⟩ := I2.row
    refine ⟨_, rfl, _, _, rfl, rfl, _, rfl, ite2 (fun hc => ?_) (fun hc => ?_)⟩
    · have hc := of_decide_eq_true hc
      -- turned or mirrored
      have hkd : ((kd : Int) - 4) = if decide (kd = 5) = true then 1 else 0 := by
        by_cases h : kd = 5
        · subst h
          decide
        · have : kd = 4 := by omega
          subst this
          decide
      refine ⟨_, rfl, _, rfl, _, _, rfl, rfl, e, L, decide (kd = 5), (by show [V.ref e, V.int ((kd : Int) - 4)] = _; rw [hkd]), hl, el, by rw [eL]; exact I2.fig.ss, by rw [eL]; exact I2.fig.ok, by have := I2.fig.few; rw [← eL, List.length_map] at this; exact this, fun p M H3 s3 hp elM tu => ?_⟩
      rw [eL] at tu
      have I3 := I2.same s3
      obtain ⟨dx, aa, dd, rr, LL, kvs, g1, _⟩ := I3.fig.ex
      obtain ⟨ys, hbl⟩ := I3.box.lst
      have few' := I2.few.turn hU tu
      have fin : ∀ z H4, LamX.ExtN H3 H4 → LamX.Tabs T H4 → FigAt P w C H4 z (eds M) → InnS P w C T l rw fg Hb U R (tt + 1) (n + 2) p z (eds M) H4 := fun z H4 x4 t4 f4 => by
        have I4 := I3.ext x4 t4
        have nep : p ≠ l := I3.box.ner hp
        exact ⟨I4.kp, I4.box, t4, I4.fix, ⟨M, x4 _ _ hp (fun _ z => nomatch z), nep, elM.tk (fun b ys e => x4 _ _ e fun _ z => nomatch z), rfl⟩, f4, few'⟩
      refine ⟨_, rfl, rfl, _, rfl, ite2 (fun h4 => ?_) (fun h4 => ?_)⟩
      · have z := of_decide_eq_true h4
        injection z with z
        have hz : decide (kd = 5) = false := decide_eq_false (by omega)
        rw [hz] at tu
        exact ⟨_, rfl, g, dx, _, rfl, g1, ff_no _ _ _ (by decide +kernel) (by decide +kernel) (by decide +kernel), g, es, eds M, rfl, I3.fig, I3.tabs, tu, fun z H4 x4 t4 f4 => ⟨p, z, eds M, _, _, _, _, _, _, _, _, _, rfl, fin z H4 x4 t4 f4⟩⟩
      · have hz : decide (kd = 5) = true := decide_eq_true (by
          have : ¬ kd = 4 := fun z => h4 (by subst z; exact decide_eq_true rfl)
          omega)
        rw [hz] at tu
        exact ⟨_, rfl, g, dx, _, rfl, g1, ff_no _ _ _ (by decide +kernel) (by decide +kernel) (by decide +kernel), g, es, eds M, rfl, I3.fig, I3.tabs, tu, fun z H4 x4 t4 f4 => ⟨p, z, eds M, _, _, _, _, _, _, _, _, _, rfl, fin z H4 x4 t4 f4⟩⟩
    · have hc : ¬ (3 < (kd : Int)) := fun z => hc (decide_eq_true z)
      have hk4 : kd < 4 := by omega
      obtain ⟨ra, fa, r1, r2, r3, r4, r5⟩ := I2.fix.ex
      obtain ⟨⟨N, n1, n2, n3, n4⟩, fN⟩ := r5 i hi3
      obtain ⟨gs, pt0⟩ := Put.exists_ kd es (R i)
      obtain ⟨W, w1, w2, w3⟩ := I2.few.cover hU (by omega)
      have lenE := SS.len I2.fig.ss w2
      have lenR := SS.len fN.ss fun e he => w3 e (hR i hi3 e he)
      have lenG := SS.len pt0.ss fun e he => (pt0.sub e he).elim (w2 e) fun h => w3 e (hR i hi3 e h)
      have lL : L.length = es.length := by rw [← eL, List.length_map]
      have lN : N.length = (R i).length := by rw [← n4, List.length_map]
      refine ⟨_, rfl, _, rfl, _, rfl, _, rfl, rw, _, _, _, rfl, rfl, SqL.of r1, three_at (a := .non) (b := .non) (c := .non) hi3, e, ra i, L, N, kd, rfl, hk4, hl, n1, el, n3, eL ▸ I2.fig.ss, n4 ▸ fN.ss, by omega, fun p M H3 s3 hp elM pt => ?_⟩
      rw [eL, n4] at pt
      have eM : eds M = gs := pt.one pt0
      have I3 := I2.same s3
      refine ⟨_, rfl, _, rfl, _, rfl, _, rfl, fg, _, _, _, rfl, rfl, SqL.of (s3 _ _ r3), three_at (a := .non) (b := .non) (c := .non) hi3, kd, g, fa i, es, R i, gs, rfl, hk4, I3.fig, fN.same s3, pt0, by omega, by omega, fun z H4 s4 fz => ?_⟩
      refine ⟨(by show 2 ≤ sizeLine; decide), fun tp htp => ?_⟩
      have s5 : Same H4 (upd H4 tp (.tup [.ref p, .ref z])) := Same.at_ htp
      have I5 := (I3.same s4).same s5
      refine ⟨tp, _, rfl, SqT.of upd_same, rfl, .ref p, _, rfl, .ref z, _, rfl, rfl, p, z, gs, _, _, _, _, _, _, _, _, _, rfl, ⟨I5.kp, I5.box, I5.tabs, I5.fix, ⟨M, s5 _ _ (s4 _ _ hp), I3.box.ner hp, s5.el (s4.el elM), eM⟩, fz.same s5, I2.few.put (hR i hi3) pt0⟩⟩
  · rintro σ H1 ⟨e, g, es, v9, v10, v12, v13, v14, v15, v16, v17, v18, rfl, I1⟩
    clear I2 H2
    obtain ⟨W, w1, w2, w3⟩ := I1.few.cover hU (by omega)
    have len1 := SS.len I1.fig.ss w2
    -- shifted and back
    refine ⟨fun σ H' => ∃ g v9 v10 v12 v13 v14 v15 v16 v17 v18, σ = Sg a kk l rw v4 v5 e fg g v9 v10 (some (.int (i : Nat))) v12 v13 v14 v15 v16 v17 v18 ∧ InnS P w C T l rw fg Hb U R (tt + 1) (n + 2) e g es H', ?_, ?_⟩
    · obtain ⟨L, hl, nl, el, eL⟩ := I1.row
      refine ⟨_, rfl, Nat.zero_le _, fun q hq => ?_⟩
      have sq : Same H1 (upd H1 q (.lst [])) := Same.at_ hq
      have I2 := I1.same sq
      have hl2 := sq _ _ hl
      have el2 := sq.el el
      refine ⟨_, _, EL.dp (SqL.of hl2) el2, EL.dp (L := []) (SqL.of (upd_same : upd H1 q (.lst []) q = some (.lst (rf ([] : List (Addr × Ed)))))) (fun _ z => nomatch z), shaped_list edD_lay edD_depth _, shaped_list edD_lay edD_depth _, _, rfl, ?_⟩
      generalize upd H1 q (.lst []) = H2 at sq I2 hl2 el2 ⊢
      refine ite2 (fun hc => ?_) (fun hc => ⟨g, _, _, _, _, _, _, _, _, _, rfl, I2⟩)
      have hne : es ≠ [] := fun z => by
        rw [eL, z] at hc
        exact absurd hc (by decide)
      -- the greatest x
      refine ⟨_, rfl, e, rfl, ⟨_, SqL.of hl2⟩, fun Dx hDx => ?_⟩
      refine lc_list (K := K) (a := e) (xs := rf L) (fun j H' => Same H2 H' ∧ H' Dx = some (.lst (((es.take j).map fun e => e.2.1).map V.int))) ⟨Same.at_ hDx, upd_same⟩ (fun j H' _ z => SqL.of (z.1 _ _ hl2)) ?_ ?_
      · rintro j v H' hv ⟨s3, hd⟩
        obtain ⟨y, hy, rfl⟩ := rf_get hv
        obtain ⟨b, c, hyt, hb, hc'⟩ := s3.ed (el2 y (List.mem_of_getElem? hy))
        have hye : es[j]? = some y.2 := by rw [← eL, List.getElem?_map, hy]; rfl
        refine ⟨y.1, _, rfl, SqT.of hyt, rfl, .ref b, _, rfl, .ref c, _, rfl, rfl, rfl, ?_⟩
        refine ⟨_, rfl, c, _, _, _, rfl, rfl, SqT.of hc', rfl, _, hd, ?_, s3.up hDx, ?_⟩
        · rw [List.length_map, List.length_map, List.length_take, sizeLine_eq]
          omega
        · rw [upd_same, List.take_add_one, hye, List.map_append, List.map_append]
          rfl
      rintro H3 ⟨s3, hd3⟩
      have hn : (rf L).length = es.length := by rw [rf_len, ← eL, List.length_map]
      rw [hn, List.take_length] at hd3
      refine ⟨Dx, es.map fun e => e.2.1, rfl, SqL.of hd3, ?_, fun mx hmx umx => ⟨_, _, rfl, rfl, ?_⟩⟩
      · rw [List.length_map]
        exact List.length_pos_iff.mpr hne
      -- the greatest y
      have hl3 := s3 _ _ hl2
      have el3 := s3.el el2
      refine ⟨_, rfl, e, rfl, ⟨_, SqL.of hl3⟩, fun Dy hDy => ?_⟩
      refine lc_list (K := K) (a := e) (xs := rf L) (fun j H' => Same H3 H' ∧ H' Dy = some (.lst (((es.take j).map fun e => e.2.2).map V.int))) ⟨Same.at_ hDy, upd_same⟩ (fun j H' _ z => SqL.of (z.1 _ _ hl3)) ?_ ?_
      · rintro j v H' hv ⟨s4, hd⟩
        obtain ⟨y, hy, rfl⟩ := rf_get hv
        obtain ⟨b, c, hyt, hb, hc'⟩ := s4.ed (el3 y (List.mem_of_getElem? hy))
        have hye : es[j]? = some y.2 := by rw [← eL, List.getElem?_map, hy]; rfl
        refine ⟨y.1, _, rfl, SqT.of hyt, rfl, .ref b, _, rfl, .ref c, _, rfl, rfl, rfl, ?_⟩
        refine ⟨_, rfl, c, _, _, _, rfl, rfl, SqT.of hc', rfl, _, hd, ?_, s4.up hDy, ?_⟩
        · rw [List.length_map, List.length_map, List.length_take, sizeLine_eq]
          omega
        · rw [upd_same, List.take_add_one, hye, List.map_append, List.map_append]
          rfl
      rintro H4 ⟨s4, hd4⟩
      rw [hn, List.take_length] at hd4
      refine ⟨Dy, es.map fun e => e.2.2, rfl, SqL.of hd4, ?_, fun my hmy umy => ⟨_, _, rfl, rfl, ?_⟩⟩
      · rw [List.length_map]
        exact List.length_pos_iff.mpr hne
      obtain ⟨bx', by', fit⟩ := shift_fits I2.fig.ok hmx hmy umx umy
      have I4 := (I2.same s3).same s4
      obtain ⟨gs, sh⟩ := Shifted.ex (30 - mx) (30 - my) es
      obtain ⟨dx, aa, dd, rr, LL, kvs, g1, _⟩ := I4.fig.ex
      refine ⟨_, rfl, g, dx, _, rfl, g1, ff_no _ _ _ (by decide +kernel) (by decide +kernel) (by decide +kernel), _, rfl, _, rfl, g, 30 - mx, 30 - my, es, gs, rfl, I4.fig, I4.tabs, bx', by', fun p hp => (fit p hp).2, sh, fun z H5 x5 t5 f5 => ?_⟩
      have I5 := I4.ext x5 t5
      obtain ⟨dz, _, _, _, _, _, z1, _⟩ := f5.ex
      refine ⟨z, dz, _, rfl, z1, ff_no _ _ _ (by decide +kernel) (by decide +kernel) (by decide +kernel), _, rfl, _, rfl, _, rfl, _, rfl, z, -(30 - mx), -(30 - my), gs, es, rfl, f5, t5, by omega, by omega, fun p hp => ?_, shift_back' I2.fig.ss sh, fun z2 H6 x6 t6 f6 => ?_⟩
      · obtain ⟨r, hr, _, hb⟩ := pts_shift sh hp
        rw [hb]
        exact (fit r hr).1
      · have I6 := I5.ext x6 t6
        exact ⟨z2, _, _, _, _, _, _, _, _, _, rfl, I6.kp, I6.box, I6.tabs, I6.fix, I6.row, f6, I6.few⟩
    rintro σ H2 ⟨g, v9, v10, v12, v13, v14, v15, v16, v17, v18, rfl, I2⟩
    clear I1 H1
    -- in, len
    refine ⟨fun σ H' => σ = Sg a kk l rw v4 v5 e fg g v9 v10 (some (.int (i : Nat))) v12 v13 v14 v15 v16 v17 v18 ∧ InnS P w C T l rw fg Hb U R (tt + 1) (n + 2) e g es H', ?_, ?_⟩
    · obtain ⟨L, hl, nl, el, eL⟩ := I2.row
      refine ⟨_, rfl, e, rfl, ⟨_, SqL.of hl⟩, fun R1 hR1 => ?_⟩
      refine lc_list (K := K) (a := e) (xs := rf L) (fun j H' => Same H2 H' ∧ H' R1 = some (.lst [])) ⟨Same.at_ hR1, upd_same⟩ (fun j H' _ z => SqL.of (z.1 _ _ hl)) ?_ ?_
      · rintro j v H' hv ⟨s3, hd⟩
        obtain ⟨y, hy, rfl⟩ := rf_get hv
        have hye : y.2 ∈ es := by rw [← eL]; exact List.mem_map_of_mem (List.mem_of_getElem? hy)
        have f3 := I2.fig.same s3
        obtain ⟨dx, aa, dd, rr, LL, kvs, g1, _⟩ := f3.ex
        refine ⟨rfl, _, rfl, _, rfl, g, dx, _, rfl, g1, g, y.1, y.2, es, rfl, f3, s3.ed (el y (List.mem_of_getElem? hy)), I2.fig.ok _ hye, _, rfl, _, rfl, ?_⟩
        rw [decide_eq_true hye]
        exact iteF ⟨s3, hd⟩
      rintro H3 ⟨s3, hd3⟩
      have I3 := I2.same s3
      refine ⟨Nat.zero_le _, fun q hq => ?_⟩
      have sq : Same H3 (upd H3 q (.lst [])) := Same.at_ hq
      have I4 := I3.same sq
      refine ⟨_, _, EL.dp (L := []) (SqL.of (sq _ _ hd3)) (fun _ z => nomatch z), EL.dp (L := []) (SqL.of (upd_same : upd H3 q (.lst []) q = some (.lst (rf ([] : List (Addr × Ed)))))) (fun _ z => nomatch z), shaped_list edD_lay edD_depth [], shaped_list edD_lay edD_depth [], _, rfl, ?_⟩
      refine iteF ?_
      obtain ⟨dx, aa, dd, rr, LL, kvs, g1, _⟩ := I4.fig.ex
      have hn : (rf L).length = es.length := by rw [rf_len, ← eL, List.length_map]
      refine ⟨_, rfl, g, dx, _, rfl, g1, g, es, rfl, I4.fig, es.length, rfl, by have := I4.fig.few; omega, _, rfl, e, _, rfl, .inl (SqL.of (sq _ _ (s3 _ _ hl))), rfl, _, rfl, ?_⟩
      rw [hn]
      exact iteNS rfl ⟨rfl, I4⟩
    rintro σ H3 ⟨rfl, I3⟩
    clear I2 H2
    -- the odd points by the law's own list
    refine ⟨fun σ H' => ∃ (od : Addr) (Mo : List (Addr × Pt)), σ = Sg a kk l rw v4 v5 e fg g v9 v10 (some (.int (i : Nat))) v12 v13 (some (.ref od)) v15 v16 v17 v18 ∧ InnS P w C T l rw fg Hb U R (tt + 1) (n + 2) e g es H' ∧ H' od = some (.lst (rf Mo)) ∧ PL H' Mo ∧ SP (pts Mo) ∧ ∀ p, p ∈ pts Mo ↔ (ptsOf es p ∧ deg es p % 2 = 1), ?_, ?_⟩
    · obtain ⟨L, hl, nl, el, eL⟩ := I3.row
      refine ⟨_, rfl, e, L, rfl, hl, el, eL ▸ I3.fig.ok, by have := I3.fig.few; rw [← eL, List.length_map] at this; exact this, fun p M H4 s4 hp pl sp hiff hM8 => ?_⟩
      rw [eL] at hiff
      refine ⟨p, rfl, ⟨_, SqL.of hp⟩, fun R1 hR1 => ?_⟩
      refine lc_list (K := K) (a := p) (xs := rf M) (fun j H' => Same H4 H' ∧ H' R1 = some (.lst (rf ((M.take j).filter fun q => decide (deg es q.2 % 2 = 1))))) ⟨Same.at_ hR1, upd_same⟩ (fun j H' _ z => SqL.of (z.1 _ _ hp)) ?_ ?_
      · rintro j v H' hv ⟨s5, hd⟩
        obtain ⟨y, hy, rfl⟩ := rf_get hv
        have s45 := s4.trans s5
        refine ⟨rfl, _, rfl, _, rfl, e, y.1, L, y.2, rfl, s45 _ _ hl, s45.el el, s5.pt (pl y (List.mem_of_getElem? hy)), fun z H6 s6 hz => ?_⟩
        rw [eL] at hz
        have s56 := s5.trans s6
        obtain ⟨p1, p2⟩ := filt_pv hR1 (fun q => decide (deg es q.2 % 2 = 1)) hy s56 (s6 _ _ hd)
        have hz4 : z.length ≤ 4 := by
          rw [hz, ← cnt4 I3.fig.ok]
          exact cnt_le _ _ 4
        refine ⟨z, rfl, (by rw [sizeLine_eq]; omega), _, _, rfl, rfl, (by show (0 : Int) < 2; decide), rfl, _, rfl, ?_⟩
        refine ite2 (fun hc => ⟨_, rfl, _, s6 _ _ hd, ?_, p1 ?_⟩) (fun hc => p2 ?_)
        · rw [rf_len]
          refine Nat.lt_of_le_of_lt (List.length_filter_le _ _) ?_
          rw [List.length_take, sizeLine_eq]
          omega
        · have hc := of_decide_eq_true hc
          injection hc with hc
          refine decide_eq_true ?_
          show deg es y.2 % 2 = 1
          rw [hz] at hc
          omega
        · refine decide_eq_false fun h => hc (decide_eq_true ?_)
          have h : deg es y.2 % 2 = 1 := h
          show V.int (((z.length : Nat) : Int) % 2) = V.int 1
          rw [hz]
          congr 1
          omega
      · rintro H' ⟨s5, hd⟩
        rw [rf_len M, List.take_length] at hd
        refine ⟨R1, M.filter fun q => decide (deg es q.2 % 2 = 1), rfl, I3.same (s4.trans s5), hd, fun q hq => s5.pt (pl q (List.mem_filter.mp hq).1), ?_, fun q => ?_⟩
        · rw [pts_flt M fun q => decide (deg es q % 2 = 1)]
          exact List.Pairwise.filter _ sp
        · rw [pts_flt M fun q => decide (deg es q % 2 = 1), List.mem_filter, hiff]
          simp
    rintro σ H4 ⟨od, Mo, rfl, I4, hod, plo, spo, iffo⟩
    clear I3 H3
    -- the figure made anew, and its odd points
    refine ⟨fun σ H' => σ = Sg a kk l rw v4 v5 e fg g v9 v10 (some (.int (i : Nat))) v12 v13 (some (.ref od)) v15 v16 v17 v18 ∧ InnS P w C T l rw fg Hb U R (tt + 1) (n + 2) e g es H', ?_, ?_⟩
    · obtain ⟨L, hl, nl, el, eL⟩ := I4.row
      have lL : L.length = es.length := by rw [← eL, List.length_map]
      refine ⟨_, rfl, _, rfl, ?_⟩
      refine mk_readZ (L := L) (es := es) hl el (eL ▸ I4.fig.ok) (by omega) I4.fig.ss (fun f => by rw [eL]) I4.fig.few fun z H5 s5 fz => ?_
      have I5 := I4.same s5
      obtain ⟨dx, aa, dd, rr, LL, kvs, g1, _⟩ := I5.fig.ex
      obtain ⟨dz, _, _, _, _, _, z1, _⟩ := fz.ex
      refine ⟨g, z, dx, dz, _, _, rfl, rfl, g1, z1, g, z, es, rfl, I5.fig, fz, true, rfl, _, rfl, iteF ?_⟩
      refine ⟨_, rfl, g, dx, _, rfl, g1, ff_no _ _ _ (by decide +kernel) (by decide +kernel) (by decide +kernel), g, es, rfl, I5.fig, fun t6 M H6 s6 ht6 pl6 sp6 iff6 => ?_⟩
      have s46 := s5.trans s6
      refine ⟨_, rfl, od, _, rfl, .inl ⟨SqL.of (s46 _ _ hod), fun u hu7 => ?_⟩⟩
      have s7 : Same H6 (upd H6 u (.tup (rf Mo))) := Same.at_ hu7
      have eM : pts M = pts Mo := sp6.one spo fun q => by rw [iff6, iffo]
      have plM : PL (upd H6 u (.tup (rf Mo))) M := fun q hq => s7.pt (pl6 q hq)
      have plMo : PL (upd H6 u (.tup (rf Mo))) Mo := fun q hq => (s46.trans s7).pt (plo q hq)
      refine ⟨_, _, PL.dpT (SqT.of (s7 _ _ ht6)) plM, PL.dpT (SqT.of upd_same) plMo, shaped_tup ptD_lay ptD_depth _, shaped_tup ptD_lay ptD_depth _, _, rfl, ?_⟩
      rw [eM, pts_eqv]
      exact iteF ⟨rfl, (I5.same s6).same s7⟩
    rintro σ H5 ⟨rfl, I5⟩
    clear I4 H4 hod plo spo iffo
    obtain ⟨gs, px⟩ := Put.exists_ 3 es (R i)
    have lenG := SS.len px.ss fun f hf => (px.sub f hf).elim (w2 f) fun h => w3 f (hR i hi3 f h)
    have lenR : (R i).length ≤ 374 := by
      obtain ⟨ra, fa, r1, r2, r3, r4, r5⟩ := I5.fix.ex
      exact Nat.le_trans (SS.len (r5 i hi3).2.ss fun f hf => w3 f (hR i hi3 f hf)) w1
    -- twice ^
    refine ⟨fun σ H' => σ = Sg a kk l rw v4 v5 e fg g v9 v10 (some (.int (i : Nat))) v12 v13 (some (.ref od)) v15 v16 v17 v18 ∧ InnS P w C T l rw fg Hb U R (tt + 1) (n + 2) e g es H', ?_, ?_⟩
    · obtain ⟨ra, fa, r1, r2, r3, r4, r5⟩ := I5.fix.ex
      have fN := (r5 i hi3).2
      obtain ⟨hs, px2⟩ := Put.exists_ 3 gs (R i)
      have eh' : hs = es := xor_twice I5.fig.ss px px2
      refine ⟨_, rfl, _, rfl, _, rfl, fg, _, _, _, rfl, rfl, SqL.of r3, three_at (a := .non) (b := .non) (c := .non) hi3, bin_read I5.fig fN px (by omega) (by omega) fun z H6 s6 f6 => ?_⟩
      have f2 := fN.same s6
      refine ⟨_, rfl, _, rfl, fg, _, _, _, rfl, rfl, SqL.of (s6 _ _ r3), three_at (a := .non) (b := .non) (c := .non) hi3, bin_read f6 f2 px2 (by omega) (by rw [eh']; exact I5.fig.few) fun z2 H7 s7 f7 => ?_⟩
      rw [eh'] at f7
      have I7 := (I5.same s6).same s7
      obtain ⟨dx, aa, dd, rr, LL, kvs, g1, _⟩ := I7.fig.ex
      obtain ⟨dz, _, _, _, _, _, z1, _⟩ := f7.ex
      exact ⟨_, rfl, z2, g, dz, dx, _, _, rfl, rfl, z1, g1, z2, g, es, rfl, f7, I7.fig, true, rfl, _, rfl, iteF ⟨rfl, I7⟩⟩
    rintro σ H6 ⟨rfl, I6⟩
    clear I5 H5
    -- put together and turned, in either order
    obtain ⟨ra, fa, r1, r2, r3, r4, r5⟩ := I6.fix.ex
    have fN := (r5 i hi3).2
    refine ⟨_, rfl, _, rfl, _, rfl, fg, _, _, _, rfl, rfl, SqL.of r3, three_at (a := .non) (b := .non) (c := .non) hi3, bin_read I6.fig fN px (by omega) (by omega) fun z H7 s7 f7 => ?_⟩
    have I7 := I6.same s7
    obtain ⟨dz, _, _, _, _, _, z1, _⟩ := f7.ex
    obtain ⟨g', tg⟩ := Turned.ex false gs
    obtain ⟨es', te⟩ := Turned.ex false es
    obtain ⟨Ri', tr⟩ := Turned.ex false (R i)
    obtain ⟨d, pd⟩ := Put.exists_ 3 es' Ri'
    have e1 : g' = d := xor_turned I6.fig.ok fN.ok px tg te tr pd
    have lg := tg.len
    have le := te.len
    have lr := tr.len
    refine ⟨_, rfl, z, dz, _, rfl, z1, ff_no _ _ _ (by decide +kernel) (by decide +kernel) (by decide +kernel), z, gs, g', rfl, f7, I7.tabs, tg, fun y1 H8 x8 t8 f8 => ?_⟩
    have I8 := I7.ext x8 t8
    obtain ⟨dx, aa, dd, rr, LL, kvs, g1, _⟩ := I8.fig.ex
    refine ⟨_, rfl, g, dx, _, rfl, g1, ff_no _ _ _ (by decide +kernel) (by decide +kernel) (by decide +kernel), g, es, es', rfl, I8.fig, t8, te, fun y2 H9 x9 t9 f9 => ?_⟩
    have I9 := I8.ext x9 t9
    obtain ⟨ra', fa', r1', r2', r3', r4', r5'⟩ := I9.fix.ex
    have fN' := (r5' i hi3).2
    obtain ⟨dn, _, _, _, _, _, n1, _⟩ := fN'.ex
    refine ⟨_, rfl, _, rfl, fg, _, _, _, rfl, rfl, SqL.of r3', three_at (a := .non) (b := .non) (c := .non) hi3, fa' i, dn, _, rfl, n1, ff_no _ _ _ (by decide +kernel) (by decide +kernel) (by decide +kernel), fa' i, R i, Ri', rfl, fN', t9, tr, fun y3 H10 x10 t10 f10 => ?_⟩
    have I10 := I9.ext x10 t10
    refine bin_read (f9.ext x10) f10 pd (by omega) (by rw [← e1]; omega) fun y4 H11 s11 f11 => ?_
    have I11 := I10.same s11
    have f8' := ((f8.ext x9).ext x10).same s11
    rw [e1] at f8'
    obtain ⟨da, _, _, _, _, _, q1, _⟩ := f8'.ex
    obtain ⟨db, _, _, _, _, _, q2, _⟩ := f11.ex
    exact ⟨y1, y4, da, db, _, _, rfl, rfl, q1, q2, y1, y4, d, rfl, f8', f11, true, rfl, _, rfl, iteF (k _ _ ⟨e, g, es, _, _, _, _, _, _, _, _, _, _, _, _, rfl, I11⟩)⟩
end
end NC
/-! The law. -/
namespace NC
open PySem PySem.Spec PyProof.Rows L2
section
variable {P : Program} {w : World} {K : PySem.W.Frag} {mg : Str → Option Value} {base : Heap} {C : Addr} {T : List (Addr × Str)}
def spLaw (K : PySem.W.Frag) (T : List (Addr × Str)) : Sp := fun vs H Q _ => ∃ (a : Addr) (ns : List Int), vs = [.ref a] ∧ SqL K H a (ns.map V.int) ∧ LamX.Tabs T H ∧ ns.length ≤ 63 ∧ ∀ H', Q (.bl true) H'
/-- what stands through the outer loop: the script, the tables -/
structure OutS (K : PySem.W.Frag) (T : List (Addr × Str)) (a : Addr) (ns : List Int) (H : Hp) : Prop where
  s : SqL K H a (ns.map V.int)
  t : LamX.Tabs T H
/-- the rows so far -/
structure RwS (l rw : Addr) (Hb H' : Hp) (n : Nat) (rs : List (Addr × List (Addr × Ed))) : Prop where
  bt : But l Hb H'
  box : BoxAt H' l n
  hr : H' rw = some (.lst (rs.map fun p => .ref p.1))
  nrw : rw ≠ l
  fr : Hb rw = none
  rows : ∀ p ∈ rs, H' p.1 = some (.lst (rf p.2)) ∧ p.1 ≠ l ∧ p.1 ≠ rw ∧ EL H' p.2 ∧ SS (eds p.2) ∧ ∀ e ∈ eds p.2, okE e
theorem RwS.tr {l rw : Addr} {Hb H1 H2 : Hp} {n m : Nat} {rs : List (Addr × List (Addr × Ed))} (x : RwS l rw Hb H1 n rs) (b : But l H1 H2) (h : BoxAt H2 l m) : RwS l rw Hb H2 m rs := by
  obtain ⟨xs, hl⟩ := x.box.lst
  refine ⟨x.bt.trans b, h, b _ _ x.nrw x.hr, x.nrw, x.fr, fun p hp => ?_⟩
  obtain ⟨h1, h2, h3, h4, h5, h6⟩ := x.rows p hp
  exact ⟨b _ _ h2 h1, h2, h3, h4.tk (b.tk hl), h5, h6⟩
theorem RwS.same {l rw : Addr} {Hb H1 H2 : Hp} {n : Nat} {rs : List (Addr × List (Addr × Ed))} (x : RwS l rw Hb H1 n rs) (s : Same H1 H2) : RwS l rw Hb H2 n rs := x.tr (But.of s) (x.box.same s)
theorem RwS.push {l rw p : Addr} {Hb H1 : Hp} {n : Nat} {rs : List (Addr × List (Addr × Ed))} {L : List (Addr × Ed)} (x : RwS l rw Hb H1 n rs) (hp : H1 p = some (.lst (rf L))) (nl : p ≠ l) (nr : p ≠ rw) (el : EL H1 L) (ss : SS (eds L)) (ok : ∀ e ∈ eds L, okE e) :
    RwS l rw Hb (upd H1 rw (.lst ((rs.map fun p => .ref p.1) ++ [.ref p]))) n (rs ++ [(p, L)]) := by
  have tk : Tk H1 (upd H1 rw (.lst ((rs.map fun p => V.ref p.1) ++ [.ref p]))) := fun a ys e => by
    rw [upd_ne (ne_of e x.hr fun z => nomatch z)]
    exact e
  refine ⟨x.bt.up x.fr, ?_, ?_, x.nrw, x.fr, fun q hq => ?_⟩
  · obtain ⟨a, b, c, h1, h2⟩ := x.box
    exact ⟨a, b, c, by rw [upd_ne x.nrw.symm]; exact h1, h2⟩
  · rw [upd_same, List.map_append]
    rfl
  · rcases List.mem_append.mp hq with hq | hq
    · obtain ⟨h1, h2, h3, h4, h5, h6⟩ := x.rows q hq
      exact ⟨by rw [upd_ne h3]; exact h1, h2, h3, h4.tk tk, h5, h6⟩
    · obtain rfl := List.mem_singleton.mp hq
      exact ⟨by rw [upd_ne nr]; exact hp, nl, nr, el.tk tk, ss, ok⟩
theorem script_kp {K : PySem.W.Frag} {a l : Addr} {xs : List V} {H1 Hb H2 : Hp} (h : SqL K H1 a xs) (s : Same H1 Hb) (n : H1 l = none) (k : Kp l Hb H2) : SqL K H2 a xs := by
  rcases h with h | h
  · rcases h with h | ⟨o, h⟩
    · exact SqL.of (k _ _ (s _ _ h) (ne_of_none h n) (fun _ z => nomatch z))
    · exact .inl (.inr ⟨o, k _ _ (s _ _ h) (ne_of_none h n) (fun _ z => nomatch z)⟩)
  · exact .inr h
theorem row_add {K : PySem.W.Frag} {w : World} {l rw q : Addr} {Hb H : Hp} {n : Nat} {rs : List (Addr × List (Addr × Ed))} {N : List (Addr × Ed)} {Q : VK} (x : RwS l rw Hb H n rs) (hq : H q = some (.lst (rf N))) (el : EL H N) (ok : ∀ e ∈ eds N, okE e) (ln : N.length ≤ 799) (hrs : rs.length ≤ 10)
    (k : ∀ r1 M1 H', RwS l rw Hb H' n (rs ++ [(r1, M1)]) → (∀ e ∈ eds M1, e ∈ eds N) → Q .non H') : rSetOf K w [.ref q] H fun v H1 => rSortSet w [v] H1 fun v2 H2 => rAppend (.ref rw) [v2] H2 Q := by
  refine ⟨q, N, rfl, SqL.of hq, el, ln, fun c M hc hsub hcov hnd => ?_⟩
  have s1 : Same H (upd H c (SetEO w c M)) := Same.at_ hc
  have elM : EL (upd H c (SetEO w c M)) M := fun q hq => s1.ed (el q (hsub q hq))
  refine ⟨c, M, rfl, upd_same, elM, fun r1 M1 pm ss h1 => ?_⟩
  have x2 := x.same s1
  have s2 : Same (upd H c (SetEO w c M)) (upd (upd H c (SetEO w c M)) r1 (.lst (rf M1))) := Same.at_ h1
  have x3 := x2.same s2
  have in1 : ∀ e ∈ eds M1, e ∈ eds N := fun e he => by
    obtain ⟨p, hp, rfl⟩ := List.mem_map.mp ((pm.map _).mem_iff.mp he)
    exact List.mem_map_of_mem (hsub p hp)
  refine ⟨rw, _, _, rfl, rfl, x3.hr, ?_, k r1 M1 _ (x3.push upd_same (x2.box.ne h1) (ne_of_none x2.hr h1).symm (s2.el fun q hq => elM q (pm.mem_iff.mp hq)) ss fun e he => ok e (in1 e he)) in1⟩
  rw [List.length_map, sizeLine_eq]
  omega
theorem fig_up {P : Program} {w : World} {C z D : Addr} {H : Hp} {es : List Ed} {xs ys : List V} (f : FigAt P w C H z es) (hD : H D = some (.lst xs)) : FigAt P w C (upd H D (.lst ys)) z es := f.tr fun b o e h1 _ => by
  rw [upd_ne (ne_of e hD (h1 xs))]
  exact e
theorem near_up {l D : Addr} {H2 H4 : Hp} {n j : Nat} {N0 L0 : List (Addr × Ed)} {q : Addr × Ed} (b : But l H2 H4) (x : BoxAt H4 l (n + j + 1)) (hD : H2 D = none) (nl : D ≠ l) (hd : H4 D = some (.lst (rf N0))) (sub : ∀ q ∈ N0, q ∈ L0) (ln : N0.length ≤ j) (hq : q ∈ L0) :
    But l H2 (upd H4 D (.lst (rf N0 ++ [.ref q.1]))) ∧ BoxAt (upd H4 D (.lst (rf N0 ++ [.ref q.1]))) l (n + (j + 1)) ∧ ∃ N1, upd H4 D (.lst (rf N0 ++ [.ref q.1])) D = some (.lst (rf N1)) ∧ (∀ q ∈ N1, q ∈ L0) ∧ N1.length ≤ j + 1 := by
  refine ⟨b.up hD, ?_, N0 ++ [q], ?_, fun p hp => ?_, ?_⟩
  · obtain ⟨a, b, c, h1, h2⟩ := x
    exact ⟨a, b, c, by rw [upd_ne nl.symm]; exact h1, h2⟩
  · rw [upd_same, rf_app]
    rfl
  · rcases List.mem_append.mp hp with hp | hp
    · exact sub p hp
    · rw [List.mem_singleton.mp hp]
      exact hq
  · rw [List.length_append]
    exact Nat.add_le_add_right ln 1
theorem law_ok {f : Addr} {cdv : Value} {A : PySem.Around} {outer : List Env} {s : Shared} {H : Hp} {E : XK} {Q : VK} {vs : List V} (LE : LawEnv P w K mg base C T) (hr : Room 10 (A.deeper (envOfC "law" (defScope lLaw) s.heap.objs.size f cdv))) (h : spLaw K T vs H Q E) :
    ∃ t, PSs (cxOf L2.CX0 P w K mg base NL "law" (defScope lLaw) f cdv A outer s H E).nox (defBody lLaw) t ∧ t { nx := fun _ H' => Q .non H', rt := Q } (L2.start NL vs) H := by
  have B := LE.B
  obtain ⟨fi, fdi, M⟩ := LE.mkf
  have TC := M.C
  obtain ⟨ft, fdt, gt, kt, bt, Gt⟩ := LE.take.ex
  obtain ⟨fc, fdc, gc, kc, bc, Gc⟩ := LE.cell.ex
  obtain ⟨fb, fdb, gb, kb, bb, Gb⟩ := LE.box.ex
  obtain ⟨fe, fde, ge, ke, be, Ge⟩ := LE.edges.ex
  have hu : (A.deeper (envOfC ("law" : Str) (defScope lLaw) s.heap.objs.size f cdv)).units + 64 < cLine := by have := hr.un; omega
  have h1 := hr.mono (show 1 ≤ 10 by decide)
  have h2 := hr.mono (show 2 ≤ 10 by decide)
  have h7 := hr.mono (show 7 ≤ 10 by decide)
  obtain ⟨ti, hti, inn⟩ := inner_ok (f := f) (cdv := cdv) (A := A) (outer := outer) (s := s) (H := H) (E := E) LE hr
  obtain ⟨a, ns, rfl, hS, hT, hlen, k⟩ := h
  refine ⟨_, pss_cons (ps_for PassesOwn.never rfl (pi_range1 (by rfl) B.range (pa_cons (pe_callB (call_max2 rfl) (by rfl) B.max (by decide +kernel) (pa_cons pe_int (pa_cons (pe_callB (call_min2 rfl) (by rfl) B.min (by decide +kernel) (pa_cons pe_int (pa_cons (pe_callB call_len_seq (by rfl) B.len PySem.boot_len (pa_cons (pv 0) pa_nil)) pa_nil))) pa_nil))) pa_nil)) (pg_name (i := 1) scLaw.nd rfl (Or.inl rfl))
      (pss_cons (ps_mid <| ps_set (i := 2) scLaw.nd rfl (Or.inr rfl) (pe_call Gb h1 rfl gb kb bb .nil pass0 (pa_cons (pe_call Gc h1 rfl gc kc bc .nil pass0 (pa_cons (pv 0) (pa_cons (pv 1) pa_nil))) pa_nil)))
      (pss_cons (ps_mid <| ps_set (i := 3) scLaw.nd rfl (Or.inl rfl) (pe_lst (pa_cons (pe_callB (call_srtE hu : CallR _ _ (rSrtE K)) (by rfl) B.sorted (by decide +kernel) (pa_cons (pe_call Ge h2 rfl ge ke be .nil pass0 (pa_cons (pv 2) (pa_cons pe_int pa_nil))) pa_nil)) pa_nil)))
      (pss_cons (ps_mid <| ps_setLc (i := 4) (own := [("_law_edge", 16)]) (g := gName 16) (tt := tTest (tOp (rI0 fun i j => .bl (decide (j < i))) (tCall spTake [] L2.E0 (tCons (tVar 2) (tCons (tC (.int 3)) tNil))) (tC (.int 0)))) rfl scLaw.nd rfl rfl (sw_true rfl rfl rfl (by decide +kernel))
          (pi_list (pe_ix ix_list (pv 3) pe_int (fun _ _ => rfl))) (blkOk_by (N := NL) (sc := defScope lLaw) (by decide +kernel))
          (fun _ _ _ _ _ => pg_name (i := 16) scLaw.nd rfl (Or.inl rfl)) (fun _ _ _ _ _ => pts_one (pt_cmpR op_gt (pe_call Gt h1 (by rfl) gt kt bt .nil pass0 (pa_cons (pv 2) (pa_cons pe_int pa_nil))) pe_int (nomark _))) (fun _ _ _ _ _ => pv 16))
      (pss_cons (ps_mid <| ps_expr (pe_bm PySem.F.plainAttrs_list PySem.F.slot_list_append PySem.F.type_list_append mt_append (pv 3) (pa_cons (pe_callB (call_sortSet rfl hu : CallR _ _ (rSortSet w)) (by rfl) B.sorted (by decide +kernel) (pa_cons (pe_callTy (call_setO rfl hu : CallR _ _ (rSetOf K w)) (by rfl) B.set (by decide +kernel) (pa_cons (pe_op op_cat (pv 4) (pe_call Ge h2 rfl ge ke be .nil pass0 (pa_cons (pv 2) (pa_cons pe_int pa_nil)))) pa_nil)) pa_nil)) pa_nil)))
      (pss_cons (ps_mid <| ps_setLc (i := 5) (own := [("_law_edge", 16)]) (g := gName 16) (tt := tTest (tOp rEq (tCall spTake [] L2.E0 (tCons (tVar 2) (tCons (tC (.int 2)) tNil))) (tC (.int 0)))) rfl scLaw.nd rfl rfl (sw_true rfl rfl rfl (by decide +kernel))
          (pi_list (pe_op op_cat (pe_ix ix_list (pv 3) pe_int (fun _ _ => rfl)) (pe_ix ix_list (pv 3) pe_int (fun _ _ => rfl)))) (blkOk_by (N := NL) (sc := defScope lLaw) (by decide +kernel))
          (fun _ _ _ _ _ => pg_name (i := 16) scLaw.nd rfl (Or.inl rfl)) (fun _ _ _ _ _ => pts_one (pt_cmpR op_eq (pe_call Gt h1 (by rfl) gt kt bt .nil pass0 (pa_cons (pv 2) (pa_cons pe_int pa_nil))) pe_int (nomark _))) (fun _ _ _ _ _ => pv 16))
      (pss_cons (ps_mid <| ps_expr (pe_bm PySem.F.plainAttrs_list PySem.F.slot_list_append PySem.F.type_list_append mt_append (pv 3) (pa_cons (pe_callB (call_sortSet rfl hu : CallR _ _ (rSortSet w)) (by rfl) B.sorted (by decide +kernel) (pa_cons (pe_callTy (call_setO rfl hu : CallR _ _ (rSetOf K w)) (by rfl) B.set (by decide +kernel) (pa_cons (pv 5) pa_nil)) pa_nil)) pa_nil)))
      (pss_cons (ps_mid <| ps_setLc (i := 7) (own := [("_law_edges_here", 6)]) (g := gName 6) (tt := tYes) (te := tMake C (spInit P w C) [] L2.E0 (tCons (tVar 6) tNil)) rfl scLaw.nd rfl rfl (sw_true rfl rfl rfl (by decide +kernel))
          (pi_list (pv 3)) (blkOk_by (N := NL) (sc := defScope lLaw) (by decide +kernel))
          (fun _ _ _ _ _ => pg_name (i := 6) scLaw.nd rfl (Or.inl rfl)) (fun _ _ _ _ _ => pts_nil) (fun _ _ _ _ _ => pe_make M.M M.G h7 (by rfl) TC.m M.b .nil pass0 (pa_cons (pv 6) pa_nil)))
      (pss_cons (ps_asg (pe_tup (pa_cons (pe_ix ix_list (pv 3) pe_int (fun _ _ => rfl)) (pa_cons (pe_ix ix_list (pv 7) pe_int (fun _ _ => rfl)) pa_nil))) (pg_tup (by rfl) (pgs_cons (pg_name (i := 6) scLaw.nd rfl (Or.inr rfl)) (pgs_cons (pg_name (i := 8) scLaw.nd rfl (Or.inr rfl)) pgs_nil))))
      (pss_one (ps_for PassesOwn.never rfl (pi_range1 (by rfl) B.range (pa_cons pe_int pa_nil)) (pg_name (i := 9) scLaw.nd rfl (Or.inl rfl)) hti)))))))))))
    (pss_one (ps_ret pe_bl)), ?_⟩
  have hln : (ns.map V.int).length = ns.length := List.length_map _
  refine ⟨_, rfl, a, _, rfl, .inl hS, ?_⟩
  refine ⟨_, _, rfl, _, _, rfl, _, rfl, ?_⟩
  have hX : ∀ x : Int, 2 ≤ (if (if x < 8 then x else 8) > (2 : Int) then (if x < 8 then x else 8) else 2) ∧ (if (if x < 8 then x else 8) > (2 : Int) then (if x < 8 then x else 8) else 2) ≤ 8 := fun x => by
    split <;> split <;> omega
  generalize hg : (if (if ((List.map V.int ns).length : Int) < 8 then ((List.map V.int ns).length : Int) else 8) > (2 : Int) then (if ((List.map V.int ns).length : Int) < 8 then ((List.map V.int ns).length : Int) else 8) else 2) = X
  have hX := hX ((List.map V.int ns).length : Int)
  rw [hg] at hX
  refine ⟨by omega, by omega, ?_⟩
  have hN : X.toNat ≤ 8 := by omega
  refine for_range (lo := 0) (n := X.toNat) (fun i σ H' => ∃ v1 v2 v3 v4 v5 v6 v7 v8 v9 v10 v11 v12 v13 v14 v15 v16 v17 v18, σ = [some (V.ref a), v1, v2, v3, v4, v5, v6, v7, v8, v9, v10, v11, v12, v13, v14, v15, v16, v17, v18] ∧ OutS K T a ns H') ⟨_, _, _, _, _, _, _, _, _, _, _, _, _, _, _, _, _, _, rfl, hS, hT⟩ ?_ ?_
  · rintro kk σ H1 hkk ⟨v1, v2, v3, v4, v5, v6, v7, v8, v9, v10, v11, v12, v13, v14, v15, v16, v17, v18, rfl, O1⟩
    -- the box
    refine ⟨fun σ H' => ∃ l, σ = [some (V.ref a), some (.int (0 + (kk : Nat))), some (.ref l), v3, v4, v5, v6, v7, v8, v9, v10, v11, v12, v13, v14, v15, v16, v17, v18] ∧ Same H1 H' ∧ BoxAt H' l 0 ∧ H1 l = none, ?_, ?_⟩
    · refine ⟨_, rfl, _, rfl, a, ns, kk, by rw [Int.zero_add]; rfl, O1.s, by omega, fun x => ⟨x, rfl, fun l H' s b n => ⟨l, rfl, s, b, n⟩⟩⟩
    rintro σ Hb ⟨l, rfl, sb, hbx, hln⟩
    -- the first row
    refine ⟨fun σ H' => ∃ rw r0 L0, σ = [some (V.ref a), some (.int (0 + (kk : Nat))), some (.ref l), some (.ref rw), v4, v5, v6, v7, v8, v9, v10, v11, v12, v13, v14, v15, v16, v17, v18] ∧ RwS l rw Hb H' 60 [(r0, L0)] ∧ L0.length ≤ 50, ?_, ?_⟩
    · refine ⟨_, rfl, l, 0, 4, rfl, hbx, by omega, by omega, by omega, fun p L H2 b2 x2 hp el ss ok ln np npl => ?_⟩
      refine ⟨p, L, rfl, SqL.of hp, el, fun r0 M pm pw h0 => ⟨(by show 1 ≤ sizeLine; decide), fun rw hrw => ⟨rw, r0, M, rfl, ?_, ?_⟩⟩⟩
      · have s2 : Same H2 (upd H2 r0 (.lst (rf M))) := Same.at_ h0
        have s3 := s2.up (s2.free hrw) (o := .lst [.ref r0])
        have s23 : Same (upd H2 r0 (.lst (rf M))) (upd (upd H2 r0 (.lst (rf M))) rw (.lst [.ref r0])) := Same.at_ hrw
        have nl := (x2.same s2).ne hrw
        have nd : (eds M).Nodup := (pm.map _).nodup_iff.mpr ss.nodup
        refine ⟨b2.trans (But.of s3), (x2.same s3).mono (by omega), upd_same, nl, (b2.trans (But.of s2)).free nl hrw, fun q hq => ?_⟩
        obtain rfl := List.mem_singleton.mp hq
        exact ⟨s23 _ _ upd_same, x2.ne h0, ne_of_none (upd_same : upd H2 r0 (.lst (rf M)) r0 = _) hrw, s3.el fun q hq => el q (pm.mem_iff.mp hq), rising_of nd ltE_tri pw, fun e he => ok e ((pm.map _).mem_iff.mp he)⟩
      · rw [pm.length_eq]
        omega
    rintro σ H2 ⟨rw, r0, L0, rfl, R1, ln0⟩
    obtain ⟨g1, g2, g3, g4, g5, g6⟩ := R1.rows _ List.mem_cons_self
    -- near
    refine ⟨fun σ H' => ∃ nr N0, σ = [some (V.ref a), some (.int (0 + (kk : Nat))), some (.ref l), some (.ref rw), some (.ref nr), v5, v6, v7, v8, v9, v10, v11, v12, v13, v14, v15, v16, v17, v18] ∧ RwS l rw Hb H' 110 [(r0, L0)] ∧ H' nr = some (.lst (rf N0)) ∧ nr ≠ l ∧ (∀ q ∈ N0, q ∈ L0) ∧ N0.length ≤ 50, ?_, ?_⟩
    · refine ⟨_, rfl, rw, _, _, .ref r0, rfl, rfl, SqL.of R1.hr, (show atI [V.ref r0] ((0 : Nat) : Int) = some (.ref r0) from atI_nat rfl), r0, rfl, ⟨_, SqL.of g1⟩, fun D hD => ?_⟩
      have nDl := R1.box.ne hD
      refine lc_list (K := K) (a := r0) (xs := rf L0) (fun j H' => But l H2 H' ∧ BoxAt H' l (60 + j) ∧ ∃ N0, H' D = some (.lst (rf N0)) ∧ (∀ q ∈ N0, q ∈ L0) ∧ N0.length ≤ j) ⟨But.of (Same.at_ hD), R1.box.same (Same.at_ hD), [], upd_same, (fun _ z => nomatch z), Nat.le_refl _⟩ (fun j H' _ z => SqL.of (z.1 _ _ g2 g1)) ?_ ?_
      · rintro j v H' hv ⟨b3, x3, N0, hd, sub, lnN⟩
        have hj : j < L0.length := by
          rw [← rf_len L0]
          exact (List.getElem?_eq_some_iff.mp hv).1
        obtain ⟨q, hq, rfl⟩ := rf_get hv
        refine ⟨rfl, _, rfl, l, 60 + j, 3, rfl, x3, by omega, by omega, by omega, fun d H4 p1 p2 b4 x4 => ?_⟩
        have b5 := b3.trans b4
        refine ⟨_, _, rfl, rfl, _, rfl, ite2 (fun hc => ⟨_, rfl, _, b4 _ _ nDl hd, ?_, ?_⟩) (fun hc => ⟨b5, x4, N0, b4 _ _ nDl hd, sub, by omega⟩)⟩
        · rw [rf_len, sizeLine_eq]
          omega
        · exact near_up b5 x4 hD nDl (b4 _ _ nDl hd) sub lnN (List.mem_of_getElem? hq)
      · rintro H' ⟨b3, x3, N0, hd, sub, lnN⟩
        rw [rf_len] at lnN x3
        exact ⟨D, N0, rfl, R1.tr b3 (x3.mono (by omega)), hd, nDl, sub, by omega⟩
    rintro σ H3 ⟨nr, N0, rfl, R2, hnr, nrl, sub0, lnN⟩
    clear g1 g2 g3 g4 g5 g6
    obtain ⟨g1, g2, g3, g4, g5, g6⟩ := R2.rows _ List.mem_cons_self
    have elN : EL H3 N0 := fun q hq => g4 q (sub0 q hq)
    -- the second row
    refine ⟨fun σ H' => ∃ r1 L1 X2, σ = [some (V.ref a), some (.int (0 + (kk : Nat))), some (.ref l), some (.ref rw), some (.ref nr), v5, v6, v7, v8, v9, v10, v11, v12, v13, v14, v15, v16, v17, v18] ∧ RwS l rw Hb H' 170 [(r0, L0), (r1, L1)] ∧ (∀ e ∈ eds L1, e ∈ eds L0 ++ eds X2) ∧ X2.length ≤ 18, ?_, ?_⟩
    · refine ⟨_, rfl, .inl ⟨rfl, _, SqL.of R2.hr⟩, _, rfl, _, rfl, l, 110, 2, rfl, R2.box, by omega, by omega, by omega, fun p X2 H4 b4 x4 hp elX ssX okX lnX np npl => ?_⟩
      have R4 := R2.tr b4 (x4.mono (show 110 + 60 ≤ 170 by omega))
      have lnX : X2.length ≤ 18 := by omega
      refine ⟨_, _, _, _, rfl, rfl, b4 _ _ nrl hnr, hp, by rw [rf_len, rf_len, sizeLine_eq]; omega, fun q hq => ?_⟩
      have s1 : Same H4 (upd H4 q (.lst (rf N0 ++ rf X2))) := Same.at_ hq
      obtain ⟨xs, hl3⟩ := R2.box.lst
      have in0 : ∀ e ∈ eds N0, e ∈ eds L0 := fun e he => by
        obtain ⟨p, hp, rfl⟩ := List.mem_map.mp he
        exact List.mem_map_of_mem (sub0 p hp)
      refine row_add (K := K) (w := w) (Q := fun _ H' => ∃ r1 L1 X2, [some (V.ref a), some (.int (0 + (kk : Nat))), some (.ref l), some (.ref rw), some (.ref nr), v5, v6, v7, v8, v9, v10, v11, v12, v13, v14, v15, v16, v17, v18] = [some (V.ref a), some (.int (0 + (kk : Nat))), some (.ref l), some (.ref rw), some (.ref nr), v5, v6, v7, v8, v9, v10, v11, v12, v13, v14, v15, v16, v17, v18] ∧ RwS l rw Hb H' 170 [(r0, L0), (r1, L1)] ∧ (∀ e ∈ eds L1, e ∈ eds L0 ++ eds X2) ∧ X2.length ≤ 18) (N := N0 ++ X2) (R4.same s1) (by rw [← rf_both]; exact upd_same) (s1.el ((elN.tk (b4.tk hl3)).both elX)) (fun e he => ?_) (by rw [List.length_append]; omega) (show 1 ≤ 10 by decide) ?_
      · rw [eds_both] at he
        exact (List.mem_append.mp he).elim (fun h => g6 e (in0 e h)) (okX e)
      · intro r1 L1 H' R5 in1
        refine ⟨r1, L1, X2, rfl, R5, fun e he => ?_, lnX⟩
        have he := in1 e he
        rw [eds_both] at he
        exact List.mem_append.mpr ((List.mem_append.mp he).imp (in0 e) id)
    rintro σ H4 ⟨r1, L1, X2, rfl, R3, in1, lnX⟩
    clear g1 g2 g3 g4 g5 g6
    obtain ⟨g1, g2, g3, g4, g5, g6⟩ := R3.rows _ List.mem_cons_self
    obtain ⟨h1, h2', h3, h4, h5, h6⟩ := R3.rows (r1, L1) (List.mem_cons_of_mem _ List.mem_cons_self)
    have ln1 : L1.length ≤ 68 := by
      have z := SS.len h5 in1
      rw [List.length_append, List.length_map, List.length_map, List.length_map] at z
      exact Nat.le_trans z (by omega)
    -- some
    refine ⟨fun σ H' => ∃ sm N2, σ = [some (V.ref a), some (.int (0 + (kk : Nat))), some (.ref l), some (.ref rw), some (.ref nr), some (.ref sm), v6, v7, v8, v9, v10, v11, v12, v13, v14, v15, v16, v17, v18] ∧ RwS l rw Hb H' 500 [(r0, L0), (r1, L1)] ∧ H' sm = some (.lst (rf N2)) ∧ (∀ q ∈ N2, q ∈ L0 ++ L1) ∧ N2.length ≤ 118, ?_, ?_⟩
    · refine ⟨_, rfl, rw, _, _, .ref r0, rfl, rfl, SqL.of R3.hr, (show atI [V.ref r0, V.ref r1] ((0 : Nat) : Int) = some (.ref r0) from atI_nat rfl), _, rfl, rw, _, _, .ref r1, rfl, rfl, SqL.of R3.hr, (show atI [V.ref r0, V.ref r1] ((1 : Nat) : Int) = some (.ref r1) from atI_nat rfl), _, _, _, _, rfl, rfl, g1, h1, (by rw [rf_len, rf_len, sizeLine_eq]; show L0.length + L1.length ≤ _; omega), fun p hp => ?_⟩
      have s1 : Same H4 (upd H4 p (.lst (rf L0 ++ rf L1))) := Same.at_ hp
      have hp1 : upd H4 p (.lst (rf L0 ++ rf L1)) p = some (.lst (rf (L0 ++ L1))) := by rw [← rf_both]; exact upd_same
      have R4 := R3.same s1
      have npl := R3.box.ne hp
      generalize upd H4 p (.lst (rf L0 ++ rf L1)) = H5 at s1 hp1 R4 ⊢
      refine ⟨p, rfl, ⟨_, SqL.of hp1⟩, fun D hD => ?_⟩
      have nDl := R4.box.ne hD
      refine lc_list (K := K) (a := p) (xs := rf (L0 ++ L1)) (fun j H' => But l H5 H' ∧ BoxAt H' l (170 + j) ∧ ∃ N0, H' D = some (.lst (rf N0)) ∧ (∀ q ∈ N0, q ∈ L0 ++ L1) ∧ N0.length ≤ j) ⟨But.of (Same.at_ hD), R4.box.same (Same.at_ hD), [], upd_same, (fun _ z => nomatch z), Nat.le_refl _⟩ (fun j H' _ z => SqL.of (z.1 _ _ npl hp1)) ?_ ?_
      · rintro j v H' hv ⟨b3, x3, N0, hd, sub, lnN⟩
        have hj : j < L0.length + L1.length := by
          rw [← List.length_append, ← rf_len (L0 ++ L1)]
          exact (List.getElem?_eq_some_iff.mp hv).1
        obtain ⟨q, hq, rfl⟩ := rf_get hv
        refine ⟨rfl, _, rfl, l, 170 + j, 2, rfl, x3, by omega, by omega, by omega, fun d H4 p1 p2 b4 x4 => ?_⟩
        have b5 := b3.trans b4
        refine ⟨rfl, _, rfl, ite2 (fun hc => ⟨_, rfl, _, b4 _ _ nDl hd, ?_, ?_⟩) (fun hc => ⟨b5, x4, N0, b4 _ _ nDl hd, sub, by omega⟩)⟩
        · rw [rf_len, sizeLine_eq]
          omega
        · exact near_up b5 x4 hD nDl (b4 _ _ nDl hd) sub lnN (List.mem_of_getElem? hq)
      · rintro H' ⟨b3, x3, N0, hd, sub, lnN⟩
        rw [rf_len, List.length_append] at lnN x3
        exact ⟨D, N0, rfl, R4.tr b3 (x3.mono (by omega)), hd, sub, by omega⟩
    rintro σ H5 ⟨sm, N2, rfl, R4, hsm, sub2, lnS⟩
    clear g1 g2 g3 g4 g5 g6 h1 h2' h3 h4 h5 h6
    obtain ⟨g1, g2, g3, g4, g5, g6⟩ := R4.rows _ List.mem_cons_self
    obtain ⟨h1, h2', h3, h4, h5, h6⟩ := R4.rows (r1, L1) (List.mem_cons_of_mem _ List.mem_cons_self)
    -- the third row
    refine ⟨fun σ H' => ∃ r2 L2, σ = [some (V.ref a), some (.int (0 + (kk : Nat))), some (.ref l), some (.ref rw), some (.ref nr), some (.ref sm), v6, v7, v8, v9, v10, v11, v12, v13, v14, v15, v16, v17, v18] ∧ RwS l rw Hb H' 500 [(r0, L0), (r1, L1), (r2, L2)] ∧ (∀ e ∈ eds L2, e ∈ eds L0 ++ eds X2), ?_, ?_⟩
    · refine ⟨_, rfl, .inl ⟨rfl, _, SqL.of R4.hr⟩, _, rfl, ?_⟩
      have in2 : ∀ e ∈ eds N2, e ∈ eds L0 ∨ e ∈ eds L1 := fun e he => by
        obtain ⟨p, hp, rfl⟩ := List.mem_map.mp he
        exact (List.mem_append.mp (sub2 p hp)).imp (fun h => List.mem_map_of_mem h) fun h => List.mem_map_of_mem h
      refine row_add (K := K) (w := w) (Q := fun _ H' => ∃ r2 L2, [some (V.ref a), some (.int (0 + (kk : Nat))), some (.ref l), some (.ref rw), some (.ref nr), some (.ref sm), v6, v7, v8, v9, v10, v11, v12, v13, v14, v15, v16, v17, v18] = [some (V.ref a), some (.int (0 + (kk : Nat))), some (.ref l), some (.ref rw), some (.ref nr), some (.ref sm), v6, v7, v8, v9, v10, v11, v12, v13, v14, v15, v16, v17, v18] ∧ RwS l rw Hb H' 500 [(r0, L0), (r1, L1), (r2, L2)] ∧ (∀ e ∈ eds L2, e ∈ eds L0 ++ eds X2)) (N := N2) R4 hsm (fun q hq => (g4.both h4) q (sub2 q hq)) (fun e he => (in2 e he).elim (g6 e) (h6 e)) (by omega) (show 2 ≤ 10 by decide) ?_
      intro r2 L2 H' R5 inn2
      exact ⟨r2, L2, rfl, R5, fun e he => (in2 e (inn2 e he)).elim (fun h => List.mem_append_left _ h) (in1 e)⟩
    rintro σ H6 ⟨r2, L2, rfl, R5, in2⟩
    clear g1 g2 g3 g4 g5 g6 h1 h2' h3 h4 h5 h6
    -- the figures
    refine ⟨fun σ H' => ∃ fg z0 z1 z2, σ = [some (V.ref a), some (.int (0 + (kk : Nat))), some (.ref l), some (.ref rw), some (.ref nr), some (.ref sm), v6, some (.ref fg), v8, v9, v10, v11, v12, v13, v14, v15, v16, v17, v18] ∧ RwS l rw Hb H' 500 [(r0, L0), (r1, L1), (r2, L2)] ∧ H' fg = some (.lst [.ref z0, .ref z1, .ref z2]) ∧ fg ≠ l ∧ FigAt P w C H' z0 (eds L0) ∧ FigAt P w C H' z1 (eds L1) ∧ FigAt P w C H' z2 (eds L2), ?_, ?_⟩
    · refine ⟨_, rfl, rw, rfl, ⟨_, SqL.of R5.hr⟩, fun D hD => ?_⟩
      have nDl := R5.box.ne hD
      refine lc_list (K := K) (a := rw) (xs := [.ref r0, .ref r1, .ref r2]) (fun j H' => Same H6 H' ∧ ∃ zs : List Addr, zs.length = j ∧ H' D = some (.lst (zs.map V.ref)) ∧ ∀ (i : Nat) (z : Addr) (p : Addr × List (Addr × Ed)), zs[i]? = some z → [(r0, L0), (r1, L1), (r2, L2)][i]? = some p → FigAt P w C H' z (eds p.2)) ⟨Same.at_ hD, [], rfl, upd_same, fun i z p e => nomatch e⟩ (fun j H' _ z => SqL.of (z.1 _ _ R5.hr)) ?_ ?_
      · rintro j v H' hv ⟨s1, zs, lz, hd, hf⟩
        obtain ⟨p, hp, rfl⟩ : ∃ p : Addr × List (Addr × Ed), [(r0, L0), (r1, L1), (r2, L2)][j]? = some p ∧ v = .ref p.1 := by
          have e : ([.ref r0, .ref r1, .ref r2] : List V) = [(r0, L0), (r1, L1), (r2, L2)].map fun p => V.ref p.1 := rfl
          rw [e, List.getElem?_map] at hv
          cases q : [(r0, L0), (r1, L1), (r2, L2)][j]? with
          | none => rw [q] at hv; cases hv
          | some p => rw [q] at hv; exact ⟨p, rfl, (Option.some.inj hv).symm⟩
        have hj : j < 3 := (List.getElem?_eq_some_iff.mp hp).1
        have pm := List.mem_of_getElem? hp
        obtain ⟨g1, g2, g3, g4, g5, g6⟩ := R5.rows p pm
        have lp : (eds p.2).length ≤ 68 := by
          refine Nat.le_trans (SS.len g5 (b := eds L0 ++ eds X2) ?_) (by rw [List.length_append, List.length_map, List.length_map]; omega)
          rcases List.mem_cons.mp pm with rfl | pm
          · exact fun e he => List.mem_append_left _ he
          rcases List.mem_cons.mp pm with rfl | pm
          · exact in1
          · rw [List.mem_singleton.mp pm]
            exact in2
        have lp2 : p.2.length ≤ 68 := by rw [List.length_map] at lp; exact lp
        refine ⟨rfl, ?_⟩
        refine ⟨_, rfl, mk_readZ (L := p.2) (es := eds p.2) (s1 _ _ g1) (s1.el g4) g6 (by omega) g5 (fun f => Iff.rfl) (by omega) fun z H4 s4 fz => ⟨_, s4 _ _ hd, ?_, (s1.trans s4).up hD, zs ++ [z], ?_, ?_, ?_⟩⟩
        · rw [List.length_map, lz, sizeLine_eq]
          omega
        · rw [List.length_append, lz]
          rfl
        · rw [upd_same, List.map_append]
          rfl
        · intro i z' p' hz' hp'
          refine fig_up ?_ (s4 _ _ hd)
          by_cases hi : i < zs.length
          · rw [List.getElem?_append_left hi] at hz'
            exact (hf i z' p' hz' hp').same s4
          · rw [List.getElem?_append_right (by omega)] at hz'
            have h0 : i - zs.length = 0 := by
              cases q : i - zs.length with
              | zero => rfl
              | succ m => rw [q] at hz'; cases hz'
            have hij : i = j := by omega
            rw [h0] at hz'
            subst hij
            rw [hp] at hp'
            cases Option.some.inj hp'
            cases Option.some.inj hz'
            exact fz
      · rintro H' ⟨s1, zs, lz, hd, hf⟩
        match zs, lz, hd, hf with
        | [z0, z1, z2], _, hd, hf => exact ⟨D, z0, z1, z2, rfl, R5.same s1, hd, nDl, hf 0 z0 (r0, L0) rfl rfl, hf 1 z1 (r1, L1) rfl rfl, hf 2 z2 (r2, L2) rfl rfl⟩
    rintro σ H7 ⟨fg, z0, z1, z2, rfl, R6, hfg, nfg, f0, f1, f2⟩
    obtain ⟨g1, g2, g3, g4, g5, g6⟩ := R6.rows _ List.mem_cons_self
    -- the first row and its figure
    refine ⟨_, rfl, rw, _, _, .ref r0, rfl, rfl, SqL.of R6.hr, (show atI [V.ref r0, V.ref r1, V.ref r2] ((0 : Nat) : Int) = some (.ref r0) from atI_nat rfl), _, rfl, fg, _, _, .ref z0, rfl, rfl, SqL.of hfg, (show atI [V.ref z0, V.ref z1, V.ref z2] ((0 : Nat) : Int) = some (.ref z0) from atI_nat rfl), (by show 2 ≤ sizeLine; decide), fun tp htp => ⟨tp, _, rfl, SqT.of upd_same, rfl, .ref r0, _, rfl, .ref z0, _, rfl, rfl, 8, rfl, by decide, by decide, ?_⟩⟩
    have s8 : Same H7 (upd H7 tp (.tup [.ref r0, .ref z0])) := Same.at_ htp
    generalize upd H7 tp (.tup [.ref r0, .ref z0]) = H8 at s8 ⊢
    have R7 := R6.same s8
    obtain ⟨xb, hlb⟩ := hbx.lst
    have t8 : LamX.Tabs T H8 := But.tabs (O1.t.ext sb) R7.bt hlb
    have hU : (eds L0 ++ eds X2).length ≤ 68 := by rw [List.length_append, List.length_map, List.length_map]; omega
    refine for_range (lo := 0) (n := 8) (fun t σ H' => ∃ e g es v4 v5 v9 v10 v11 v12 v13 v14 v15 v16 v17 v18, σ = Sg a (.int (0 + (kk : Nat))) l rw v4 v5 e fg g v9 v10 v11 v12 v13 v14 v15 v16 v17 v18 ∧ InnS P w C T l rw fg Hb (eds L0 ++ eds X2) (fun i => match i with | 0 => eds L0 | 1 => eds L1 | _ => eds L2) t (1000 + 2 * t) e g es H') ⟨r0, z0, eds L0, _, _, _, _, _, _, _, _, _, _, _, _, rfl, ?_⟩ ?_ ?_
    · obtain ⟨h1, h2', h3, h4, h5, h6⟩ := R7.rows (r1, L1) (List.mem_cons_of_mem _ List.mem_cons_self)
      obtain ⟨k1, k2, k3, k4, k5, k6⟩ := R7.rows (r2, L2) (List.mem_cons_of_mem _ (List.mem_cons_of_mem _ List.mem_cons_self))
      refine ⟨Kp.but R7.bt, R7.box.mono (by omega), t8, ⟨fun i => match i with | 0 => r0 | 1 => r1 | _ => r2, fun i => match i with | 0 => z0 | 1 => z1 | _ => z2, R7.hr, R7.nrw, s8 _ _ hfg, nfg, fun i hi => ?_⟩, ⟨L0, s8 _ _ g1, g2, s8.el g4, rfl⟩, f0.same s8, Few.start fun e he => List.mem_append_left _ he⟩
      rcases i with _ | _ | i
      · exact ⟨⟨L0, s8 _ _ g1, g2, s8.el g4, rfl⟩, f0.same s8⟩
      · exact ⟨⟨L1, h1, h2', h4, rfl⟩, f1.same s8⟩
      · exact ⟨⟨L2, k1, k2, k4, rfl⟩, f2.same s8⟩
    · rintro t σ H9 ht ⟨e, g, es, w4, w5, w9, w10, w11, w12, w13, w14, w15, w16, w17, w18, rfl, I0⟩
      refine inn _ a l rw fg (.int (0 + (kk : Nat))) Hb (eds L0 ++ eds X2) (fun i => match i with | 0 => eds L0 | 1 => eds L1 | _ => eds L2) t (1000 + 2 * t) _ _ hU (fun i hi => ?_) ht (by omega) ⟨e, g, es, w4, w5, _, w10, w11, w12, w13, w14, w15, w16, w17, w18, rfl, I0⟩ ?_
      · rcases i with _ | _ | i
        · exact fun e he => List.mem_append_left _ he
        · exact in1
        · exact in2
      · rintro σ' H' ⟨e, g, es, v4, v5, v9, v10, v11, v12, v13, v14, v15, v16, v17, v18, rfl, I1⟩
        exact ⟨e, g, es, _, _, _, _, _, _, _, _, _, _, _, _, rfl, I1⟩
    · rintro σ H9 ⟨e, g, es, w4, w5, w9, w10, w11, w12, w13, w14, w15, w16, w17, w18, rfl, I0⟩
      exact ⟨_, _, _, _, _, _, _, _, _, _, _, _, _, _, _, _, _, _, rfl, script_kp O1.s sb hln I0.kp, I0.tabs⟩
  · rintro σ H1 ⟨v1, v2, v3, v4, v5, v6, v7, v8, v9, v10, v11, v12, v13, v14, v15, v16, v17, v18, rfl, O1⟩
    exact k H1
end
end NC
namespace NC
open PySem PySem.Spec PyProof.Rows L2
section
variable {P : Program} {w : World} {K : PySem.W.Frag} {mg : Str → Option Value} {base : Heap} {C : Addr} {T : List (Addr × Str)}
theorem ok_law {f : Addr} {fd : FuncData} (D : Dn K mg "law" lLaw ["_law_script"] f fd) (LE : LawEnv P w K mg base C T) : FnOk P w K mg base L2.CX0 11 f fd ["_law_script"] (spLaw K T) := by
  refine D.F.ok scLaw (fun vs H Q E h => ?_) (fun cdv A outer s H vs Q E hr h => law_ok LE hr h)
  obtain ⟨a, ns, rfl, _⟩ := h
  rfl
end
end NC
/-! What the top leaves: the facts, and the law's promise from them. Printed by gen_nchead.py. -/
namespace NC
open PySem PySem.Spec PyProof.Rows L2
abbrev dG (x : Str) (st : Stmt) : He.DefD := ⟨(x, none), x, x, defArgs st, defBody st, defScope st, [], []⟩
abbrev dM (m qual : Str) (st : Stmt) : He.DefD := ⟨("Figure", some m), m, qual, defArgs st, defBody st, defScope st, [], []⟩
abbrev dInit : He.DefD := ⟨("Figure", some "__init__"), "__init__", "Figure.__init__", defArgs tInit, defBody tInit, defScope tInit, [.adr (He.dflAt ("Figure", some "__init__") 0)], []⟩
def allD : List He.DefD := dInit :: [dG "is_integer" tInteger, dG "is_pair" tPair, dG "is_point" tPoint, dG "are_neighbors" tNeigh, dG "is_edge" tEdge, dG "moved" tMoved, dG "check_edges" tCheckE, dG "directions_at" tDirs, dG "joined" tJoined, dG "check_figure" tCheckF, dG "_law_cell_at" lCell, dG "_law_box" lBox, dG "_law_take" lTake, dG "_law_edges" lEdges, dG "_law_dirs" lDirs, dG "_law_points" lPoints, dG "_law_turned" lTurned, dG "_law_put" lPut, dG "_law_made" lMade, dG "law" lLaw, dM "__len__" "Figure.__len__" tLen, dM "__eq__" "Figure.__eq__" tEq, dM "__contains__" "Figure.__contains__" tIn, dM "__or__" "Figure.__or__" tOr, dM "__and__" "Figure.__and__" tAnd, dM "__sub__" "Figure.__sub__" tSub, dM "__xor__" "Figure.__xor__" tXor, dM "points" "Figure.points" tPts, dM "odd_points" "Figure.odd_points" tOdd, dM "changed" "Figure.changed" tChg, dM "shifted" "Figure.shifted" tShift, dM "turned" "Figure.turned" tTurn, dM "mirrored" "Figure.mirrored" tMirr]
def faA : List He.Fa := [.int "GREATEST" 30, .int "MOST_EDGES" 400, .str "DIRECTIONS" "ruld", .cls "Figure", .mkr "Figure", .noat "Figure" "edges", .noat "Figure" "held", .noat "Figure" "around", .glo "Figure", .glo "STEPS", .glo "is_integer", .glo "is_pair", .glo "is_point", .glo "are_neighbors", .glo "is_edge", .glo "moved", .glo "check_edges", .glo "directions_at", .glo "joined", .glo "check_figure", .glo "_law_cell_at", .glo "_law_box", .glo "_law_take", .glo "_law_edges", .glo "_law_dirs", .glo "_law_points", .glo "_law_turned", .glo "_law_put", .glo "_law_made", .glo "law", .free "isinstance", .free "int", .free "bool", .free "tuple", .free "list", .free "len", .free "abs", .free "sorted", .free "set", .free "max", .free "min", .free "range", .meth "Figure" "__len__", .meth "Figure" "__eq__", .meth "Figure" "__contains__", .meth "Figure" "__or__", .meth "Figure" "__and__", .meth "Figure" "__sub__", .meth "Figure" "__xor__", .meth "Figure" "points", .meth "Figure" "odd_points", .meth "Figure" "changed", .meth "Figure" "shifted", .meth "Figure" "turned", .meth "Figure" "mirrored"]
def tsA : List He.Tab := [(fun K => He.ga K "STEPS", ["r", "u", "l", "d"])]
abbrev pT : He.Defn := ("Figure", some "turned")
abbrev pM : He.Defn := ("Figure", some "mirrored")
abbrev pS : He.Defn := ("Figure", some "shifted")
def tfA : List He.Defn := [pT, pM, pS]
def stepB (K : PySem.W.Frag) (x : Str) (i j : Int) : Bool := match PySem.W.nsIn K (He.ga K "STEPS") x with
  | some (some (.ref t)) => (match K.lookup t with
    | some ⟨.type c, _, .seq its _, _⟩ => decide (c = "tuple") && (decide (its.size ≤ sizeLine) && He.relAll [.int i, .int j] its.toList)
    | _ => false)
  | _ => false
abbrev FgA (K : PySem.W.Frag) : Value := .ref (He.ga K "Figure")
abbrev eqB (a b : Option Bool) : Bool := decide (a = b)
def exL (K : PySem.W.Frag) : List Bool :=
  [He.eqO (PySem.W.findIn K (FgA K) "__class__") (some (some (.builtin "object.__class__"))),
   He.eqO (PySem.W.specialIn K (.builtin "object.__class__") "__get__") (some (some (.builtin "getset_descriptor.__get__"))),
   eqB (PySem.W.takesIn K (.builtin "object.__class__")) (some true),
   eqB (PySem.W.mroIn K (He.ga K "Figure") (.type "object")) (some true),
   eqB (PySem.W.kitOne K (FgA K) (FgA K)) (some true),
   eqB (PySem.W.subIn K (FgA K) (.type "object")) (some true),
   He.eqO (PySem.W.findIn K (FgA K) "__ne__") (some (some (.builtin "object.__ne__"))),
   PySem.W.selfFirst K (He.ga K "Figure"),
   stepB K "r" 1 0, stepB K "u" 0 1, stepB K "l" (-1) 0, stepB K "d" 0 (-1),
   !((He.cT K pT).2 == (He.cT K pM).2), !((He.cT K pT).2 == (He.cT K pS).2), !((He.cT K pM).2 == (He.cT K pS).2)]
def exA (K : PySem.W.Frag) : Bool := (exL K).all id
section
variable {w : World} {h : Heap} {K : PySem.W.Frag} {mg : Str → Option Value} {tf : List He.Defn}
theorem ex_at (c : exA K = true) (i : Nat) {b : Bool} (h : (exL K)[i]? = some b) : b = true := List.all_eq_true.mp c b (List.mem_of_getElem? h)
theorem fun_of {x q : Str} {st : Stmt} {f : Addr} {fd : FuncData} (D : FunD K x q (defArgs st) (defBody st) (defScope st) [] [] f fd) : Fun K x q st f fd := by
  obtain ⟨⟨oc, od, dV, kV, doc, pm, an, cdv, ct, osl, e, lk, hc, hd, _⟩, kp⟩ := D
  rcases hd with ⟨_, hd⟩ | ⟨hd, _⟩
  · subst hd
    exact ⟨⟨oc, od, kV, doc, pm, an, cdv, ct, osl, e, lk, hc⟩, kp⟩
  · exact absurd rfl hd
abbrev BindB (x q : Str) (st : Stmt) (ps : List Str) : Prop := ∀ (kV doc pm : Value) (an : Option Addr) (cdv ct : Value) (us : List Value), us.length = ps.length → bindArgs (PySem.W.fnOf x q (defArgs st) (defBody st) (defScope st) Value.none kV doc pm an cdv ct) ⟨us, []⟩ = pure (ps.zip us)
theorem dn_mk (c : He.SaysD faA allD K) (X : K.In h) (G : h.Ns mainGlobals mg) {x : Str} {st : Stmt} {ps : List Str} (i j : Nat) (hi : allD[i]? = some (dG x st)) (hj : faA[j]? = some (.glo x)) (hb : BindB x x st ps) : ∃ fd, Dn K mg x st ps (He.ga K x) fd := by
  obtain ⟨fd, D⟩ := c.def_ i (d := dG x st) hi
  have F : Fun K x x st (He.ga K x) fd := fun_of D
  exact ⟨fd, F, He.glo_ok X G (c.fact j (f := .glo x) hj), F.binds hb⟩
theorem md_mk (c : He.SaysD faA allD K) {m q : Str} {st : Stmt} {ps : List Str} (i j : Nat) (hi : allD[i]? = some (dM m q st)) (hj : faA[j]? = some (.meth "Figure" m)) (hb : BindB m q st ps) : ∃ fd, Md K (He.ga K "Figure") m q st ps (He.ma K (He.ga K "Figure") m) fd := by
  obtain ⟨fd, D⟩ := c.def_ i (d := dM m q st) hi
  have F : Fun K m q st (He.ma K (He.ga K "Figure") m) fd := fun_of D
  exact ⟨fd, F, F.binds hb, He.meth_ok (c.fact j (f := .meth "Figure" m) hj)⟩
theorem mdl_mk {m q : Str} {st : Stmt} {ps : List Str} {fd : FuncData} (D : Md K (He.ga K "Figure") m q st ps (He.ma K (He.ga K "Figure") m) fd) : MdL K (He.ga K "Figure") m q st ps (He.cT K ("Figure", some m)).1 (He.ma K (He.ga K "Figure") m) fd := by
  obtain ⟨⟨oc, od, kV, doc, pm, an, cdv, ct, osl, e, lk, hc⟩, kp⟩ := D.F
  obtain ⟨c0, rfl⟩ := He.codeIn_ref hc
  have e2 : (He.cT K ("Figure", some m)).1 = c0 := He.codeOf_eq (p := ("Figure", some m)) lk (by rw [e] <;> rfl)
  rw [e2]
  exact ⟨⟨oc, od, kV, doc, pm, an, ct, osl, e, lk, hc⟩, D.b, D.mt⟩
theorem stepB_ok {x : Str} {i j : Int} (c : stepB K x i j = true) {es : Array DictEntry} {n : Nat} (kd : KDict K w (He.ga K "STEPS") es n) : ∃ t, KDct K w (He.ga K "STEPS") x (.ref t) ∧ ∀ H, SqT K H t [.int i, .int j] := by
  unfold stepB at c
  cases e : PySem.W.nsIn K (He.ga K "STEPS") x with
  | none => rw [e] at c; cases c
  | some r =>
    rw [e] at c
    cases r with
    | none => cases c
    | some u =>
      cases u with
      | ref t =>
        have c1 : (match K.lookup t with
          | some ⟨.type c, _, .seq its _, _⟩ => decide (c = "tuple") && (decide (its.size ≤ sizeLine) && He.relAll [.int i, .int j] its.toList)
          | _ => false) = true := c
        cases q : K.lookup t with
        | none => rw [q] at c1; cases c1
        | some o =>
          obtain ⟨oc, od, dt, osl⟩ := o
          rw [q] at c1
          cases oc with
          | type c2 =>
            cases dt with
            | seq its m =>
              obtain ⟨h1, h2⟩ := He.ba (show (decide (c2 = "tuple") && (decide (its.size ≤ sizeLine) && He.relAll [.int i, .int j] its.toList)) = true from c1)
              obtain ⟨h3, h4⟩ := He.ba h2
              exact ⟨t, ⟨es, n, .ref t, kd.at_, kd.lit, e, rfl⟩, fun H => .inr ⟨_, its, m, q, congrArg Value.type (of_decide_eq_true h1), rfl, of_decide_eq_true h3, He.relAll_ok h4⟩⟩
            | _ => cases c1
          | _ => cases dt <;> cases c1
      | _ => cases c
structure Tops (K : PySem.W.Frag) (mg : Str → Option Value) (w : World) : Prop where
  B : Bt mg
  S : Steps K w mg
  C : CFig K mg (He.ga K "Figure")
  M : L2.Mk K (He.ga K "Figure") (He.ma K (He.ga K "Figure") "__init__")
  d0 : ∃ fd, Dn K mg "is_integer" tInteger ["value"] (He.ga K "is_integer") fd
  d1 : ∃ fd, Dn K mg "is_pair" tPair ["value", "greatest"] (He.ga K "is_pair") fd
  d2 : ∃ fd, Dn K mg "is_point" tPoint ["value"] (He.ga K "is_point") fd
  d3 : ∃ fd, Dn K mg "are_neighbors" tNeigh ["point", "other"] (He.ga K "are_neighbors") fd
  d4 : ∃ fd, Dn K mg "is_edge" tEdge ["value"] (He.ga K "is_edge") fd
  d5 : ∃ fd, Dn K mg "moved" tMoved ["point", "direction"] (He.ga K "moved") fd
  d6 : ∃ fd, Dn K mg "check_edges" tCheckE ["edges"] (He.ga K "check_edges") fd
  d7 : ∃ fd, Dn K mg "directions_at" tDirs ["point", "held"] (He.ga K "directions_at") fd
  d8 : ∃ fd, Dn K mg "joined" tJoined ["one", "other"] (He.ga K "joined") fd
  d9 : ∃ fd, Dn K mg "check_figure" tCheckF ["value"] (He.ga K "check_figure") fd
  d10 : ∃ fd, Dn K mg "_law_cell_at" lCell ["_law_script", "_law_k"] (He.ga K "_law_cell_at") fd
  d11 : ∃ fd, Dn K mg "_law_box" lBox ["_law_number"] (He.ga K "_law_box") fd
  d12 : ∃ fd, Dn K mg "_law_take" lTake ["_law_box_here", "_law_many"] (He.ga K "_law_take") fd
  d13 : ∃ fd, Dn K mg "_law_edges" lEdges ["_law_box_here", "_law_most"] (He.ga K "_law_edges") fd
  d14 : ∃ fd, Dn K mg "_law_dirs" lDirs ["_law_edges_here", "_law_point"] (He.ga K "_law_dirs") fd
  d15 : ∃ fd, Dn K mg "_law_points" lPoints ["_law_edges_here"] (He.ga K "_law_points") fd
  d16 : ∃ fd, Dn K mg "_law_turned" lTurned ["_law_edges_here", "_law_kind"] (He.ga K "_law_turned") fd
  d17 : ∃ fd, Dn K mg "_law_put" lPut ["_law_kind", "_law_one", "_law_other"] (He.ga K "_law_put") fd
  d18 : ∃ fd, Dn K mg "_law_made" lMade ["_law_kind", "_law_one", "_law_other"] (He.ga K "_law_made") fd
  d19 : ∃ fd, Dn K mg "law" lLaw ["_law_script"] (He.ga K "law") fd
  m0 : ∃ fd, Md K (He.ga K "Figure") "__len__" "Figure.__len__" tLen ["self"] (He.ma K (He.ga K "Figure") "__len__") fd
  m1 : ∃ fd, Md K (He.ga K "Figure") "__eq__" "Figure.__eq__" tEq ["self", "other"] (He.ma K (He.ga K "Figure") "__eq__") fd
  m2 : ∃ fd, Md K (He.ga K "Figure") "__contains__" "Figure.__contains__" tIn ["self", "edge"] (He.ma K (He.ga K "Figure") "__contains__") fd
  m3 : ∃ fd, Md K (He.ga K "Figure") "__or__" "Figure.__or__" tOr ["self", "other"] (He.ma K (He.ga K "Figure") "__or__") fd
  m4 : ∃ fd, Md K (He.ga K "Figure") "__and__" "Figure.__and__" tAnd ["self", "other"] (He.ma K (He.ga K "Figure") "__and__") fd
  m5 : ∃ fd, Md K (He.ga K "Figure") "__sub__" "Figure.__sub__" tSub ["self", "other"] (He.ma K (He.ga K "Figure") "__sub__") fd
  m6 : ∃ fd, Md K (He.ga K "Figure") "__xor__" "Figure.__xor__" tXor ["self", "other"] (He.ma K (He.ga K "Figure") "__xor__") fd
  m7 : ∃ fd, Md K (He.ga K "Figure") "points" "Figure.points" tPts ["self"] (He.ma K (He.ga K "Figure") "points") fd
  m8 : ∃ fd, Md K (He.ga K "Figure") "odd_points" "Figure.odd_points" tOdd ["self"] (He.ma K (He.ga K "Figure") "odd_points") fd
  m9 : ∃ fd, Md K (He.ga K "Figure") "changed" "Figure.changed" tChg ["self", "change"] (He.ma K (He.ga K "Figure") "changed") fd
  m10 : ∃ fd, Md K (He.ga K "Figure") "shifted" "Figure.shifted" tShift ["self", "dx", "dy"] (He.ma K (He.ga K "Figure") "shifted") fd
  m11 : ∃ fd, Md K (He.ga K "Figure") "turned" "Figure.turned" tTurn ["self"] (He.ma K (He.ga K "Figure") "turned") fd
  m12 : ∃ fd, Md K (He.ga K "Figure") "mirrored" "Figure.mirrored" tMirr ["self"] (He.ma K (He.ga K "Figure") "mirrored") fd
  i : ∃ fd, FInit K (He.ma K (He.ga K "Figure") "__init__") fd ∧ Binds K fd ["self", "edges"] []
theorem tops (T : He.SaysX faA allD tsA tf exA w h K) (X : K.In h) (G : h.Ns mainGlobals mg) : Tops K mg w where
  B := ⟨He.free_ok X G (T.t.d.fact 30 (f := .free "isinstance") rfl), He.free_ok X G (T.t.d.fact 31 (f := .free "int") rfl), He.free_ok X G (T.t.d.fact 32 (f := .free "bool") rfl), He.free_ok X G (T.t.d.fact 33 (f := .free "tuple") rfl), He.free_ok X G (T.t.d.fact 34 (f := .free "list") rfl), He.free_ok X G (T.t.d.fact 35 (f := .free "len") rfl), He.free_ok X G (T.t.d.fact 36 (f := .free "abs") rfl), He.free_ok X G (T.t.d.fact 37 (f := .free "sorted") rfl), He.free_ok X G (T.t.d.fact 38 (f := .free "set") rfl), He.free_ok X G (T.t.d.fact 39 (f := .free "max") rfl), He.free_ok X G (T.t.d.fact 40 (f := .free "min") rfl), He.free_ok X G (T.t.d.fact 41 (f := .free "range") rfl),
    He.int_ok X G (T.t.d.fact 0 (f := .int "GREATEST" 30) rfl), He.int_ok X G (T.t.d.fact 1 (f := .int "MOST_EDGES" 400) rfl), He.str_ok X G (T.t.d.fact 2 (f := .str "DIRECTIONS" "ruld") rfl)⟩
  S := by
    refine ⟨He.ga K "STEPS", He.glo_ok X G (T.t.d.fact 9 (f := .glo "STEPS") rfl), fun i hi => ?_⟩
    obtain ⟨es, n, kd⟩ := T.t.tab 0 (t := (fun K => He.ga K "STEPS", ["r", "u", "l", "d"])) rfl
    rcases i with _ | _ | _ | _ | i
    · exact stepB_ok (ex_at T.more 8 rfl) kd
    · exact stepB_ok (ex_at T.more 9 rfl) kd
    · exact stepB_ok (ex_at T.more 10 rfl) kd
    · exact stepB_ok (ex_at T.more 11 rfl) kd
    · omega
  C := ⟨⟨He.cls_ok (T.t.d.fact 3 (f := .cls "Figure") rfl), He.eqO_ok (ex_at T.more 0 rfl), He.eqO_ok (ex_at T.more 1 rfl), of_decide_eq_true (ex_at T.more 2 rfl), of_decide_eq_true (ex_at T.more 3 rfl), of_decide_eq_true (ex_at T.more 4 rfl)⟩,
    He.glo_ok X G (T.t.d.fact 8 (f := .glo "Figure") rfl), He.noat_ok (T.t.d.fact 5 (f := .noat "Figure" "edges") rfl), He.noat_ok (T.t.d.fact 6 (f := .noat "Figure" "held") rfl), He.noat_ok (T.t.d.fact 7 (f := .noat "Figure" "around") rfl)⟩
  M := He.mkr_ok (T.t.d.fact 4 (f := .mkr "Figure") rfl)
  d0 := dn_mk T.t.d X G 1 10 rfl rfl fun _ _ _ _ _ _ us hl => match us, hl with | [_], _ => rfl
  d1 := dn_mk T.t.d X G 2 11 rfl rfl fun _ _ _ _ _ _ us hl => match us, hl with | [_, _], _ => rfl
  d2 := dn_mk T.t.d X G 3 12 rfl rfl fun _ _ _ _ _ _ us hl => match us, hl with | [_], _ => rfl
  d3 := dn_mk T.t.d X G 4 13 rfl rfl fun _ _ _ _ _ _ us hl => match us, hl with | [_, _], _ => rfl
  d4 := dn_mk T.t.d X G 5 14 rfl rfl fun _ _ _ _ _ _ us hl => match us, hl with | [_], _ => rfl
  d5 := dn_mk T.t.d X G 6 15 rfl rfl fun _ _ _ _ _ _ us hl => match us, hl with | [_, _], _ => rfl
  d6 := dn_mk T.t.d X G 7 16 rfl rfl fun _ _ _ _ _ _ us hl => match us, hl with | [_], _ => rfl
  d7 := dn_mk T.t.d X G 8 17 rfl rfl fun _ _ _ _ _ _ us hl => match us, hl with | [_, _], _ => rfl
  d8 := dn_mk T.t.d X G 9 18 rfl rfl fun _ _ _ _ _ _ us hl => match us, hl with | [_, _], _ => rfl
  d9 := dn_mk T.t.d X G 10 19 rfl rfl fun _ _ _ _ _ _ us hl => match us, hl with | [_], _ => rfl
  d10 := dn_mk T.t.d X G 11 20 rfl rfl fun _ _ _ _ _ _ us hl => match us, hl with | [_, _], _ => rfl
  d11 := dn_mk T.t.d X G 12 21 rfl rfl fun _ _ _ _ _ _ us hl => match us, hl with | [_], _ => rfl
  d12 := dn_mk T.t.d X G 13 22 rfl rfl fun _ _ _ _ _ _ us hl => match us, hl with | [_, _], _ => rfl
  d13 := dn_mk T.t.d X G 14 23 rfl rfl fun _ _ _ _ _ _ us hl => match us, hl with | [_, _], _ => rfl
  d14 := dn_mk T.t.d X G 15 24 rfl rfl fun _ _ _ _ _ _ us hl => match us, hl with | [_, _], _ => rfl
  d15 := dn_mk T.t.d X G 16 25 rfl rfl fun _ _ _ _ _ _ us hl => match us, hl with | [_], _ => rfl
  d16 := dn_mk T.t.d X G 17 26 rfl rfl fun _ _ _ _ _ _ us hl => match us, hl with | [_, _], _ => rfl
  d17 := dn_mk T.t.d X G 18 27 rfl rfl fun _ _ _ _ _ _ us hl => match us, hl with | [_, _, _], _ => rfl
  d18 := dn_mk T.t.d X G 19 28 rfl rfl fun _ _ _ _ _ _ us hl => match us, hl with | [_, _, _], _ => rfl
  d19 := dn_mk T.t.d X G 20 29 rfl rfl fun _ _ _ _ _ _ us hl => match us, hl with | [_], _ => rfl
  m0 := md_mk T.t.d 21 42 rfl rfl fun _ _ _ _ _ _ us hl => match us, hl with | [_], _ => rfl
  m1 := md_mk T.t.d 22 43 rfl rfl fun _ _ _ _ _ _ us hl => match us, hl with | [_, _], _ => rfl
  m2 := md_mk T.t.d 23 44 rfl rfl fun _ _ _ _ _ _ us hl => match us, hl with | [_, _], _ => rfl
  m3 := md_mk T.t.d 24 45 rfl rfl fun _ _ _ _ _ _ us hl => match us, hl with | [_, _], _ => rfl
  m4 := md_mk T.t.d 25 46 rfl rfl fun _ _ _ _ _ _ us hl => match us, hl with | [_, _], _ => rfl
  m5 := md_mk T.t.d 26 47 rfl rfl fun _ _ _ _ _ _ us hl => match us, hl with | [_, _], _ => rfl
  m6 := md_mk T.t.d 27 48 rfl rfl fun _ _ _ _ _ _ us hl => match us, hl with | [_, _], _ => rfl
  m7 := md_mk T.t.d 28 49 rfl rfl fun _ _ _ _ _ _ us hl => match us, hl with | [_], _ => rfl
  m8 := md_mk T.t.d 29 50 rfl rfl fun _ _ _ _ _ _ us hl => match us, hl with | [_], _ => rfl
  m9 := md_mk T.t.d 30 51 rfl rfl fun _ _ _ _ _ _ us hl => match us, hl with | [_, _], _ => rfl
  m10 := md_mk T.t.d 31 52 rfl rfl fun _ _ _ _ _ _ us hl => match us, hl with | [_, _, _], _ => rfl
  m11 := md_mk T.t.d 32 53 rfl rfl fun _ _ _ _ _ _ us hl => match us, hl with | [_], _ => rfl
  m12 := md_mk T.t.d 33 54 rfl rfl fun _ _ _ _ _ _ us hl => match us, hl with | [_], _ => rfl
  i := by
    obtain ⟨fd, D⟩ := T.t.d.def_ 0 (d := dInit) rfl
    obtain ⟨ds, hv, b⟩ := D.binds1 (ps := ["self", "edges"]) 2 1 (List.cons_ne_nil _ _) rfl fun T kV doc pm an cdv ct us its hl hi => match us, hl, its, hi with
      | [_, _], _, [_], _ => ⟨_, rfl, rfl⟩
    cases hv
    exact ⟨fd, ⟨_, D⟩, b⟩
end
end NC
/-! The law's promise from the facts of the top. -/
namespace NC
open PySem PySem.Spec PyProof.Rows L2
section
variable {P : Program} {w : World} {K : PySem.W.Frag} {mg : Str → Option Value} {base : Heap}
abbrev TL (K : PySem.W.Frag) : List (Addr × Str) :=
  [((He.cT K pT).2, ("Figure.turned.<locals>." : Str) ++ "<lambda>"), ((He.cT K pM).2, ("Figure.mirrored.<locals>." : Str) ++ "<lambda>"), ((He.cT K pS).2, ("Figure.shifted.<locals>." : Str) ++ "<lambda>")]
structure Dist (K : PySem.W.Frag) : Prop where
  a : (He.cT K pT).2 ≠ (He.cT K pM).2
  b : (He.cT K pT).2 ≠ (He.cT K pS).2
  c : (He.cT K pM).2 ≠ (He.cT K pS).2
theorem tl_t {K : PySem.W.Frag} (d : Dist K) : ∀ p ∈ TL K, p.1 = (He.cT K pT).2 → p.2 = ("Figure.turned.<locals>." : Str) ++ "<lambda>" := fun p hp e => by
  rcases List.mem_cons.mp hp with rfl | hp
  · rfl
  rcases List.mem_cons.mp hp with rfl | hp
  · exact absurd e.symm d.a
  · obtain rfl := List.mem_singleton.mp hp
    exact absurd e.symm d.b
theorem tl_m {K : PySem.W.Frag} (d : Dist K) : ∀ p ∈ TL K, p.1 = (He.cT K pM).2 → p.2 = ("Figure.mirrored.<locals>." : Str) ++ "<lambda>" := fun p hp e => by
  rcases List.mem_cons.mp hp with rfl | hp
  · exact absurd e d.a
  rcases List.mem_cons.mp hp with rfl | hp
  · rfl
  · obtain rfl := List.mem_singleton.mp hp
    exact absurd e.symm d.c
theorem tl_s {K : PySem.W.Frag} (d : Dist K) : ∀ p ∈ TL K, p.1 = (He.cT K pS).2 → p.2 = ("Figure.shifted.<locals>." : Str) ++ "<lambda>" := fun p hp e => by
  rcases List.mem_cons.mp hp with rfl | hp
  · exact absurd e d.b
  rcases List.mem_cons.mp hp with rfl | hp
  · exact absurd e d.c
  · obtain rfl := List.mem_singleton.mp hp
    rfl
theorem env_mk (Z : Tops K mg w) (ne : PySem.W.findIn K (.ref (He.ga K "Figure")) "__ne__" = some (some (.builtin "object.__ne__"))) (so : PySem.W.subIn K (.ref (He.ga K "Figure")) (.type "object") = some true) (sf : PySem.W.selfFirst K (He.ga K "Figure") = true) (di : Dist K)
    (tb : ∀ p ∈ tfA, LamX.TabB base mg (He.cT K p).1 (He.cT K p).2) : LawEnv P w K mg base (He.ga K "Figure") (TL K) := by
  have B := Z.B
  obtain ⟨f0, D0⟩ := Z.d0
  obtain ⟨f1, D1⟩ := Z.d1
  obtain ⟨f2, D2⟩ := Z.d2
  obtain ⟨f3, D3⟩ := Z.d3
  obtain ⟨f4, D4⟩ := Z.d4
  obtain ⟨f5, D5⟩ := Z.d5
  obtain ⟨f6, D6⟩ := Z.d6
  obtain ⟨f7, D7⟩ := Z.d7
  obtain ⟨f8, D8⟩ := Z.d8
  obtain ⟨f9, D9⟩ := Z.d9
  obtain ⟨f10, D10⟩ := Z.d10
  obtain ⟨f11, D11⟩ := Z.d11
  obtain ⟨f12, D12⟩ := Z.d12
  obtain ⟨f13, D13⟩ := Z.d13
  obtain ⟨f14, D14⟩ := Z.d14
  obtain ⟨f15, D15⟩ := Z.d15
  obtain ⟨f16, D16⟩ := Z.d16
  obtain ⟨f17, D17⟩ := Z.d17
  obtain ⟨f18, D18⟩ := Z.d18
  obtain ⟨g0, M0⟩ := Z.m0
  obtain ⟨g1, M1⟩ := Z.m1
  obtain ⟨g2, M2⟩ := Z.m2
  obtain ⟨g3, M3⟩ := Z.m3
  obtain ⟨g4, M4⟩ := Z.m4
  obtain ⟨g5, M5⟩ := Z.m5
  obtain ⟨g6, M6⟩ := Z.m6
  obtain ⟨g7, M7⟩ := Z.m7
  obtain ⟨g8, M8⟩ := Z.m8
  obtain ⟨g9, M9⟩ := Z.m9
  obtain ⟨g10, M10⟩ := Z.m10
  obtain ⟨g11, M11⟩ := Z.m11
  obtain ⟨g12, M12⟩ := Z.m12
  obtain ⟨fi, FI, bI⟩ := Z.i
  have G2 : FnOk P w K mg base L2.CX0 3 _ f2 ["value"] spPoint := ok_point D2 D1 D0 B
  have G4 : FnOk P w K mg base L2.CX0 4 _ f4 ["value"] spEdge := ok_edge D4 D2 D1 D0 D3 B
  have G6 : FnOk P w K mg base L2.CX0 5 _ f6 ["edges"] spCheckE := ok_checkE D6 D4 G4 B
  have G7 : FnOk P w K mg base L2.CX0 2 _ f7 ["point", "held"] (spDirs P w) := ok_dirs D7 D5 Z.S B
  have Mk : MkF P w K mg base (He.ga K "Figure") _ fi := ⟨Z.M, ok_init FI Z.C D6 G6 D7 G7 B, bI, Z.C⟩
  have FM : FigM P w K mg base (He.ga K "Figure") := ⟨sf, ⟨_, _, M3.mt, M3.b, ok_or M3 Mk D9 B⟩, ⟨_, _, M4.mt, M4.b, ok_and M4 Mk D9 B⟩, ⟨_, _, M5.mt, M5.b, ok_sub M5 Mk D9 B⟩, ⟨_, _, M6.mt, M6.b, ok_xor M6 Mk D9 B⟩⟩
  exact {
    B := B
    mkf := ⟨_, _, Mk⟩
    fm := FM
    so := so
    ne := ne
    cell := ⟨_, _, D10.m, D10.F.kp, D10.b, ok_cell D10 B⟩
    box := ⟨_, _, D11.m, D11.F.kp, D11.b, ok_box D11 B⟩
    take := ⟨_, _, D12.m, D12.F.kp, D12.b, ok_take D12⟩
    edges := ⟨_, _, D13.m, D13.F.kp, D13.b, ok_edges D13 D12 B⟩
    dirs := ⟨_, _, D14.m, D14.F.kp, D14.b, ok_ldirs D14⟩
    points := ⟨_, _, D15.m, D15.F.kp, D15.b, ok_lpts D15 B⟩
    turned := ⟨_, _, D16.m, D16.F.kp, D16.b, ok_lturn D16 B⟩
    put := ⟨_, _, D17.m, D17.F.kp, D17.b, ok_lput D17 B⟩
    made := ⟨_, _, D18.m, D18.F.kp, D18.b, ok_made D18 FM⟩
    mlen := ⟨_, _, M0.mt, M0.b, ok_len M0 Z.C B⟩
    meq := ⟨_, _, M1.mt, M1.b, ok_eq M1 Z.C B⟩
    min := ⟨_, _, M2.mt, M2.b, ok_in M2 Z.C D4 G4⟩
    modd := ⟨_, _, M8.mt, M8.b, ok_odd M8 M7 Z.C B⟩
    mturn := ⟨_, _, M11.mt, M11.b, ok_turn (mdl_mk M11) M9 Mk D8 B (tb pT List.mem_cons_self) List.mem_cons_self (tl_t di)⟩
    mmirr := ⟨_, _, M12.mt, M12.b, ok_mirr (mdl_mk M12) M9 Mk D8 B (tb pM (List.mem_cons_of_mem _ List.mem_cons_self)) (List.mem_cons_of_mem _ List.mem_cons_self) (tl_m di)⟩
    mshift := ⟨_, _, M10.mt, M10.b, ok_shift (mdl_mk M10) M9 Mk D8 B D2 G2 D0 (tb pS (List.mem_cons_of_mem _ (List.mem_cons_of_mem _ List.mem_cons_self))) (List.mem_cons_of_mem _ (List.mem_cons_of_mem _ List.mem_cons_self)) (tl_s di)⟩ }
theorem law_at {l : PySem.W.OpenLaw} {h : Heap} {fa : Addr} (T : He.SaysX faA allD tsA tfA exA w h K) (X : K.In h) (G : h.Ns mainGlobals mg) (hfa : mg "law" = some (.ref fa)) : LamX.LawAtS l w K L2.CX0 11 63 "_law_script" mg fa h := by
  have Z := tops T X G
  obtain ⟨fd, D⟩ := Z.d19
  have e := hfa.symm.trans D.m
  cases e
  have bn : ∀ {b : Bool} {x y : Nat}, b = true → b = (!(x == y)) → x ≠ y := fun h1 h2 h3 => by
    rw [h1, h3, beq_self_eq_true] at h2
    cases h2
  have di : Dist K := ⟨bn (ex_at T.more 12 rfl) rfl, bn (ex_at T.more 13 rfl) rfl, bn (ex_at T.more 14 rfl) rfl⟩
  refine ⟨fd, tfA.map (He.cT K), spLaw K (TL K), fun p hp => ?_, fun p hp => ?_, fun p hp => ?_, fun s u => ?_, fun H a ns hl _ ht hS => ⟨a, ns, rfl, hS, fun p hp => ?_, hl, fun _ => rfl⟩, fun base X2 G2 tb => ?_⟩
  · obtain ⟨q, hq, rfl⟩ := List.mem_map.mp hp
    exact T.empty q hq
  · obtain ⟨q, hq, rfl⟩ := List.mem_map.mp hp
    exact T.out q hq
  · obtain ⟨q, hq, rfl⟩ := List.mem_map.mp hp
    exact PySem.W.codeHd_of_K X (T.hd q hq)
  · obtain ⟨⟨oc, od, kV, doc, pm, an, cdv, ct, osl, rfl, lk, hc⟩, kp⟩ := D.F
    exact .of_eq rfl
  · have tn : ∀ q ∈ tfA, H (He.cT K q).2 = some (.tbl #[]) := fun q hq => ht (He.cT K q) (List.mem_map_of_mem hq)
    rcases List.mem_cons.mp hp with rfl | hp
    · exact LamX.TabS.nil (tn pT List.mem_cons_self)
    rcases List.mem_cons.mp hp with rfl | hp
    · exact LamX.TabS.nil (tn pM (List.mem_cons_of_mem _ List.mem_cons_self))
    · obtain rfl := List.mem_singleton.mp hp
      exact LamX.TabS.nil (tn pS (List.mem_cons_of_mem _ (List.mem_cons_of_mem _ List.mem_cons_self)))
  · exact ok_law D (env_mk Z (He.eqO_ok (ex_at T.more 6 rfl)) (of_decide_eq_true (ex_at T.more 5 rfl)) (ex_at T.more 7 rfl) di fun p hp => tb (He.cT K p) (List.mem_map_of_mem hp))
theorem walk {l : PySem.W.OpenLaw} {q : Program} {loose : List Str} {XP : (Str → Option Value) → Heap → Prop} {YP : World → Heap → Prop} {d : DefRec} {K : Params → PySem.W.Frag} (hn : l.most = some 63) (hdf : d.params.defaults = []) (hd : d.name = "law")
    (hY : ∀ (w : World) (h : Heap), YP w h → (K w.params).In h) (F : ∀ (w : World) (h : Heap), YP w h → He.SaysX faA allD tsA tfA exA w h (K w.params)) :
    PySem.W.WalkO q loose XP YP l.row.toRowW d [] (fun f vs => PySem.call f vs) :=
  LamX.walk_ofTs (n := 63) (k := 11) (x := "_law_script") (CX := fun _ => L2.CX0) hn (by decide) hdf ⟨rfl, by decide, by decide⟩ hY (fun w mg fa h Y X G hmg => law_at (F w h Y) X G (hd ▸ hmg)) fun _ _ _ _ _ z => z
/-- the tables' part of the facts -/
def tabsA (K : PySem.W.Frag) (ts : List Addr) : Bool :=
  tfA.all (fun p => PySem.W.codeHdIn K (He.cT K p).1 (He.cT K p).2) && (tfA.all (fun p => (K.lookup (He.cT K p).2).isNone) && tfA.all (fun p => ts.contains (He.cT K p).2))
theorem walkK {l : PySem.W.OpenLaw} {q : Program} {loose : List Str} {XP : (Str → Option Value) → Heap → Prop} {d : DefRec} {K : Params → PySem.W.Frag} {as : List Addr} {e : ∀ P, as = (K P).map (·.1)} {ts : List Addr} (hn : l.most = some 63) (hdf : d.params.defaults = []) (hd : d.name = "law")
    (c1 : ∀ w : World, He.obsT faA allD tsA (K w.params) = He.valT allD tsA w) (c2 : ∀ w : World, exA (K w.params) = true) (c3 : ∀ w : World, tabsA (K w.params) ts = true) :
    PySem.W.WalkO q loose XP (PySem.W.kmHook K as e ts).says l.row.toRowW d [] (fun f vs => PySem.call f vs) :=
  walk (K := K) hn hdf hd (fun w h Y => PySem.W.km_in_of Y) fun w h Y => by
    obtain ⟨h1, h2⟩ := He.ba (c3 w)
    obtain ⟨h3, h4⟩ := He.ba h2
    exact ⟨c1 w, c2 w, fun p hp => List.all_eq_true.mp h1 p hp, fun p hp => Option.isNone_iff_eq_none.mp (List.all_eq_true.mp h3 p hp), fun p hp => PySem.W.km_tabs_of Y _ (List.contains_iff_mem.mp (List.all_eq_true.mp h4 p hp))⟩
end
end NC
open PySem PySem.W PyProof.Rows in
set_option maxRecDepth 100000 in
set_option maxHeartbeats 0 in
theorem PySem.Challenge.cw_nevercrossed_k07_whole_sets_of_edges_holds : PySem.Challenge.rw_nevercrossed_k07_whole_sets_of_edges.Holds := by
  w_on; o_law; k_head; (case hw => w_witness2)
  k_fill
  refine NC.walkK (l := PySem.Challenge.rw_nevercrossed_k07_whole_sets_of_edges) rfl rfl rfl ?c1 ?c2 ?c3
  (case c1 => intro w; kernel_rfl)
  (case c2 => intro w; kernel_rfl)
  (case c3 => intro w; kernel_rfl)
#print axioms PySem.Challenge.cw_nevercrossed_k07_whole_sets_of_edges_holds
