import PyProof.Rows.All
import Wide.All
import OpenK.AllK
import Wide.FinOn
import HandS.ForMost
import HandS.StrMore
import HandS.Codes
import HandS.Walk
import KE.GoesEnum
import HandS.SortKw
import KE.SortKeyHeap
import HandS.More
import HandS.Lambda
import HandS.Set
import HandS.SetTxt0
import HandS.Strs
import KE.KDictZip
import HandS.Style
import HandS.IsInst
import HandS.TupAny
import HandS.Zip
import HandS.EndTab
import HandS.Conv
import HandS.Flow
import PySem.Challenge.RW_struckpieces_k08_whole_one_rest_by_all_m
set_option linter.all false
/-! Struck texts over lists of codes: strikings, ends, meetings, the fact of rests. Plain Lean. -/
namespace K8
abbrev Wd := List Nat

/-! ### sorted lists are told by their members -/
theorem sorted_unique {α : Type} {r : α → α → Prop} (irr : ∀ a, ¬ r a a) (tr : ∀ a b c, r a b → r b c → r a c) :
    ∀ {xs ys : List α}, xs.Pairwise r → ys.Pairwise r → (∀ a, a ∈ xs ↔ a ∈ ys) → xs = ys
  | [], [], _, _, _ => rfl
  | [], y :: ys, _, _, h => absurd ((h y).mpr List.mem_cons_self) (by simp)
  | x :: xs, [], _, _, h => absurd ((h x).mp List.mem_cons_self) (by simp)
  | x :: xs, y :: ys, hx, hy, h => by
    obtain ⟨hx1, hx2⟩ := List.pairwise_cons.mp hx
    obtain ⟨hy1, hy2⟩ := List.pairwise_cons.mp hy
    have e : x = y := by
      rcases List.mem_cons.mp ((h x).mp List.mem_cons_self) with e | m
      · exact e
      · rcases List.mem_cons.mp ((h y).mpr List.mem_cons_self) with e | m'
        · exact e.symm
        · exact absurd (tr _ _ _ (hx1 y m') (hy1 x m)) (irr x)
    subst e
    have t : xs = ys := sorted_unique irr tr hx2 hy2 fun a => by
      constructor
      · intro m
        rcases List.mem_cons.mp ((h a).mp (List.mem_cons_of_mem _ m)) with e | m'
        · subst e
          exact absurd (hx1 a m) (irr a)
        · exact m'
      · intro m
        rcases List.mem_cons.mp ((h a).mpr (List.mem_cons_of_mem _ m)) with e | m'
        · subst e
          exact absurd (hy1 a m) (irr a)
        · exact m'
    rw [t]

/-! ### shortest first -/
def slt (a b : Wd) : Prop := a.length < b.length ∨ (a.length = b.length ∧ a < b)
instance (a b : Wd) : Decidable (slt a b) := inferInstanceAs (Decidable (_ ∨ _))
theorem slt_irr (a : Wd) : ¬ slt a a := by
  rintro (h | ⟨_, h⟩)
  · exact absurd h (Nat.lt_irrefl _)
  · exact absurd h (List.lt_irrefl a)
theorem slt_tr (a b c : Wd) (h1 : slt a b) (h2 : slt b c) : slt a c := by
  rcases h1 with h1 | ⟨e1, l1⟩ <;> rcases h2 with h2 | ⟨e2, l2⟩
  · exact .inl (Nat.lt_trans h1 h2)
  · exact .inl (by omega)
  · exact .inl (by omega)
  · exact .inr ⟨e1.trans e2, List.lt_trans l1 l2⟩
theorem slt_len {a b : Wd} (h : slt a b) : a.length ≤ b.length := by
  rcases h with h | ⟨e, _⟩ <;> omega

/-! ### strikings -/
/-- one piece struck out -/
def St (ps : List Wd) (a b : Wd) : Prop := ∃ p, p ∈ ps ∧ ∃ x y, a = x ++ p ++ y ∧ b = x ++ y
inductive Rch (ps : List Wd) : Wd → Wd → Prop where
  | refl (a : Wd) : Rch ps a a
  | step {a b c : Wd} : St ps a b → Rch ps b c → Rch ps a c
def Irr (ps : List Wd) (a : Wd) : Prop := ∀ b, ¬ St ps a b
def End (ps : List Wd) (a e : Wd) : Prop := Rch ps a e ∧ Irr ps e
def Two (ps : List Wd) (a : Wd) : Prop := ∃ e f, e ≠ f ∧ End ps a e ∧ End ps a f
/-- no piece is empty -/
def NoNil (ps : List Wd) : Prop := ∀ p, p ∈ ps → p ≠ []

theorem Rch.trans {ps : List Wd} {a b c : Wd} (h : Rch ps a b) (h' : Rch ps b c) : Rch ps a c := by
  induction h with
  | refl a => exact h'
  | step s _ ih => exact .step s (ih h')
theorem Rch.one {ps : List Wd} {a b : Wd} (h : St ps a b) : Rch ps a b := .step h (.refl b)
theorem St.lt {ps : List Wd} (hp : NoNil ps) {a b : Wd} (h : St ps a b) : b.length < a.length := by
  obtain ⟨p, m, x, y, rfl, rfl⟩ := h
  have : 0 < p.length := List.length_pos_iff.mpr (hp p m)
  simp only [List.length_append]
  omega
theorem St.sub {ps : List Wd} {a b : Wd} (h : St ps a b) : b.Sublist a := by
  obtain ⟨p, m, x, y, rfl, rfl⟩ := h
  exact (List.sublist_append_left x p).append_right y
theorem Rch.sub {ps : List Wd} {a b : Wd} (h : Rch ps a b) : b.Sublist a := by
  induction h with
  | refl a => exact List.Sublist.refl a
  | step s _ ih => exact ih.trans s.sub
theorem St.ctx {ps : List Wd} {a b : Wd} (h : St ps a b) (u v : Wd) : St ps (u ++ a ++ v) (u ++ b ++ v) := by
  obtain ⟨p, m, x, y, rfl, rfl⟩ := h
  exact ⟨p, m, u ++ x, y ++ v, by simp, by simp⟩
theorem Rch.ctx {ps : List Wd} {a b : Wd} (h : Rch ps a b) (u v : Wd) : Rch ps (u ++ a ++ v) (u ++ b ++ v) := by
  induction h with
  | refl a => exact .refl _
  | step s _ ih => exact .step (s.ctx u v) ih
theorem has_end {ps : List Wd} (hp : NoNil ps) : ∀ (n : Nat) (a : Wd), a.length ≤ n → ∃ e, End ps a e
  | n, a, hn => by
    by_cases h : Irr ps a
    · exact ⟨a, .refl a, h⟩
    · have h' : ∃ b, St ps a b := Classical.byContradiction fun z => h fun b s => z ⟨b, s⟩
      obtain ⟨b, s⟩ := h'
      have l := s.lt hp
      cases n with
      | zero => omega
      | succ n =>
        obtain ⟨e, r, i⟩ := has_end hp n b (by omega)
        exact ⟨e, .step s r, i⟩
theorem End.of {ps : List Wd} {a b e : Wd} (h : Rch ps a b) (k : End ps b e) : End ps a e := ⟨h.trans k.1, k.2⟩
theorem not_two {ps : List Wd} {a e f : Wd} (h : ¬ Two ps a) (he : End ps a e) (hf : End ps a f) : e = f :=
  Classical.byContradiction fun z => h ⟨e, f, z, he, hf⟩

/-! ### meetings -/
/-- q laid on p from its k-th letter on -/
def Lays (p q : Wd) (k : Nat) (t : Wd) : Prop := q.take ((p.drop k).take q.length).length = (p.drop k).take q.length ∧ t = p ++ q.drop ((p.drop k).take q.length).length
def Meet (ps : List Wd) (t : Wd) : Prop := ∃ (i j : Nat) (p q : Wd) (k : Nat), ps[i]? = some p ∧ ps[j]? = some q ∧ k < p.length ∧ (i ≠ j ∨ 0 < k) ∧ Lays p q k t
theorem Meet.own {ps : List Wd} {t : Wd} (h : Meet ps t) : ∀ c, c ∈ t → ∃ p, p ∈ ps ∧ c ∈ p := by
  obtain ⟨i, j, p, q, k, hi, hj, _, _, _, rfl⟩ := h
  intro c hc
  rcases List.mem_append.mp hc with m | m
  · exact ⟨p, List.mem_of_getElem? hi, m⟩
  · exact ⟨q, List.mem_of_getElem? hj, List.mem_of_mem_drop m⟩

/-- two prefixes of one text -/
theorem two_prefixes {x1 x2 r1 r2 : Wd} (h : x1 ++ r1 = x2 ++ r2) (hl : x1.length ≤ x2.length) : ∃ z, x2 = x1 ++ z ∧ r1 = z ++ r2 := by
  rcases List.append_eq_append_iff.mp h with ⟨a, e1, e2⟩ | ⟨a, e1, e2⟩
  · exact ⟨a, e1, e2⟩
  · have : a = [] := by
      have := congrArg List.length e1
      rw [List.length_append] at this
      exact List.eq_nil_of_length_eq_zero (by omega)
    subst this
    exact ⟨[], by simpa using e1.symm, by simpa using e2.symm⟩

/-- THE FACT OF RESTS: a text with two ends, no shorter one of its letters having two, is a meeting -/
theorem least_two {ps : List Wd} (hp : NoNil ps) {w : Wd} (h2 : Two ps w) (hs : ∀ v, v.length < w.length → (∀ c, c ∈ v → c ∈ w) → ¬ Two ps v) : Meet ps w := by
  obtain ⟨e, f, hne, ⟨re, ie⟩, ⟨rf, i_f⟩⟩ := h2
  -- the first strikes of both
  cases re with
  | refl =>
    cases rf with
    | refl => exact absurd rfl hne
    | step s _ => exact absurd s (ie _)
  | @step _ b1 _ s1 r1 =>
    cases rf with
    | refl => exact absurd s1 (i_f _)
    | @step _ b2 _ s2 r2 =>
      -- both leave something shorter: each has one end
      have sub : ∀ {b : Wd}, St ps w b → ¬ Two ps b := fun {b} s => hs b (s.lt hp) fun c m => s.sub.subset m
      have no : ∀ c, ¬ (Rch ps b1 c ∧ Rch ps b2 c) := by
        rintro c ⟨c1, c2⟩
        obtain ⟨g, hg⟩ := has_end hp _ c (Nat.le_refl _)
        have q1 : e = g := not_two (sub s1) ⟨r1, ie⟩ (hg.of c1)
        have q2 : f = g := not_two (sub s2) ⟨r2, i_f⟩ (hg.of c2)
        exact hne (q1.trans q2.symm)
      -- the one that begins first stands first
      have main : ∀ (a1 a2 : Wd), (∀ c, ¬ (Rch ps a1 c ∧ Rch ps a2 c)) → ∀ p1 x1 y1 p2 x2 y2, p1 ∈ ps → p2 ∈ ps → w = x1 ++ p1 ++ y1 → a1 = x1 ++ y1 → w = x2 ++ p2 ++ y2 → a2 = x2 ++ y2 → x1.length ≤ x2.length → Meet ps w := by
        intro a1 a2 no p1 x1 y1 p2 x2 y2 m1 m2 ew1 ea1 ew2 ea2 hl
        have ew : x1 ++ (p1 ++ y1) = x2 ++ (p2 ++ y2) := by rw [← List.append_assoc, ← List.append_assoc, ← ew1, ← ew2]
        obtain ⟨z, rfl, ez⟩ := two_prefixes ew hl
        by_cases hd : p1.length ≤ z.length
        · -- apart
          obtain ⟨u, rfl, eu⟩ := two_prefixes ez hd
          exfalso
          refine no (x1 ++ u ++ y2) ⟨?_, ?_⟩
          · rw [ea1, eu]
            exact Rch.one ⟨p2, m2, x1 ++ u, y2, by simp, by simp⟩
          · rw [ea2]
            exact Rch.one ⟨p1, m1, x1, u ++ y2, by simp, by simp⟩
        · -- they share letters: the span of both
          have hz : z.length < p1.length := Nat.lt_of_not_le hd
          have e1 : p1.drop z.length ++ y1 = p2 ++ y2 := by
            have q := congrArg (List.drop z.length) ez
            rw [List.drop_append_of_le_length (by omega), List.drop_left] at q
            exact q
          have e2 : p1.take z.length = z := by
            have q := congrArg (List.take z.length) ez
            rw [List.take_append_of_le_length (by omega), List.take_left] at q
            exact q
          -- the common part
          have hc : p2.take ((p1.drop z.length).take p2.length).length = (p1.drop z.length).take p2.length := by
            have q := congrArg (List.take (min p2.length (p1.drop z.length).length)) e1
            rw [List.take_append_of_le_length (Nat.min_le_right _ _), List.take_append_of_le_length (Nat.min_le_left _ _)] at q
            rw [List.length_take, ← q, ← List.take_eq_take_min]
          -- what is behind the span
          have hspan : ∃ y, y1 = p2.drop ((p1.drop z.length).take p2.length).length ++ y ∧ (p1 ++ p2.drop ((p1.drop z.length).take p2.length).length) ++ y = z ++ p2 ++ y2 := by
            rw [List.length_take]
            by_cases hle : p2.length ≤ (p1.drop z.length).length
            · rw [Nat.min_eq_left hle, List.drop_length]
              exact ⟨y1, rfl, by rw [List.append_nil, ez, List.append_assoc]⟩
            · rw [Nat.min_eq_right (by omega)]
              have q := congrArg (List.drop (p1.drop z.length).length) e1
              rw [List.drop_left, List.drop_append_of_le_length (by omega)] at q
              exact ⟨y2, q, by
                rw [List.append_assoc, ← q, ez, List.append_assoc]⟩
          obtain ⟨y, ey1, espan⟩ := hspan
          generalize ht : p1 ++ p2.drop ((p1.drop z.length).take p2.length).length = t at espan
          have ewt : w = x1 ++ t ++ y := by
            rw [ew1, ey1, ← ht]
            simp
          -- strikes of the span
          have t1 : St ps t (p2.drop ((p1.drop z.length).take p2.length).length) := ⟨p1, m1, [], p2.drop ((p1.drop z.length).take p2.length).length, by rw [← ht]; rfl, rfl⟩
          have t2 : ∃ y', y2 = y' ++ y ∧ t = z ++ p2 ++ y' := by
            have hl : (z ++ p2).length ≤ t.length := by
              rw [← ht, List.length_append, List.length_append, List.length_drop, List.length_take, List.length_drop]
              omega
            obtain ⟨y', q1, q2⟩ := two_prefixes espan.symm hl
            exact ⟨y', q2, q1⟩
          obtain ⟨y', ey2, et⟩ := t2
          have t2' : St ps t (z ++ y') := ⟨p2, m2, z, y', et, rfl⟩
          by_cases hxy : x1 = [] ∧ y = []
          · obtain ⟨rfl, rfl⟩ := hxy
            have ewt' : w = t := by simpa using ewt
            obtain ⟨i, hi⟩ := List.getElem?_of_mem m1
            obtain ⟨j, hj⟩ := List.getElem?_of_mem m2
            refine ⟨i, j, p1, p2, z.length, hi, hj, hz, ?_, hc, ewt'.trans ht.symm⟩
            by_cases hij : i = j
            · refine .inr (Nat.pos_of_ne_zero fun hz0 => ?_)
              have hz0' : z = [] := List.eq_nil_of_length_eq_zero hz0
              subst hz0'
              subst hij
              rw [hi] at hj
              cases hj
              refine no a1 ⟨.refl _, ?_⟩
              have : y1 = y2 := by
                have q : p1 ++ y1 = p1 ++ y2 := by simpa using ez
                exact List.append_cancel_left q
              rw [ea2, ea1, this]
              simpa using Rch.refl _
            · exact .inl hij
          · exfalso
            have hlt : t.length < w.length := by
              rw [ewt, List.length_append, List.length_append]
              rcases Classical.not_and_iff_not_or_not.mp hxy with q | q
              · have := List.length_pos_iff.mpr q
                omega
              · have := List.length_pos_iff.mpr q
                omega
            have nt := hs t hlt fun c m => by
              rw [ewt]
              simp [m]
            obtain ⟨g1, hg1⟩ := has_end hp _ (p2.drop ((p1.drop z.length).take p2.length).length) (Nat.le_refl _)
            obtain ⟨g2, hg2⟩ := has_end hp _ (z ++ y') (Nat.le_refl _)
            have eg : g1 = g2 := not_two nt (hg1.of (Rch.one t1)) (hg2.of (Rch.one t2'))
            subst eg
            refine no (x1 ++ g1 ++ y) ⟨?_, ?_⟩
            · rw [ea1, ey1, ← List.append_assoc]
              exact hg1.1.ctx x1 y
            · rw [ea2, ey2]
              have q := hg2.1.ctx x1 y
              simpa using q
      obtain ⟨p1, m1, x1, y1, ew1, ea1⟩ := s1
      obtain ⟨p2, m2, x2, y2, ew2, ea2⟩ := s2
      rcases Nat.le_total x1.length x2.length with hl | hl
      · exact main b1 b2 no p1 x1 y1 p2 x2 y2 m1 m2 ew1 ea1 ew2 ea2 hl
      · exact main b2 b1 (fun c h => no c ⟨h.2, h.1⟩) p2 x2 y2 p1 x1 y1 m2 m1 ew2 ea2 ew1 ea1 hl

/-! ### the lists that the program and the law hold -/
def IsEnds (ps : List Wd) (a : Wd) (es : List Wd) : Prop := es.Pairwise slt ∧ ∀ e, e ∈ es ↔ End ps a e
def IsMeets (ps : List Wd) (ms : List Wd) : Prop := ms.Pairwise slt ∧ ∀ t, t ∈ ms ↔ Meet ps t
def IsTexts (own : Wd) (most : Nat) (ts : List Wd) : Prop := ts.Pairwise slt ∧ ∀ t, t ∈ ts ↔ (t.length ≤ most ∧ ∀ c, c ∈ t → c ∈ own)
theorem IsEnds.uniq {ps : List Wd} {a : Wd} {es fs : List Wd} (h : IsEnds ps a es) (k : IsEnds ps a fs) : es = fs :=
  sorted_unique slt_irr slt_tr h.1 k.1 fun e => (h.2 e).trans (k.2 e).symm
theorem IsMeets.uniq {ps : List Wd} {es fs : List Wd} (h : IsMeets ps es) (k : IsMeets ps fs) : es = fs :=
  sorted_unique slt_irr slt_tr h.1 k.1 fun e => (h.2 e).trans (k.2 e).symm
theorem IsEnds.two {ps : List Wd} {a e f : Wd} {r : List Wd} (h : IsEnds ps a (e :: f :: r)) : Two ps a := by
  refine ⟨e, f, fun q => ?_, (h.2 e).mp (by simp), (h.2 f).mp (by simp)⟩
  subst q
  exact slt_irr e ((List.pairwise_cons.mp h.1).1 e (by simp))
theorem IsEnds.short {ps : List Wd} {a : Wd} {es : List Wd} (h : IsEnds ps a es) (hl : es.length ≤ 1) : ¬ Two ps a := by
  rintro ⟨e, f, hne, he, hf⟩
  have m1 := (h.2 e).mpr he
  have m2 := (h.2 f).mpr hf
  match es, hl with
  | [], _ => simp at m1
  | [x], _ =>
    rw [List.mem_singleton] at m1 m2
    exact hne (m1.trans m2.symm)
  | _ :: _ :: _, hl => simp at hl
/-- the first of some texts that has two ends, with its first two -/
def First (ps ts : List Wd) : Option (Wd × Wd × Wd) → Prop
  | none => ∀ t, t ∈ ts → ¬ Two ps t
  | some (l, e, f) => ∃ pre post r, ts = pre ++ l :: post ∧ (∀ t, t ∈ pre → ¬ Two ps t) ∧ IsEnds ps l (e :: f :: r)
theorem First.uniq {ps ts : List Wd} {r q : Option (Wd × Wd × Wd)} (h : First ps ts r) (k : First ps ts q) : r = q := by
  have none_some : ∀ {l e f : Wd}, First ps ts none → ¬ First ps ts (some (l, e, f)) := by
    rintro l e f h ⟨pre, post, r, rfl, _, ie⟩
    exact h l (by simp) ie.two
  match r, q, h, k with
  | none, none, _, _ => rfl
  | none, some (l, e, f), h, k => exact absurd k (none_some h)
  | some (l, e, f), none, h, k => exact absurd h (none_some k)
  | some (l, e, f), some (l', e', f'), ⟨pre, post, r, e1, n1, i1⟩, ⟨pre', post', r', e2, n2, i2⟩ =>
    have el : l = l' := by
      have q : pre ++ l :: post = pre' ++ l' :: post' := e1.symm.trans e2
      rcases List.append_eq_append_iff.mp q with ⟨a, q1, q2⟩ | ⟨a, q1, q2⟩
      · cases a with
        | nil => simp at q2; exact q2.1
        | cons c a =>
          rw [List.cons_append] at q2
          have : l = c := (List.cons.inj q2).1
          subst this
          exact absurd i1.two (n2 l (by rw [q1]; simp))
      · cases a with
        | nil => simp at q2; exact q2.1.symm
        | cons c a =>
          rw [List.cons_append] at q2
          have : l' = c := (List.cons.inj q2).1
          subst this
          exact absurd i2.two (n1 l' (by rw [q1]; simp))
    subst el
    have := i1.uniq i2
    injection this with a1 a2
    injection a2 with a2 a3
    rw [a1, a2]

theorem before {pre post ts : List Wd} {l t : Wd} (h : ts.Pairwise slt) (e : ts = pre ++ l :: post) (m : t ∈ ts) (s : slt t l) : t ∈ pre := by
  subst e
  rcases List.mem_append.mp m with q | q
  · exact q
  · rcases List.mem_cons.mp q with q | q
    · subst q
      exact absurd s (slt_irr _)
    · have := (List.pairwise_cons.mp (List.pairwise_append.mp h).2.1).1 t q
      exact absurd (slt_tr _ _ _ s this) (slt_irr _)
/-- the law's last two questions -/
theorem short_is_first {ps : List Wd} (hp : NoNil ps) {own : Wd} (hown : ∀ c, c ∈ own ↔ ∃ p, p ∈ ps ∧ c ∈ p) {most : Nat} {ms ts : List Wd} (hm : IsMeets ps ms) (ht : IsTexts own most ts) {r q : Option (Wd × Wd × Wd)} (h : First ps ms r) (k : First ps ts q) :
    (∀ l e f, r = some (l, e, f) → l.length ≤ most → q = r) ∧ (∀ l e f, q = some (l, e, f) → ∃ l' e' f', r = some (l', e', f') ∧ l'.length ≤ most) := by
  have key : ∀ l e f, q = some (l, e, f) → r = some (l, e, f) ∧ l.length ≤ most := by
    rintro l e f rfl
    obtain ⟨pre, post, rr, e1, n1, i1⟩ := k
    have hl := (ht.2 l).mp (by rw [e1]; simp)
    have hmeet : Meet ps l := least_two hp i1.two fun v hv hc => n1 v (before ht.1 e1 ((ht.2 v).mpr ⟨by omega, fun c m => hl.2 c (hc c m)⟩) (.inl hv))
    have hmem : l ∈ ms := (hm.2 l).mpr hmeet
    refine ⟨?_, hl.1⟩
    match r, h with
    | none, h => exact absurd i1.two (h l hmem)
    | some (l', e', f'), ⟨pre', post', r', e2, n2, i2⟩ =>
      have hl' : l' = l := by
        have m2 : l' ∈ ms := by rw [e2]; simp
        rw [e2] at hmem
        rcases List.mem_append.mp hmem with q | q
        · exact absurd i1.two (n2 l q)
        · rcases List.mem_cons.mp q with q | q
          · exact q.symm
          · have hs : slt l' l := (List.pairwise_cons.mp (List.pairwise_append.mp (e2 ▸ hm.1)).2.1).1 l q
            have m3 : l' ∈ ts := (ht.2 l').mpr ⟨Nat.le_trans (slt_len hs) hl.1, fun c m => (hown c).mpr (((hm.2 l').mp m2).own c m)⟩
            exact absurd i2.two (n1 l' (before ht.1 e1 m3 hs))
      subst hl'
      have := i1.uniq i2
      injection this with a1 a2
      injection a2 with a2 a3
      rw [a1, a2]
  refine ⟨fun l e f er hl => ?_, fun l e f eq => ?_⟩
  · subst er
    obtain ⟨pre', post', r', e2, n2, i2⟩ := h
    have m2 : l ∈ ms := by rw [e2]; simp
    have m3 : l ∈ ts := (ht.2 l).mpr ⟨hl, fun c m => (hown c).mpr (((hm.2 l).mp m2).own c m)⟩
    match q, k, key with
    | none, k, _ => exact absurd i2.two (k l m3)
    | some (l', e', f'), _, key => exact (key l' e' f' rfl).1.symm
  · obtain ⟨a, b⟩ := key l e f eq
    exact ⟨l, e, f, a, b⟩

/-! ### how many texts a flood holds -/
def subs : Wd → List Wd
  | [] => [[]]
  | a :: r => subs r ++ (subs r).map (a :: ·)
theorem subs_len : ∀ a : Wd, (subs a).length = 2 ^ a.length
  | [] => rfl
  | a :: r => by
    show (subs r ++ (subs r).map (a :: ·)).length = _
    rw [List.length_append, List.length_map, subs_len r, List.length_cons, Nat.pow_succ]
    omega
theorem mem_subs {t a : Wd} (h : t.Sublist a) : t ∈ subs a := by
  induction h with
  | slnil => simp [subs]
  | cons a _ ih => exact List.mem_append_left _ ih
  | cons_cons a _ ih => exact List.mem_append_right _ (List.mem_map.mpr ⟨_, ih, rfl⟩)
theorem nodup_le {α : Type} [DecidableEq α] : ∀ {xs ys : List α}, xs.Nodup → (∀ x, x ∈ xs → x ∈ ys) → xs.length ≤ ys.length
  | [], _, _, _ => Nat.zero_le _
  | x :: xs, ys, hn, h => by
    obtain ⟨h1, h2⟩ := List.nodup_cons.mp hn
    have m := h x List.mem_cons_self
    have q := nodup_le (xs := xs) (ys := ys.erase x) h2 fun y hy => (List.mem_erase_of_ne (show y ≠ x from fun e => h1 (by rw [← e]; exact hy))).mpr (h y (List.mem_cons_of_mem _ hy))
    rw [List.length_erase_of_mem m] at q
    have : 0 < ys.length := List.length_pos_of_mem m
    rw [List.length_cons]
    omega
theorem flood_le {ps : List Wd} {a : Wd} {F : List Wd} (hn : F.Nodup) (h : ∀ t, t ∈ F → Rch ps a t) : F.length ≤ 2 ^ a.length := by
  rw [← subs_len a]
  exact nodup_le hn fun t m => mem_subs (h t m).sub
/-- a flood that is closed holds just what is come to -/
theorem flood_all {ps : List Wd} {a : Wd} {F : List Wd} (h0 : a ∈ F) (hc : ∀ t u, t ∈ F → St ps t u → u ∈ F) : ∀ t, Rch ps a t → t ∈ F := by
  intro t h
  induction h with
  | refl a => exact h0
  | step s _ ih => exact ih (hc _ _ h0 s)

/-! ### strikes by place and number -/
/-- the numbers of the pieces that stand at a place -/
def nums (ps : List Wd) (d : Wd) : List Nat := (List.range ps.length).filter fun n => decide ((ps.getD n []) <+: d)
def strikes (ps : List Wd) (log : Wd) : List (Nat × Nat) := (List.range log.length).flatMap fun i => (nums ps (log.drop i)).map fun n => (i, n)
def cut (log : Wd) (i n : Nat) : Wd := log.take i ++ log.drop (i + n)
theorem mem_strikes {ps : List Wd} {log : Wd} {i n : Nat} : (i, n) ∈ strikes ps log ↔ i < log.length ∧ n < ps.length ∧ ps.getD n [] <+: log.drop i := by
  unfold strikes nums
  simp only [List.mem_flatMap, List.mem_range, List.mem_map, List.mem_filter, decide_eq_true_eq, Prod.mk.injEq]
  constructor
  · rintro ⟨a, ha, m, ⟨hm, hp⟩, rfl, rfl⟩
    exact ⟨ha, hm, hp⟩
  · rintro ⟨h1, h2, h3⟩
    exact ⟨i, h1, n, ⟨h2, h3⟩, rfl, rfl⟩
theorem st_iff {ps : List Wd} (hp : NoNil ps) {a b : Wd} : St ps a b ↔ ∃ z, z ∈ strikes ps a ∧ b = cut a z.1 (ps.getD z.2 []).length := by
  constructor
  · rintro ⟨p, m, x, y, rfl, rfl⟩
    obtain ⟨n, hn⟩ := List.getElem?_of_mem m
    have hnl : n < ps.length := (List.getElem?_eq_some_iff.mp hn).1
    have eg : ps.getD n [] = p := by rw [List.getD_eq_getElem?_getD, hn]; rfl
    have pl : 0 < p.length := List.length_pos_iff.mpr (hp p m)
    refine ⟨(x.length, n), mem_strikes.mpr ⟨?_, hnl, ?_⟩, ?_⟩
    · simp only [List.length_append]
      omega
    · rw [eg, List.append_assoc, List.drop_left]
      exact List.prefix_append p y
    · show _ = cut _ x.length (ps.getD n []).length
      rw [eg]
      unfold cut
      rw [List.append_assoc, List.take_left, ← List.append_assoc, ← List.length_append, List.drop_left]
  · rintro ⟨⟨i, n⟩, hz, rfl⟩
    obtain ⟨h1, h2, t, ht⟩ := mem_strikes.mp hz
    refine ⟨ps.getD n [], by rw [List.getD_eq_getElem?_getD, List.getElem?_eq_getElem h2]; exact List.getElem_mem h2, a.take i, t, ?_, ?_⟩
    · rw [List.append_assoc, ht, List.take_append_drop]
    · show cut a i (ps.getD n []).length = _
      unfold cut
      rw [← List.drop_drop, ← ht, List.drop_left]
theorem irr_iff {ps : List Wd} (hp : NoNil ps) {a : Wd} : Irr ps a ↔ strikes ps a = [] := by
  constructor
  · intro h
    cases e : strikes ps a with
    | nil => rfl
    | cons z r => exact absurd ((st_iff hp).mpr ⟨z, by rw [e]; exact List.mem_cons_self, rfl⟩) (h _)
  · intro e b s
    obtain ⟨z, m, _⟩ := (st_iff hp).mp s
    rw [e] at m
    simp at m
theorem nums_le (ps : List Wd) (d : Wd) : (nums ps d).length ≤ ps.length := by
  unfold nums
  refine Nat.le_trans (List.length_filter_le _ _) ?_
  rw [List.length_range]
  exact Nat.le_refl _
theorem flatMap_le {α β : Type} (f : α → List β) (k : Nat) : ∀ l : List α, (∀ a, a ∈ l → (f a).length ≤ k) → (l.flatMap f).length ≤ l.length * k
  | [], _ => by simp
  | a :: r, h => by
    rw [List.flatMap_cons, List.length_append, List.length_cons, Nat.succ_mul]
    have := h a List.mem_cons_self
    have := flatMap_le f k r fun b m => h b (List.mem_cons_of_mem _ m)
    omega
theorem strikes_le (ps : List Wd) (log : Wd) : (strikes ps log).length ≤ log.length * ps.length := by
  have := flatMap_le (fun i => (nums ps (log.drop i)).map fun n => (i, n)) ps.length (List.range log.length) fun i _ => by
    rw [List.length_map]
    exact nums_le _ _
  rw [List.length_range] at this
  exact this
end K8
namespace K8
open PySem
def top (i : Nat) : Stmt := PySem.Challenge.pw_struckpieces_k08_whole_one_rest_by_all_m.main.body.getD i (.Pass ⟨0, 0, 0, 0⟩)
end K8
set_option Elab.async false
set_option linter.all false
set_option maxRecDepth 100000
set_option maxHeartbeats 4000000
/-! Texts by their codes: slices, startswith. -/
namespace K8
open PySem L2
open SX (S S_len S_cat S_inj)
theorem cutS_eq (l : List Nat) (lo hi : Option Int) : cutS (S l) lo hi = S ((l.drop (HT.sIx l.length 0 lo)).take (HT.sIx l.length l.length hi - HT.sIx l.length 0 lo)) := by
  unfold cutS
  rw [S_len]
theorem cut_drop (l : List Nat) (i : Nat) : cutS (S l) (some (i : Int)) none = S (l.drop i) := by
  rw [cutS_eq, HT.sIx_nat, HT.sIx_none]
  congr 1
  rw [List.take_of_length_le (by rw [List.length_drop]; omega)]
  by_cases h : i ≤ l.length
  · rw [Nat.min_eq_left h]
  · rw [Nat.min_eq_right (by omega), List.drop_length, List.drop_eq_nil_of_le (by omega)]
theorem cut_take (l : List Nat) (i : Nat) : cutS (S l) none (some (i : Int)) = S (l.take i) := by
  rw [cutS_eq, HT.sIx_nat, HT.sIx_none, List.drop_zero, Nat.sub_zero]
  congr 1
  by_cases h : i ≤ l.length
  · rw [Nat.min_eq_left h]
  · rw [Nat.min_eq_right (by omega), List.take_length, List.take_of_length_le (by omega)]
theorem cut_mid (l : List Nat) (i n : Nat) : cutS (S l) (some (i : Int)) (some ((i : Int) + (n : Int))) = S ((l.drop i).take n) := by
  have e : ((i : Int) + (n : Int)) = ((i + n : Nat) : Int) := by omega
  rw [e, cutS_eq, HT.sIx_nat, HT.sIx_nat]
  congr 1
  by_cases h : i ≤ l.length
  · rw [Nat.min_eq_left h]
    by_cases h2 : i + n ≤ l.length
    · rw [Nat.min_eq_left h2]
      congr 1
      omega
    · rw [Nat.min_eq_right (by omega), List.take_of_length_le (by rw [List.length_drop]; omega), List.take_of_length_le (by rw [List.length_drop]; omega)]
  · rw [Nat.min_eq_right (show l.length ≤ i by omega), List.drop_length, List.take_nil, List.drop_eq_nil_of_le (by omega), List.take_nil]
theorem pre_dec (a b : List Nat) : (a.take b.length == b) = decide (b <+: a) := by
  cases h : decide (b <+: a) with
  | true =>
    obtain ⟨t, rfl⟩ := of_decide_eq_true h
    rw [List.take_left]
    exact beq_self_eq_true _
  | false =>
    have h' := of_decide_eq_false h
    cases hb : a.take b.length == b with
    | false => rfl
    | true =>
      have e : a.take b.length = b := eq_of_beq hb
      have q : b ++ a.drop b.length = a := by
        have z := List.take_append_drop b.length a
        rw [e] at z
        exact z
      exact absurd ⟨a.drop b.length, q⟩ h'
theorem starts (a b : List Nat) : Txt.startswith (S a) (S b) = decide (b <+: a) := by
  unfold Txt.startswith
  rw [PySem.StrLaws.subAt_eq, S_len, S_len, List.drop_zero, pre_dec, Nat.zero_add]
  cases h : decide (b <+: a) with
  | false => exact Bool.and_false _
  | true =>
    have := (of_decide_eq_true h).length_le
    rw [decide_eq_true this]
    rfl
theorem starts3 (a b : List Nat) (i : Nat) (hi : i ≤ a.length) : Txt.startswith3 (S a) (S b) (i : Int) = decide (b <+: a.drop i) := by
  unfold Txt.startswith3
  have e : PySem.fromIndex (S a).length (i : Int) = i := by
    unfold PySem.fromIndex
    rw [if_neg (by omega)]
    omega
  rw [e, PySem.StrLaws.subAt_eq, S_len, S_len, pre_dec]
  cases h : decide (b <+: a.drop i) with
  | false => exact Bool.and_false _
  | true =>
    have := (of_decide_eq_true h).length_le
    rw [List.length_drop] at this
    rw [decide_eq_true (by omega)]
    rfl
theorem str_dec (a b : List Nat) : decide (V.str (S a) = V.str (S b)) = decide (a = b) := by
  by_cases h : a = b
  · subst h
    rw [decide_eq_true rfl, decide_eq_true rfl]
  · rw [decide_eq_false h, decide_eq_false fun z => h (S_inj (V.str.inj z))]
end K8
set_option Elab.async false
set_option linter.all false
set_option maxRecDepth 100000
set_option maxHeartbeats 4000000
/-! enumerate of a tuple and of a text, walked. -/
namespace K8
open PySem PySem.Spec PyProof.Rows L2
set_option maxHeartbeats 1000000 in
theorem meets_enum1 {v : Value} {o : Obj} {H : Heap → Prop} (B : Begins v o H) :
    Meets (Builtin.«enumerate.__new__» ⟨[.type "enumerate", v], []⟩) (fun _ R s => H s.heap ∧
      R (.ok (.ret (.ref (s.heap.push o).objs.size))) { s with heap := (s.heap.push o).push { cls := .type "enumerate", data := .fields #[.none, .bool false, .ref s.heap.objs.size, rawInt 0, .none, .none] } }) :=
  .of_wp fun prog w A R s h => by
    obtain ⟨hp, g, d, tk, os⟩ := s
    obtain ⟨h1, h⟩ := h
    have hsub := sub_enumerate
    have q1 : ∀ {A' : Around} {E : Value → Shared → Prop} {Q : Value → Shared → Prop}, Q (.ref hp.objs.size) ⟨hp.push o, g, d, tk, os⟩ → wpAny (model prog w) A' (pyIter v) Q E ⟨hp, g, d, tk, os⟩ :=
      fun q => B.iter prog w _ _ ⟨hp, g, d, tk, os⟩ _ h1 q
    wp_walk using q1
    refine wpAny_stack_any fun st => wpAny_pure ?_
    split
    · rename_i c _ _ _ _ _
      cases (c == Value.type "enumerate")
      · wp_walk using q1
        exact ⟨_, rfl, h⟩
      · wp_walk using q1
        exact ⟨_, rfl, h⟩
    · wp_walk using q1
      exact ⟨_, rfl, h⟩
theorem enum_begins1 {prog : Program} {w : World} {A : Around} {E : Value → Shared → Prop} {s : Shared} {v : Value} {o : Obj} {H : Heap → Prop} {Q : Value → Shared → Prop} (B : Begins v o H) (h1 : H s.heap)
    (h : ∀ h', IsEnum h' (s.heap.objs.size + 1) s.heap.objs.size 0 .none → h'.get? s.heap.objs.size = some o → h'.objs.size = s.heap.objs.size + 2 →
      (∀ b o, s.heap.get? b = some o → h'.get? b = some o) → Q (.ref (s.heap.objs.size + 1)) { s with heap := h' }) :
    wpAny (model prog w) A (call (.type "enumerate") [v]) Q E s := by
  refine callType_new F.called_enumerate (by decide) (F.typeCall_enumerate_1 _) (F.newCall_enumerate_1 _) (fun obj => F.args_object_init_2 obj _) F.entry_enumerate_new
    (meets_enum1 B) ⟨h1, ?_⟩
  have hz : (s.heap.push o).objs.size = s.heap.objs.size + 1 := Heap.size_push ..
  show _ ∧ _
  rw [hz]
  have he : IsEnum ((s.heap.push o).push { cls := .type "enumerate", data := .fields #[.none, .bool false, .ref s.heap.objs.size, rawInt 0, .none, .none] }) (s.heap.objs.size + 1) s.heap.objs.size 0 .none := by
    have q := Heap.get?_push_size (s.heap.push o) (o := { cls := .type "enumerate", data := .fields #[.none, .bool false, .ref s.heap.objs.size, rawInt 0, .none, .none] }) rfl
    rw [hz] at q
    exact q
  exact ⟨⟨_, he, rfl⟩, h _ he (Heap.get?_push_of_some _ (Heap.get?_push_size _ B.free)) (by rw [Heap.size_push, hz]) fun b o x => Heap.get?_push_of_some _ (Heap.get?_push_of_some _ x)⟩

/-- the tuple at a, each item in a new pair -/
def IteT (K : PySem.W.Frag) (a : Addr) : It :=
  ⟨fun i H => ∃ (xs : List V) (x : V), SqT K H a xs ∧ xs[i]? = some x, fun i H v H' => ∃ T x, v = .ref T ∧ H T = none ∧ H' = upd H T (.tup [.int (i : Nat), x]) ∧ ∀ xs, SqT K H a xs → xs[i]? = some x, fun i H => ∃ xs : List V, SqT K H a xs ∧ xs.length = i⟩
/-- the text x, each sign in a new pair -/
def IteS (z : Str) : It :=
  ⟨fun i _ => i < z.cps.size, fun i H v H' => ∃ T c, v = .ref T ∧ H T = none ∧ H' = upd H T (.tup [.int (i : Nat), .str ⟨#[c]⟩]) ∧ z.cps[i]? = some c, fun i _ => i = z.cps.size⟩
section
variable {P : Program} {w : World} {K : PySem.W.Frag} {elts : List Expr} {kk : Nat} {tpos : Pos}
theorem enum_obj {h : Heap} {e it : Addr} {i : Int} {old : Value} (he : IsEnum h e it i old) (hi : ∃ o, h.get? it = some o ∧ ∀ v, o.data ≠ .cell v) : ∀ b ∈ [e, it], ∃ o, h.get? b = some o ∧ ∀ v, o.data ≠ .cell v := fun b hb => by
  have e' : b = e ∨ b = it := by simpa using hb
  rcases e' with z | z
  · rw [z]
    exact ⟨_, he, fun v q => nomatch q⟩
  · rw [z]
    exact hi
/-- one turn of an enumerate, the item's value known -/
theorem enum_turn {X : Cx} {i n : Nat} {pins : List (Addr × Obj)} {s : Shared} {σ : L2.St} {H : Hp} {E : Value → Shared → Prop} {e it : Addr} {fp : List Addr} {old : Value} {x : V} {D : Nat → Value → Prop} {St : Nat → Heap → Prop} {tn : Nat → Heap → Prop} {J : It} (I : Inv X pins σ H s)
    (hf : ∀ b ∈ [e, it], FpOk X pins H b) (dr : Draws X.prog X.w X.A.in1 it fp n D St) (he : IsEnum s.heap e it i old) (hst : St i s.heap) (hi : i < n) (hne : e ≠ it) (hef : e ∉ fp) (hx : ∀ u, D i u → RelV x u)
    (hJ : ∀ T, H T = none → J.yld i H (.ref T) (upd H T (.tup [.int (i : Nat), x]))) (hit : ∃ o, s.heap.get? it = some o)
    (htn : ∀ (h : Heap) old, IsEnum h e it ((i + 1 : Nat) : Int) old → St (i + 1) h → tn (i + 1) h) :
    wpAny (model X.prog X.w) X.A (pyNext (.ref e)) (fun r s1 => ∃ u, r = some u ∧ wpAny (model X.prog X.w) X.A (letOwnedTupleGo (.Tuple elts kk tpos) (.ref e) u) (fun _ s2 => ∃ x H', Inv X pins σ H' s2 ∧ RelV x u ∧ J.yld i H x H' ∧ tn (i + 1) s2.heap ∧ ∀ b ∈ [e, it], H' b = none) E s1) E s := by
  have hel : e < s.heap.objs.size := Heap.lt_size he
  have hil : it < s.heap.objs.size := hit.elim fun o q => Heap.lt_size q
  refine wpAny_pyNext_enum_itemD dr he hst hi hne hef fun u h' tk hu ho hst' hT hsz hk => ?_
  refine ⟨_, rfl, wpAny_letOwnedTupleGo_enum (s := { s with heap := h', toks := tk + 1 }) ho fun h'' he' sb => ?_⟩
  have hT2 : h''.get? s.heap.objs.size = some { cls := .type "tuple", data := .seq #[.int i tk, u] } := (sb.2 _ (Nat.ne_of_gt hel)).trans hT
  have new : ObjOk X.prog X.w (upd H s.heap.objs.size (.tup [.int (i : Nat), x])) h'' s.heap.objs.size (.tup [.int (i : Nat), x]) :=
    ⟨by show 2 ≤ sizeLine; decide, [.int i tk, u], .cons ⟨_, rfl⟩ (.cons (hx u hu) .nil), ⟨_, hT2, rfl, _, rfl⟩⟩
  have I1 : Inv X pins σ (upd H s.heap.objs.size (.tup [.int (i : Nat), x])) { s with heap := h'', toks := tk + 1 } :=
    I.turnedNew (ch := [e, it]) (fun b ob hb q => (sb.2 b (fun z => hb (by simp [z]))).trans (hk b ob (fun z => hb (by simp [z])) (fun z => hb (by simp [z])) q)) hf (Nat.le_refl _) new
  refine ⟨.ref s.heap.objs.size, _, I1, rfl, hJ _ (I.hok.fresh (Nat.le_refl _)), ?_, fun b hb => ?_⟩
  · refine htn _ u ?_ (dr.frame _ _ _ hst' fun b hb o q => (sb.2 b fun z => hef (z ▸ hb)).trans q)
    have e1 : ((i + 1 : Nat) : Int) = (i : Int) + 1 := by omega
    rw [e1]
    exact he'
  · have hb' : b < s.heap.objs.size := by
      have e' : b = e ∨ b = it := by simpa using hb
      rcases e' with z | z
      · rw [z]
        exact hel
      · rw [z]
        exact hil
    rw [upd_ne (Nat.ne_of_lt hb')]
    exact (hf b hb).1
theorem turn_enumT (a e it : Addr) : Turn P w K (.Tuple elts kk tpos) (IteT K a) [e, it] e (fun i h => (∃ old, IsEnum h e it ((i : Nat) : Int) old) ∧ h.IsTupleIter it a i ∧ e ≠ it ∧ a ≠ it ∧ a ≠ e) where
  mem := by simp
  obj := fun i h st => by
    obtain ⟨⟨old, he⟩, ⟨o, ho, hc, hd⟩, _⟩ := st
    exact enum_obj he ⟨o, ho, fun v q => by rw [hd] at q; cases q⟩
  keep := fun i h h' st k => let ⟨⟨old, he⟩, hi, r⟩ := st; ⟨⟨old, k e (by simp) _ he⟩, hi.at fun o q => k it (by simp) o q, r⟩
  item := by
    intro X hP hw hK hc i pins s σ H E I hf st hg
    subst hP hw hK
    obtain ⟨⟨old, he⟩, hit, hne, hai, hae⟩ := st
    obtain ⟨xs, x, hq, hx⟩ := hg
    obtain ⟨its, rv, p, hz⟩ := I.tuple hq
    have hi : i < its.toArray.size := by
      rw [List.size_toArray, ← rv.length]
      exact (List.getElem?_eq_some_iff.mp hx).1
    have hty : s.heap.IsTuple a its.toArray := p
    refine enum_turn (J := IteT X.K a) (tn := fun i h => (∃ old, IsEnum h e it ((i : Nat) : Int) old) ∧ h.IsTupleIter it a i ∧ e ≠ it ∧ a ≠ it ∧ a ≠ e) (x := x) I hf (Draws.tuple (by rw [Around.in1_handled]; exact I.ok.hd hc) it a hai its.toArray) he ⟨hit, hty⟩ hi hne (by simp [hne, hae.symm]) (fun u hu => ?_) (fun T hT => ⟨T, x, rfl, hT, rfl, fun ys hy => by rw [I.tuple_inj hy hq]; exact hx⟩) ?_ fun h old he' st' => ⟨⟨old, he'⟩, st'.1, hne, hai, hae⟩
    · obtain ⟨u', h1, h2⟩ := rv.get hx
      have hu' : its[i]? = some u := by simpa using hu
      rw [h1] at hu'
      cases hu'
      exact h2
    · obtain ⟨o, q, _⟩ := hit
      exact ⟨o, q⟩
  done := by
    intro X hP hw hK hc i pins s σ H E I hf st hg
    subst hP hw hK
    obtain ⟨⟨old, he⟩, hit, hne, hai, hae⟩ := st
    obtain ⟨xs, hq, hx⟩ := hg
    obtain ⟨its, rv, p, hz⟩ := I.tuple hq
    obtain ⟨f0, f1, f2, f3, f4, f5⟩ := hf it (by simp)
    have hty : s.heap.IsTuple a its.toArray := p
    have hl : i = its.toArray.size := by
      rw [List.size_toArray, ← rv.length, hx]
    subst hl
    refine wpAny_pyNext_enum_endD (Draws.tuple (by rw [Around.in1_handled]; exact I.ok.hd hc) it a hai its.toArray) he ⟨hit, hty⟩ fun h' eb => ⟨rfl, I.turned (t' := s.toks) (fun b o hb q => eb b o hb q) f0 f1 f3 f4 f5⟩
  self := fun A i s Q E st h => let ⟨⟨_, he⟩, _⟩ := st; wpAny_pyIter_enum he h
theorem turn_enumS (z : Str) (t : Tok) (e it : Addr) : Turn P w K (.Tuple elts kk tpos) (IteS z) [e, it] e (fun i h => (∃ old, IsEnum h e it ((i : Nat) : Int) old) ∧ h.IsStrIter it (strIterType z) z t i ∧ e ≠ it) where
  mem := by simp
  obj := fun i h st => by
    obtain ⟨⟨old, he⟩, ⟨o, ho, hc, hd⟩, _⟩ := st
    exact enum_obj he ⟨o, ho, fun v q => by rw [hd] at q; cases q⟩
  keep := fun i h h' st k => let ⟨⟨old, he⟩, ⟨o, ho, r'⟩, r⟩ := st; ⟨⟨old, k e (by simp) _ he⟩, ⟨o, k it (by simp) _ ho, r'⟩, r⟩
  item := by
    intro X hP hw hK hc i pins s σ H E I hf st hg
    subst hP hw hK
    obtain ⟨⟨old, he⟩, hit, hne⟩ := st
    have hg : i < z.cps.size := hg
    refine enum_turn (J := IteS z) (tn := fun i h => (∃ old, IsEnum h e it ((i : Nat) : Int) old) ∧ h.IsStrIter it (strIterType z) z t i ∧ e ≠ it) (x := .str ⟨#[z.cps[i]]⟩) I hf (Draws.text (by rw [Around.in1_handled]; exact I.ok.hd hc) it z t) he hit hg hne (by simp [hne]) (fun u hu => ?_) (fun T hT => ⟨T, z.cps[i], rfl, hT, rfl, by simp [hg]⟩) ?_ fun h old he' st' => ⟨⟨old, he'⟩, st', hne⟩
    · obtain ⟨c, k, h1, rfl⟩ := hu
      rw [Array.getElem?_eq_getElem hg] at h1
      cases h1
      exact ⟨k, rfl⟩
    · obtain ⟨o, q, _⟩ := hit
      exact ⟨o, q⟩
  done := by
    intro X hP hw hK hc i pins s σ H E I hf st hg
    subst hP hw hK
    obtain ⟨⟨old, he⟩, hit, hne⟩ := st
    obtain ⟨f0, f1, f2, f3, f4, f5⟩ := hf it (by simp)
    have hg : i = z.cps.size := hg
    subst hg
    refine wpAny_pyNext_enum_endD (Draws.text (by rw [Around.in1_handled]; exact I.ok.hd hc) it z t) he hit fun h' eb => ⟨rfl, I.turned (t' := s.toks) (fun b o hb q => eb b o hb q) f0 f1 f3 f4 f5⟩
  self := fun A i s Q E st h => let ⟨⟨_, he⟩, _⟩ := st; wpAny_pyIter_enum he h
end
def iEnumT (K : PySem.W.Frag) (ta : TA) : TI := fun σ H R => ta σ H fun vs H1 => ∃ a xs, vs = [.ref a] ∧ SqT K H1 a xs ∧ R (IteT K a) H1
def iEnumS (ta : TA) : TI := fun σ H R => ta σ H fun vs H1 => ∃ z, vs = [.str z] ∧ R (IteS z) H1
section
variable {X : Cx} {e : Expr} {ta : TA} {p pos tpos : Pos} {elts : List Expr} {kk : Nat}
theorem two_fresh {pins : List (Addr × Obj)} {σ : L2.St} {H : Hp} {s : Shared} (I : Inv X pins σ H s) : ∀ b ∈ [s.heap.objs.size + 1, s.heap.objs.size], FpOk X pins H b := fun b hb => by
  have e' : b = s.heap.objs.size + 1 ∨ b = s.heap.objs.size := by simpa using hb
  have hle : s.heap.objs.size ≤ b := by
    rcases e' with z | z
    · rw [z]
      exact Nat.le_add_right _ _
    · rw [z]
      exact Nat.le_refl _
  exact I.fpOk hle (I.hok.fresh hle)
theorem pi_enumT (hg : Gl X "enumerate") (hm : X.mg "enumerate" = none) (ha : PA X [e] ta) (hs : starEach [e] X.env = [(false, eval e X.env)] := by rfl) :
    PI X (.Tuple elts kk tpos) (.Call (.Name "enumerate" p) [e] [] pos) (iEnumT X.K ta) := by
  refine ⟨fun pins s σ H R I h => ?_⟩
  refine Call_ (ld_blt I hg hm boot_enumerate (PyProof.Rows.callWith_type1 (thn (ha.run pos pins s σ H _ I h) fun us s1 ⟨vs, H1, I1, r1, q1⟩ => ?_) hs rfl))
  obtain ⟨a, xs, ex, hq, q⟩ := q1
  subst ex
  cases r1 with
  | cons r rr =>
    cases rr
    cases r
    obtain ⟨its, rv, p', hz⟩ := I1.tuple hq
    have hty : s1.heap.IsTuple a its.toArray := p'
    have hal : a < s1.heap.objs.size := p'.lt
    refine enum_begins1 (begins_tuple a its.toArray) hty fun h' he hit hsz hk => wpAny_pyIter_enum he ?_
    have I2 : Inv X pins σ H1 { s1 with heap := h' } := I1.kept (t' := s1.toks) hk
    exact ⟨s1.heap.objs.size + 1, [s1.heap.objs.size + 1, s1.heap.objs.size], _, _, H1, rfl, I2, turn_enumT a (s1.heap.objs.size + 1) s1.heap.objs.size, ⟨⟨.none, he⟩, ⟨_, hit, rfl, rfl⟩, Nat.succ_ne_self _, Nat.ne_of_lt hal, Nat.ne_of_lt (Nat.lt_succ_of_lt hal)⟩, two_fresh I1, q⟩
theorem pi_enumS (hg : Gl X "enumerate") (hm : X.mg "enumerate" = none) (ha : PA X [e] ta) (hs : starEach [e] X.env = [(false, eval e X.env)] := by rfl) :
    PI X (.Tuple elts kk tpos) (.Call (.Name "enumerate" p) [e] [] pos) (iEnumS ta) := by
  refine ⟨fun pins s σ H R I h => ?_⟩
  refine Call_ (ld_blt I hg hm boot_enumerate (PyProof.Rows.callWith_type1 (thn (ha.run pos pins s σ H _ I h) fun us s1 ⟨vs, H1, I1, r1, q1⟩ => ?_) hs rfl))
  obtain ⟨z, ex, q⟩ := q1
  subst ex
  cases r1 with
  | cons r rr =>
    cases rr
    obtain ⟨t, rfl⟩ := r
    refine enum_begins1 (begins_text z t) trivial fun h' he hit hsz hk => wpAny_pyIter_enum he ?_
    have I2 : Inv X pins σ H1 { s1 with heap := h' } := I1.kept (t' := s1.toks) hk
    exact ⟨s1.heap.objs.size + 1, [s1.heap.objs.size + 1, s1.heap.objs.size], _, _, H1, rfl, I2, turn_enumS z t (s1.heap.objs.size + 1) s1.heap.objs.size, ⟨⟨.none, he⟩, ⟨_, hit, rfl, rfl⟩, Nat.succ_ne_self _⟩, two_fresh I1, q⟩
end
theorem walk_enumT {K : PySem.W.Frag} {a : Addr} {xs : List V} : Walk (IteT K a) xs.length (fun H => SqT K H a xs) (YPair (fun i => some (.int (i : Nat))) (fun i => xs[i]?)) := by
  refine ⟨fun i _ hi q => ⟨xs, xs[i], q, by simp [hi]⟩, fun _ q => ⟨xs, q, rfl⟩, fun i H v H' _ q y => ?_⟩
  obtain ⟨T, x, h1, h2, h3, h4⟩ := y
  exact ⟨T, .int (i : Nat), x, h1, h2, h3, rfl, h4 xs q⟩
theorem walk_enumS {z : Str} : Walk (IteS z) z.cps.size (fun _ => True) (YPair (fun i => some (.int (i : Nat))) (fun i => z.cps[i]?.map fun c => .str ⟨#[c]⟩)) := by
  refine ⟨fun i _ hi q => hi, fun _ q => rfl, fun i H v H' _ q y => ?_⟩
  obtain ⟨T, c, h1, h2, h3, h4⟩ := y
  exact ⟨T, .int (i : Nat), .str ⟨#[c]⟩, h1, h2, h3, rfl, by simp [h4]⟩
end K8
set_option Elab.async false
set_option linter.all false
set_option maxRecDepth 100000
set_option maxHeartbeats 4000000
/-! sorted by (length, text): of pairs, and by a lambda. -/
namespace K8
open PySem PySem.Spec PySem.W L2
open SX (S S_len S_cat S_inj)
theorem slt_tri {a b : Wd} (h : a ≠ b) : slt a b ∨ slt b a := by
  rcases Nat.lt_trichotomy a.length b.length with l | l | l
  · exact .inl (.inl l)
  · by_cases q : a < b
    · exact .inl (.inr ⟨l, q⟩)
    · refine .inr (.inr ⟨l.symm, ?_⟩)
      have h1 : b ≤ a := List.not_lt.mp q
      rcases List.le_iff_lt_or_eq.mp h1 with z | z
      · exact z
      · exact absurd z.symm h
  · exact .inr (.inl l)
theorem slt_not {a b : Wd} (h : slt a b) : ¬ slt b a := fun k => slt_irr a (slt_tr _ _ _ h k)
/-- the key of a text -/
def keyD (l : Wd) : PyData := .tuple [.int ((l.length : Nat) : Int), .str (S l)]
theorem keyD_lt (a b : Wd) : dataLt (keyD a) (keyD b) = decide (slt a b) := by
  unfold keyD
  rw [dataLt_pair (by simp [alike]) (by simp [alike]), dataLt_int, dataLt_str]
  have e1 : PyData.eqv (.int ((a.length : Nat) : Int)) (.int ((b.length : Nat) : Int)) = decide (a.length = b.length) := by
    simp only [PyData.eqv]
    by_cases h : a.length = b.length
    · rw [h]
      simp
    · rw [decide_eq_false h]
      exact beq_eq_false_iff_ne.mpr (by omega)
  have e2 : PyData.eqv (.str (S a)) (.str (S b)) = decide (a = b) := by
    simp only [PyData.eqv]
    exact SX.S_beq_eq
  rw [e1, e2]
  have e3 : (S a).cps.toList = a := rfl
  have e4 : (S b).cps.toList = b := rfl
  rw [e3, e4]
  unfold slt
  by_cases h1 : a.length = b.length
  · rw [decide_eq_true h1, if_pos rfl]
    by_cases h2 : a = b
    · subst h2
      rw [decide_eq_true rfl, if_pos rfl]
      symm
      refine decide_eq_false ?_
      rintro (h | ⟨_, h⟩)
      · exact absurd h (Nat.lt_irrefl _)
      · exact absurd h (List.lt_irrefl _)
    · rw [decide_eq_false h2, if_neg Bool.false_ne_true]
      have : (a.length < b.length ∨ a.length = b.length ∧ a < b) ↔ a < b := ⟨fun h => h.elim (fun z => absurd z (by omega)) (·.2), fun h => .inr ⟨h1, h⟩⟩
      exact decide_eq_decide.mpr this.symm
  · rw [decide_eq_false h1, if_neg Bool.false_ne_true]
    have : (a.length < b.length ∨ a.length = b.length ∧ a < b) ↔ ((a.length : Nat) : Int) < ((b.length : Nat) : Int) := ⟨fun h => h.elim (fun z => by omega) fun z => absurd z.1 h1, fun h => .inl (by omega)⟩
    exact decide_eq_decide.mpr this.symm
theorem dataLe_key {β : Type} (k : β → Wd) : dataLe false (fun b => keyD (k b)) = fun p q => !decide (slt (k q) (k p)) := by
  funext p q
  show (!dataLt (keyD (k q)) (keyD (k p))) = _
  rw [keyD_lt]
/-- what a stable sort by the keys gives where no two keys are alike -/
theorem sorted_by {β : Type} (k : β → Wd) (bs : List β) (hn : (bs.map k).Nodup) : (bs.mergeSort (dataLe false fun b => keyD (k b))).Perm bs ∧ ((bs.mergeSort (dataLe false fun b => keyD (k b))).map k).Pairwise slt := by
  have hp := List.mergeSort_perm bs (dataLe false fun b => keyD (k b))
  refine ⟨hp, ?_⟩
  have hs : (bs.mergeSort (dataLe false fun b => keyD (k b))).Pairwise fun a b => (dataLe false fun b => keyD (k b)) a b = true := by
    rw [dataLe_key]
    refine List.pairwise_mergeSort (fun a b c h1 h2 => ?_) (fun a b => ?_) bs
    · simp only [Bool.not_eq_true', decide_eq_false_iff_not] at h1 h2
      simp only [Bool.not_eq_true', decide_eq_false_iff_not]
      intro h3
      by_cases e : k b = k c
      · rw [← e] at h3
        exact h1 h3
      · rcases slt_tri e with q | q
        · exact h1 (slt_tr _ _ _ q h3)
        · exact h2 q
    · simp only [Bool.or_eq_true, Bool.not_eq_true', decide_eq_false_iff_not]
      by_cases h : slt (k b) (k a)
      · exact .inr (slt_not h)
      · exact .inl h
  have hn' : ((bs.mergeSort (dataLe false fun b => keyD (k b))).map k).Nodup := ((hp.map k).nodup_iff).mpr hn
  rw [List.pairwise_map]
  have hn2 : (bs.mergeSort (dataLe false fun b => keyD (k b))).Pairwise fun a b => k a ≠ k b := List.pairwise_map.mp hn'
  refine (hs.and hn2).imp fun {a b} h => ?_
  obtain ⟨h1, h2⟩ := h
  rw [dataLe_key] at h1
  simp only [Bool.not_eq_true', decide_eq_false_iff_not] at h1
  rcases slt_tri h2 with q | q
  · exact q
  · exact absurd q h1

/-! ### sorted(pairs) -/
/-- a list of pairs (length, text), each a tuple of its own, sorted -/
def rSortedIS (K : PySem.W.Frag) : List V → Hp → VK → Prop := fun vs H Q => ∃ (a : Addr) (zs : List (Addr × Wd)), vs = [V.ref a] ∧ SqL K H a (zs.map fun z => V.ref z.1) ∧ (∀ z ∈ zs, SqT K H z.1 [.int ((z.2.length : Nat) : Int), .str (S z.2)]) ∧ (zs.map (·.2)).Nodup ∧
  ∀ (ys : List (Addr × Wd)) (p : Addr), ys.Perm zs → (ys.map (·.2)).Pairwise slt → H p = none → Q (.ref p) (upd H p (.lst (ys.map fun z => V.ref z.1)))
theorem vals_refs {α : Type} (f : α → Addr) : ∀ (l : List α) {us : List Value}, Vals (l.map fun z => V.ref (f z)) us → us = l.map fun z => Value.ref (f z)
  | [], _, .nil => rfl
  | a :: l, _, .cons r t => by
    cases r
    rw [List.map_cons, ← vals_refs f l t]
theorem refs_vals {α : Type} (f : α → Addr) : ∀ (l : List α), Vals (l.map fun z => V.ref (f z)) (l.map fun z => Value.ref (f z))
  | [] => .nil
  | a :: l => .cons rfl (refs_vals f l)
theorem each_refs {α : Type} (f : α → Addr) : ∀ (l : List α), EachIs (fun v z => v = Value.ref (f z)) (l.map fun z => Value.ref (f z)) l
  | [] => .nil
  | a :: l => .cons rfl (each_refs f l)
theorem refs_each {α : Type} {f : α → Addr} : ∀ {l : List α} {vs : List Value}, EachIs (fun v z => v = Value.ref (f z)) vs l → vs = l.map fun z => Value.ref (f z)
  | [], _, .nil => rfl
  | a :: l, _, .cons r t => by
    rw [List.map_cons, ← refs_each t, r]
theorem each_of {α : Type} {R : Value → α → Prop} {f : α → Value} : ∀ {l : List α}, (∀ z ∈ l, R (f z) z) → EachIs R (l.map f) l
  | [], _ => .nil
  | a :: l, h => .cons (h a List.mem_cons_self) (each_of fun z m => h z (List.mem_cons_of_mem _ m))
theorem keyD_depth (l : Wd) : (keyD l).depth = 1 := by simp [keyD, PyData.depth, PyData.depthAll]
section
variable {X : Cx}
theorem reads_key {pins : List (Addr × Obj)} {s : Shared} {σ : L2.St} {H : Hp} (I : Inv X pins σ H s) {t : Addr} {l : Wd} (h : SqT X.K H t [.int ((l.length : Nat) : Int), .str (S l)]) : Reads s.heap (.ref t) (keyD l) [] := by
  obtain ⟨its, rv, ⟨o, ho, hc, n, hd⟩, _⟩ := I.tuple h
  cases rv with
  | cons r rr =>
    cases rr with
    | cons r2 rr =>
      cases rr
      obtain ⟨t1, rfl⟩ := r
      obtain ⟨t2, rfl⟩ := r2
      exact Reads.tuple ho hc hd (ReadsAll.cons (as := []) (bs := []) (Reads.int _ _) (ReadsAll.cons (as := []) (bs := []) (Reads.str _ _) ReadsAll.nil))
theorem cr_sortedIS (hu : X.A.units + 64 < cLine) : CallR X (.builtin "sorted") (rSortedIS X.K) := by
  intro pins s σ H vs us Q I r h
  obtain ⟨a, zs, rfl, hs, ht, hn, q⟩ := h
  obtain rfl := Vals.ref1 r
  obtain ⟨its, rv, hl, hz⟩ := I.list hs
  obtain rfl := vals_refs (fun z : Addr × Wd => z.1) zs rv
  have hlen : zs.length ≤ sizeLine := by
    rw [List.length_map] at hz
    exact hz
  refine sorted_data (bs := zs) (R := fun v z => v = Value.ref z.1) (enc := fun z => keyD z.2) hl.isList (each_refs _ zs) (each_of fun z m => ⟨[], reads_key I (ht z m)⟩) (AllAlike.of fun _ _ => by simp [alike, alikeAll, keyD]) (Sortable.tuples fun _ => ⟨_, _, rfl⟩) hlen (fun z _ => by rw [keyD_depth]; omega) fun out hol ho => ?_
  obtain ⟨h1, h2⟩ := sorted_by (fun z : Addr × Wd => z.2) zs hn
  generalize zs.mergeSort (dataLe false fun z => keyD z.2) = ys at h1 h2 ho
  obtain rfl := refs_each ho
  obtain ⟨ep, he'⟩ := PyProof.Rows.sortedAll_at s.heap (zs.map fun z => Value.ref z.1) (ys.map fun z => Value.ref z.1).toArray
  have hlen2 : (ys.map fun z => V.ref z.1).length ≤ sizeLine := by
    rw [List.length_map, h1.length_eq]
    exact hlen
  exact ⟨.ref _, upd H (s.heap.objs.size + 1) (.lst (ys.map fun z => V.ref z.1)), I.laid (t' := s.toks) (fun _ _ => PyProof.Rows.sortedAll_old) (Nat.le_succ _) ⟨hlen2, _, ep, refs_vals (fun z : Addr × Wd => z.1) ys, he'⟩, rfl, q _ _ h1 h2 (I.hok.fresh (Nat.le_succ _))⟩
end
end K8
set_option Elab.async false
set_option linter.all false
set_option maxRecDepth 100000
set_option maxHeartbeats 4000000
/-! sorted(.., key=lambda x: (len(x), x)) -/
namespace K8
open PySem PySem.Spec PySem.W L2
open SX (S S_len S_cat S_inj)
/-- the lambda's body and names -/
abbrev lamB (a : Str) (p1 p2 p3 p4 p5 : Pos) (k : Nat) : Expr := .Tuple [.Call (.Name "len" p1) [.Name a p2] [] p3, .Name a p4] k p5
structure LamK (a : Str) (params : Arguments) (scope : Scope) : Prop where
  kind : scope.kind = .function
  co : scope.isCoroutine = false
  gen : scope.isGenerator = false
  nocell : ∀ x ∈ scope.names, x.2 ≠ .cell
  nofree : ∀ x ∈ scope.names, x.2 ≠ .free
  loc : scope.names.lookup a = some .local
  len : scope.names.lookup ("len" : Str) = some .globalImplicit
  dbg : (a == ("__debug__" : Str)) = false
  bind : ∀ (q : Str) (body : Expr) (pm cv ctv v : Value), bindArgs (kla_fn "<lambda>" q params body scope [] pm cv ctv) ⟨[v], []⟩ = pure [(a, v)]
section
variable {prog : Program} {w : World} {A : Around} {s : Shared}
theorem lam_key {mg mb : Str → Option Value} {a qual : Str} {params : Arguments} {scope : Scope} {f c' : Addr} {pm ctv : Value} {p1 p2 p3 p4 p5 : Pos} {k : Nat} {l : Wd} {t : Tok} (L : LamK a params scope) (hroom : A.depth < recursionLimit)
    (ho : s.heap.get? f = some (kla_obj "<lambda>" qual params (lamB a p1 p2 p3 p4 p5 k) scope [] pm c' ctv)) (hcd : s.heap.CodeRec (.ref c') qual) (hg : s.heap.Ns mainGlobals mg) (hb : s.heap.Ns builtinsNs mb) (hmg : mg "len" = none) (hmb : mb "len" = some (.builtin "len")) (hlim : s.heap.NoLimit) (hl : l.length ≤ sizeLine) :
    wpAny (model prog w) A (call (.ref f) [.str (S l) t]) (KeyPure (keyD l) s) (fun _ _ => False) s := by
  have rc : codeAny (model prog w) A (.call (.ref f) ⟨[.str (S l) t], []⟩) (fun r s' => ∃ v, r = .ok (.ret v) ∧ KeyPure (keyD l) s v s') s := by
    refine kla_callFunE hroom ho rfl L.co L.gen rfl hcd ?_
    rw [L.bind]
    refine wpAny_pure (wpAny_newFunctionEnv L.nocell (fun x hx => ?_) (fun h₁ hns hsb => ⟨hlim.fresh _ hsb, ?_⟩) L.kind)
    · rw [List.mem_singleton.mp hx]
      exact L.loc
    · have kp : ∀ b o, s.heap.get? b = some o → h₁.get? b = some o := fun b o e => hsb.extBut b o (Nat.ne_of_lt (Heap.lt_size e)) (Heap.get?_push_of_some _ e)
      show codeAny _ _ (.expr (lamB a p1 p2 p3 p4 p5 k) (envX qual scope s.heap.objs.size f (.ref c') [])) _ _
      have nm : ∀ {Q : Value → Shared → Prop} {E : Value → Shared → Prop} {A' : Around} {p : Pos} {h : Heap} {tk : Nat}, h.Ns s.heap.objs.size (fun x => [(a, Value.str (S l) t)].reverse.lookup x) → Q (.str (S l) t) { s with heap := h, toks := tk } →
          wpAny (model prog w) A' (eval (.Name a p) (envX qual scope s.heap.objs.size f (.ref c') [])) Q E { s with heap := h, toks := tk } := by
        intro Q E A' p h tk hn q
        have kl : (envX qual scope s.heap.objs.size f (.ref c') []).kindOf a = some .local := L.loc
        refine wpAny_Name (wpAny_loadName_local L.kind kl hn (v := .str (S l) t) ?_ q) L.dbg
        show List.lookup a [(a, Value.str (S l) t)] = _
        simp
      refine kla_codeExpr ?_
      refine wpAny_Tuple_spliced ?_
      refine Calls.spliced_cons ?_
      refine wpAny_Call_Name_kw (Calls.Name_function_global L.kind L.len (Calls.loadGlobal_builtin (hg.keeps kp) hmg (hb.keeps kp) hmb ?_))
      refine PyProof.Rows.callWith_builtin1 ?_ rfl rfl
      refine Calls.spliced_cons (nm hns (Calls.spliced_nil ?_))
      refine PySem.P.len_str (by rw [S_len]; have := sizeLine_eq; omega) ?_
      refine Calls.spliced_cons (nm hns (Calls.spliced_nil ?_))
      refine ⟨(show 2 ≤ sizeLine by decide), ?_⟩
      refine ⟨_, rfl, _, _, rfl, fun b o e => Heap.get?_push_of_some _ (kp b o e), ?_⟩
      have e1 : (((S l).length : Nat) : Int) = ((l.length : Nat) : Int) := by rw [S_len]
      rw [e1]
      exact Reads.tuple (Heap.get?_push_size _ rfl) rfl rfl (ReadsAll.cons (as := []) (bs := []) (Reads.int _ _) (ReadsAll.cons (as := []) (bs := []) (Reads.str _ _) ReadsAll.nil))
  refine wpAny_call (codeAny_mono rc fun r s' hq => ?_)
  obtain ⟨v, rfl, hq⟩ := hq
  exact hq
end
/-- texts as values -/
abbrev txs (ks : List Wd) : List V := ks.map fun k => V.str (S k)
def IsT (v : Value) (k : Wd) : Prop := ∃ t, v = Value.str (S k) t
theorem strs_each : ∀ {ks : List Wd} {us : List Value}, Vals (txs ks) us → EachIs IsT us ks
  | [], _, .nil => .nil
  | k :: ks, _, .cons r t => .cons r (strs_each t)
theorem each_strs : ∀ {ks : List Wd} {us : List Value}, EachIs IsT us ks → Vals (txs ks) us
  | [], _, .nil => .nil
  | k :: ks, _, .cons r t => .cons r (each_strs t)
theorem keysD (ks : List Wd) : AllAlike (ks.map keyD) := AllAlike.of fun _ _ => by simp [alike, alikeAll, keyD]
theorem keysS (ks : List Wd) : Sortable (ks.map keyD) := Sortable.tuples fun _ => ⟨_, _, rfl⟩
theorem sorted_by' (ks : List Wd) (hn : ks.Nodup) : (ks.mergeSort (dataLe false keyD)).Perm ks ∧ (ks.mergeSort (dataLe false keyD)).Pairwise slt := by
  obtain ⟨h1, h2⟩ := sorted_by (fun k : Wd => k) ks (by simpa using hn)
  exact ⟨h1, by simpa using h2⟩
open LamX in
def tSortK (K : PySem.W.Frag) (T : List (Addr × Str)) (te : TE) : TE := fun σ H Q => te σ H fun v H1 => Tabs T H1 ∧ ∀ H2, ExtN H1 H2 → Tabs T H2 → ∃ (d : Addr) (ks : List Wd), v = .ref d ∧
  (SqL K H2 d (txs ks) ∨ ∃ kvs : List (Key × V), Rd H2 d (.dK kvs) ∧ kvs.map (·.1) = ks.map fun k => Sum.inr (S k)) ∧ ks.Nodup ∧ (∀ k ∈ ks, k.length ≤ sizeLine) ∧
  ∀ (ys : List Wd) (p : Addr), ys.Perm ks → ys.Pairwise slt → H2 p = none → Q (.ref p) (upd H2 p (.lst (txs ys)))
section
variable {X : Cx} {e : Expr} {te : TE}
theorem in1_depth (A : Around) : A.in1.depth = A.depth := rfl
theorem key_call {pins : List (Addr × Obj)} {s : Shared} {σ : L2.St} {H : Hp} (I : Inv X pins σ H s) {A : Around} (hA : A.depth < recursionLimit) {a qual : Str} {params : Arguments} {scope : Scope} {f c' : Addr} {pm ctv : Value} {p1 p2 p3 p4 p5 : Pos} {k : Nat} (L : LamK a params scope)
    (ho : s.heap.get? f = some (kla_obj "<lambda>" qual params (lamB a p1 p2 p3 p4 p5 k) scope [] pm c' ctv)) (hc : H c' = some (LamX.CodeO c' qual)) (hmg : X.mg "len" = none) {h : Heap} {tk : Nat} (kp : ∀ b o, s.heap.get? b = some o → h.get? b = some o) {v : Value} {l : Wd} (hv : IsT v l) (hl : l.length ≤ sizeLine) :
    wpAny (model X.prog X.w) A (call (.ref f) [v]) (KeyPure (keyD l) { s with heap := h, toks := tk }) (fun _ _ => False) { s with heap := h, toks := tk } := by
  obtain ⟨t, rfl⟩ := hv
  obtain ⟨mb, hb, hbb⟩ := I.mod.blt
  obtain ⟨⟨oc, vs, u, hoc, hdc, hvc⟩, _, _⟩ := I.hok c' _ hc
  exact lam_key (s := { s with heap := h, toks := tk }) L hA (kp _ _ ho) ⟨c', oc, vs, u, rfl, kp _ _ hoc, hdc, hvc⟩ (I.mod.glob.keeps fun b o e => kp _ _ (I.bk b o e)) (hb.keeps fun b o e => kp _ _ (I.bk b o e)) hmg ((hbb "len" (by decide)).trans PySem.boot_len) (I.nolimit.keeps kp) hl
theorem sort_list {pins : List (Addr × Obj)} {s : Shared} {σ : L2.St} {H : Hp} (I : Inv X pins σ H s) (hr : Room 1 X.A) {a qual : Str} {params : Arguments} {scope : Scope} {f c' : Addr} {pm ctv : Value} {p1 p2 p3 p4 p5 : Pos} {k : Nat} (L : LamK a params scope)
    (ho : s.heap.get? f = some (kla_obj "<lambda>" qual params (lamB a p1 p2 p3 p4 p5 k) scope [] pm c' ctv)) (hc : H c' = some (LamX.CodeO c' qual)) (hmg : X.mg "len" = none) {d : Addr} {ks : List Wd} (hd : SqL X.K H d (txs ks)) (hn : ks.Nodup) (hl : ∀ k ∈ ks, k.length ≤ sizeLine) {Q : VK}
    (q : ∀ (ys : List Wd) (p : Addr), ys.Perm ks → ys.Pairwise slt → H p = none → Q (.ref p) (upd H p (.lst (txs ys)))) :
    wpAny (model X.prog X.w) X.A (call (.builtin "sorted") [.ref d] [(Str.ofString "key", .ref f)]) (EP X pins σ Q) X.xe s := by
  obtain ⟨its, rv, hp, hz⟩ := I.list hd
  have hlen : ks.length ≤ sizeLine := by
    rw [List.length_map] at hz
    exact hz
  have hdp := hr.depth
  have hun := hr.units
  refine sorted_key_data (b := false) (R := IsT) keyD hp.isList (strs_each rv) (keysD ks) (keysS ks) hlen (fun x _ => by rw [keyD_depth]; omega) (PyProof.Rows.ksk_s1 _ _) (fun _ => PyProof.Rows.ksk_l1 _ _) (fun _ => PyProof.Rows.ksk_t1 _ _)
    (fun v x hR hx h tk kp => key_call (A := X.A.in1.in1) I hdp L ho hc hmg kp hR (hl x hx)) fun out c h' tk kp _ hD hol ho2 => ?_
  obtain ⟨h1, h2⟩ := sorted_by' ks hn
  generalize ks.mergeSort (dataLe false keyD) = ys at h1 h2 ho2
  have hlen2 : (txs ys).length ≤ sizeLine := by
    rw [List.length_map, h1.length_eq]
    exact hlen
  exact ⟨.ref _, upd H (s.heap.objs.size + 1) (.lst (txs ys)), I.laid (t' := tk) kp (Nat.le_succ _) ⟨hlen2, out, c, each_strs ho2, hD⟩, rfl, q _ _ h1 h2 (I.hok.fresh (Nat.le_succ _))⟩
theorem sort_dict {pins : List (Addr × Obj)} {s : Shared} {σ : L2.St} {H : Hp} (I : Inv X pins σ H s) (hcalm : X.calm = true) (hr : Room 1 X.A) {a qual : Str} {params : Arguments} {scope : Scope} {f c' : Addr} {pm ctv : Value} {p1 p2 p3 p4 p5 : Pos} {k : Nat} (L : LamK a params scope)
    (ho : s.heap.get? f = some (kla_obj "<lambda>" qual params (lamB a p1 p2 p3 p4 p5 k) scope [] pm c' ctv)) (hc : H c' = some (LamX.CodeO c' qual)) (hmg : X.mg "len" = none) {d : Addr} {ks : List Wd} {kvs : List (Key × V)} (hd : Rd H d (.dK kvs)) (hks : kvs.map (·.1) = ks.map fun k => Sum.inr (S k)) (hn : ks.Nodup) (hl : ∀ k ∈ ks, k.length ≤ sizeLine) {Q : VK}
    (q : ∀ (ys : List Wd) (p : Addr), ys.Perm ks → ys.Pairwise slt → H p = none → Q (.ref p) (upd H p (.lst (txs ys)))) :
    wpAny (model X.prog X.w) X.A (call (.builtin "sorted") [.ref d] [(Str.ofString "key", .ref f)]) (EP X pins σ Q) X.xe s := by
  have hdp := hr.depth
  have hun := hr.units
  obtain ⟨z, lo, vs, rel, dd⟩ := dk_rd I.hok hd
  obtain ⟨ep, hat⟩ := dd.dictAt
  have hkeys : vs.map (·.1) = ks.map fun k => Sum.inr (S k) := rel.keys.symm.trans hks
  have hvl : vs.length = ks.length := by
    have e := congrArg List.length hkeys
    rw [List.length_map, List.length_map] at e
    exact e
  have hlen : ks.length ≤ sizeLine := by
    rw [← hvl, ← rel.length]
    exact z
  refine PyProof.Rows.call_function_entry_kw PyProof.Rows.kind_sorted PyProof.Rows.plain_sorted PyProof.Rows.entry_sorted (PyProof.Rows.ksk_s1 _ _) ?_
  unfold Builtin.«sorted»
  refine wpAny_bind (m := checkCount "sorted" 1 1 _) (wpAny_pure ?_)
  refine wpAny_bind (PySem.W.kdu_collect (A := X.A.in1) (PySem.W.kdl_dict (knd := mixKind X.prog X.w) (kvs := vs) (ep := ep) lo) (I.ok.hd hcalm) hat (by rw [hvl]; exact hlen) fun h' tk acc hk hacc => ?_)
  have hal : acc.toList.length = ks.length := by rw [Array.length_toList, hacc.1, hvl]
  have each_at : ∀ {us : List Value} {ks : List Wd}, us.length = ks.length → (∀ (j : Nat) (v : Value), us[j]? = some v → ∃ x, ks[j]? = some x ∧ IsT v x) → EachIs IsT us ks := by
    intro us
    induction us with
    | nil =>
      intro ks hl _
      cases ks with
      | nil => exact .nil
      | cons _ _ => simp at hl
    | cons u us ih =>
      intro ks hl h
      cases ks with
      | nil => simp at hl
      | cons k ks =>
        obtain ⟨x, e1, e2⟩ := h 0 u rfl
        have e1' : k = x := Option.some.inj e1
        subst e1'
        refine .cons e2 (ih (by simpa using hl) fun j v e => ?_)
        obtain ⟨x, a, b⟩ := h (j + 1) v (by simpa using e)
        exact ⟨x, by simpa using a, b⟩
  have hS : EachIs IsT acc.toList ks := each_at hal fun j v e => by
    obtain ⟨k, x, e1, e2⟩ := hacc.2 j v (by rw [← Array.getElem?_toList]; exact e)
    have e3 : (vs.map (·.1))[j]? = some k := by
      rw [List.getElem?_map, e1]
      rfl
    rw [hkeys, List.getElem?_map] at e3
    cases e4 : ks[j]? with
    | none =>
      rw [e4] at e3
      cases e3
    | some y =>
      rw [e4] at e3
      have e5 : Sum.inr (S y) = k := Option.some.inj e3
      subst e5
      obtain ⟨t, ev⟩ := Value.isStrOf_shape (x := S y) (v := v) e2
      exact ⟨y, rfl, t, ev⟩
  have I1 : Inv X pins σ H { s with heap := h', toks := tk } := I.kept hk
  refine wpAny_bind (wpAny_newList ?_ (by rw [hal]; exact hlen))
  have hoL : (h'.push (PyProof.Rows.seqObj "list" acc.toList.toArray 0)).get? h'.objs.size = some (PyProof.Rows.seqObj "list" acc.toList.toArray 0) := Heap.get?_push_size _ rfl
  show wpAny _ _ _ _ _ { s with heap := h'.push (PyProof.Rows.seqObj "list" acc.toList.toArray 0), toks := tk }
  refine wpAny_bind (wpAny_holding (PyProof.Rows.wpAny_call_entry_kw PyProof.Rows.slot_list_sort ⟨_, hoL, rfl⟩ PyProof.Rows.entry_list_sort ?_ (PyProof.Rows.ksk_l1 _ _)))
  rw [PyProof.Rows.ksk_t1]
  have old : ∀ {g : Heap}, KeepsBut h'.objs.size (h'.push (PyProof.Rows.seqObj "list" acc.toList.toArray 0)) g → ∀ b o, h'.get? b = some o → g.get? b = some o := fun {g} kp b o e => kp b o (Nat.ne_of_lt (Heap.lt_size e)) (Heap.get?_push_of_some _ e)
  refine keyH_tree (b := false) (kz := ks.map keyD) (s := { s with heap := h'.push (PyProof.Rows.seqObj "list" acc.toList.toArray 0), toks := tk }) hoL (by rw [List.length_map, hal]) (by rw [hal]; exact hlen) (keysD ks) (keysS ks) (bound_map (A := X.A.in1.in1) (enc := keyD) (bs := ks) fun x _ => by
      rw [keyD_depth]
      show X.A.units + 1 + 1 + 1 < cLine
      omega)
    (keyH_turns (s := { s with heap := h'.push (PyProof.Rows.seqObj "list" acc.toList.toArray 0), toks := tk }) hS fun v x hR hx g tg kp => key_call (A := X.A.in1.in1) I hdp L ho hc hmg (fun b o e => old kp b o (hk b o e)) hR (hl x hx)) fun g tg out c kp hD ko => ⟨_, rfl, ?_⟩
  obtain ho2 := keyedOut_each keyD ko hS
  obtain ⟨h1, h2⟩ := sorted_by' ks hn
  generalize ks.mergeSort (dataLe false keyD) = ys at h1 h2 ho2
  have hlen2 : (txs ys).length ≤ sizeLine := by
    rw [List.length_map, h1.length_eq]
    exact hlen
  exact wpAny_pure ⟨_, rfl, .ref h'.objs.size, upd H h'.objs.size (.lst (txs ys)), I1.laid (t' := tg) (fun b u e => old kp b u e) (Nat.le_refl _) ⟨hlen2, out, c, each_strs ho2, hD⟩, rfl, q _ _ h1 h2 (I1.hok.fresh (Nat.le_refl _))⟩
open LamX in
theorem ExtN.seqL {K : PySem.W.Frag} {H H' : Hp} {a : Addr} {xs : List V} (e : ExtN H H') (h : SqL K H a xs) : SqL K H' a xs := by
  rcases h with (h | ⟨o, h⟩) | h
  · exact .inl (.inl (e _ _ h fun ps z => by cases z))
  · exact .inl (.inr ⟨o, e _ _ h fun ps z => by cases z⟩)
  · exact .inr h
open LamX in
theorem pe_sortK {T : List (Addr × Str)} {x a : Str} {c P : Addr} {params : Arguments} {scope : Scope} {p lpos kpos pos p1 p2 p3 p4 p5 : Pos} {k : Nat} (he : PE X e te) (hcalm : X.calm = true) (hr : Room 1 X.A) (L : LamK a params scope) (TB : TabB X.base X.mg c P) (hcode : X.env.code = .ref c)
    (hmT : (P, X.env.qual ++ "<lambda>") ∈ T) (hu : ∀ p ∈ T, p.1 = P → p.2 = X.env.qual ++ "<lambda>") (hdef : defaultsOf params X.env = ([], [])) (hg : Gl X "sorted") (hm : X.mg "sorted" = none) (hmg : X.mg "len" = none)
    (hb : backTo pos (starEach [e] X.env) = (false, eval e X.env) :: backTo pos (starEach [] X.env) := by rfl) (hpl : (backTo pos (starEach [e] X.env)).any (·.1) = false := by rfl)
    (hall : (backToKw pos (keywordEach [⟨some ("key" : Str), .Lambda params (lamB a p1 p2 p3 p4 p5 k) scope lpos, kpos⟩] X.env)).all (·.1.isSome) = true := by rfl) (hnone : (backToKw pos (keywordEach [⟨some ("key" : Str), .Lambda params (lamB a p1 p2 p3 p4 p5 k) scope lpos, kpos⟩] X.env)).any (·.1.isNone) = false := by rfl)
    (hks : (backToKw pos (keywordEach [⟨some ("key" : Str), .Lambda params (lamB a p1 p2 p3 p4 p5 k) scope lpos, kpos⟩] X.env)).filterMap (·.1) = [Str.ofString "key"] := by rfl) :
    PE X (.Call (.Name "sorted" p) [e] [⟨some ("key" : Str), .Lambda params (lamB a p1 p2 p3 p4 p5 k) scope lpos, kpos⟩] pos) (tSortK X.K T te) := by
  refine ⟨fun pins s σ H Q I h => ?_⟩
  have hfree : ∀ y ∈ scope.names, y.2 = .free → ∃ c, X.env.cells.lookup y.1 = some c := fun y hy e => absurd e (L.nofree y hy)
  refine wpAny_Call_Name_kw (ld_blt I hg hm (u := .builtin "sorted") (by decide +kernel) ?_)
  refine PyProof.Rows.callWith_kw ?_ hb hpl hall hnone
  rw [hks, hb]
  refine Calls.spliced_cons (thn (he.run pins s σ H _ I h) fun u s1 ⟨v, H1, I1, r1, hT, q1⟩ => Calls.spliced_nil ?_)
  show wpAny _ _ (evalAll ((do let v ← eval (.Lambda params (lamB a p1 p2 p3 p4 p5 k) scope lpos) X.env; standAt pos; pure v) :: (backToKw pos (keywordEach [] X.env)).map (·.2))) _ _ s1
  refine wpAny_evalAll_cons (wpAny_bind (lam_make2 I1 TB hcode hmT hu hT hdef hfree fun f c' pm' ctv H2 s2 I2 eN T2 hf hfn hfr hco => wpAny_bind (wpAny_standAt (wpAny_pure ?_))))
  refine wpAny_evalAll_nil ?_
  have ecl : cloFrom X.env.cells scope.names [] = [] := by
    have no : ∀ p : Str × Addr, p ∉ cloFrom X.env.cells scope.names [] := fun p hp => by
      rcases cloFrom_mem (n := p.1) (c := p.2) hp with z | ⟨z, _⟩
      · simp at z
      · exact L.nofree _ z rfl
    exact List.eq_nil_iff_forall_not_mem.mpr no
  rw [ecl] at hf
  obtain ⟨d, ks, rfl, hd, hn, hl, q⟩ := q1 H2 eN T2
  obtain rfl : u = Value.ref d := r1
  show wpAny _ _ (call (.builtin "sorted") [.ref d] [(Str.ofString "key", .ref f)]) _ _ _
  rcases hd with hd | ⟨kvs, hd, hks⟩
  · exact sort_list I2 hr L hf hco hmg hd hn hl q
  · exact sort_dict I2 hcalm hr L hf hco hmg hd hks hn hl q
end
end K8
set_option Elab.async false
set_option linter.all false
set_option maxRecDepth 100000
set_option maxHeartbeats 4000000
/-! set(text), sorted of such a set. -/
namespace K8
open PySem PySem.Spec PyProof.Rows L2
open SX (S S_len S_cat S_inj)
def keyT (e : Int × Value) : Str := match e.2 with | .str k _ => k | _ => Str.empty
def GoodT (w : World) (e : Int × Value) : Prop := ∃ k tk, e.2 = Value.str k tk ∧ e.1 = hashStr w k
/-- the set of texts at a: M its members, at most n; its table rises and can be walked -/
def SetT (w : World) (h : Heap) (a : Addr) (M : Str → Prop) (n : Nat) : Prop :=
  ∃ o es ep t, h.get? a = some o ∧ o.ExactSet ∧ o.data = .set es ep t ∧ (∀ e ∈ es.toList, GoodT w e) ∧ (es.toList.map keyT).Nodup ∧ (∀ k, M k ↔ k ∈ es.toList.map keyT) ∧
    es.size < scanBound ∧ t.fits es.size = true ∧ es.size ≤ n ∧ Ris t.place.toList ∧ (w.params.followText "set-order" = true ∨ t.led = true)
section
variable {P : Program} {w : World} {h h' : Heap} {a : Addr} {M : Str → Prop} {n : Nat}
theorem SetT.at (R : SetT w h a M n) (k : ∀ o, h.get? a = some o → h'.get? a = some o) : SetT w h' a M n := by
  obtain ⟨o, es, ep, t, ho, r⟩ := R
  exact ⟨o, es, ep, t, k o ho, r⟩
theorem SetT.congr {M' : Str → Prop} (R : SetT w h a M n) (e : ∀ k, M' k ↔ M k) : SetT w h a M' n := by
  have q : M' = M := funext fun k => propext (e k)
  rw [q]
  exact R
theorem goodT_elems {l : List (Int × Value)} (g : ∀ e ∈ l, GoodT w e) : ElemsOf (strKind P w) l := fun e he => by
  obtain ⟨k, tk, h1, h2⟩ := g e he
  refine ⟨⟨k, by rw [h1]; exact Froz.is_str k tk, h2⟩, ?_⟩
  rw [h1]
  rfl
theorem goodT_is {e : Int × Value} (g : GoodT w e) (k : Str) : (strKind P w).is k e.2 = true ↔ keyT e = k := by
  obtain ⟨k0, tk, h1, _⟩ := g
  unfold keyT
  rw [h1]
  constructor
  · intro q
    exact (strKind P w).inj (.str k0 tk) k0 k (Froz.is_str k0 tk) q
  · intro q
    have q' : k0 = k := q
    rw [← q']
    exact Froz.is_str k0 tk
theorem goodT_mem {l : List (Int × Value)} (g : ∀ e ∈ l, GoodT w e) (k : Str) : k ∈ l.map keyT ↔ ∃ e ∈ l, (strKind P w).is k e.2 = true := by
  rw [List.mem_map]
  constructor
  · rintro ⟨e, he, q⟩
    exact ⟨e, he, (goodT_is (g e he) k).2 q⟩
  · rintro ⟨e, he, q⟩
    exact ⟨e, he, (goodT_is (g e he) k).1 q⟩
end
section
variable {P : Program} {w : World} {A : Around} {E : Value → Shared → Prop} {s : Shared} {a : Addr} {M : Str → Prop} {n : Nat}
theorem setT_add_tail {g : Bool → Sem Unit} (hg : ∀ (b : Bool) (s₁ : Shared) (Q' : Unit → Shared → Prop), Q' () s₁ → wpAny (model P w) A (g b) Q' E s₁)
    {o : Obj} {es : Array (Int × Value)} {ep : Nat} {t : SetTable} (ho : s.heap.get? a = some o) (hex : o.ExactSet) (hd : o.data = .set es ep t)
    {es1 : Array (Int × Value)} {t2 : SetTable} {M' : Str → Prop} (g1 : ∀ e ∈ es1.toList, GoodT w e) (nd1 : (es1.toList.map keyT).Nodup) (m1 : ∀ k, M' k ↔ k ∈ es1.toList.map keyT)
    (hb1 : es1.size < scanBound) (hf2 : t2.fits es1.size = true) (hr : Ris t2.place.toList) (hl : w.params.followText "set-order" = true ∨ t2.led = true) {wasDummy : Bool} {R : Option Bool → Shared → Prop}
    (hR : ∀ h', Heap.SameBut a s.heap h' → SetT w h' a M' es1.size → R (some true) { s with heap := h' }) :
    wpAny (model P w) A (do
        storeSet a es1 t2
        if (!wasDummy && t2.tooFull) = true then do
            g (relayAll t2 es1 (SetTable.grown es1.size)).2.2
            storeSet a (relayAll t2 es1 (SetTable.grown es1.size)).1 (relayAll t2 es1 (SetTable.grown es1.size)).2.1
            pure (some true)
          else pure (some true)) R E s := by
  refine wpAny_bind (wpAny_storeSet_of ho hd ?_ (fits_of_scanBound hb1))
  have ho1 := store_at (es' := es1) (t' := t2) ho hd
  have sb1 := Heap.SameBut.update s.heap a (Obj.putSet es1 t2)
  split
  · have pm := relayAll_perm t2 es1 (SetTable.grown es1.size)
    have hf3 := relayAll_fits t2 es1 (SetTable.grown es1.size)
    have hr3 := relayAll_ris t2 es1 (SetTable.grown es1.size)
    have hl3 := relayAll_led t2 es1 (SetTable.grown es1.size)
    generalize relayAll t2 es1 (SetTable.grown es1.size) = Z at pm hf3 hr3 hl3 ⊢
    obtain ⟨es2, t3, gave⟩ := Z
    dsimp only at pm hf3 hr3 hl3 ⊢
    have hsz : es2.size = es1.size := by rw [← Array.length_toList, pm.length_eq, Array.length_toList]
    have hb2 : es2.size < scanBound := by
      rw [hsz]
      exact hb1
    refine wpAny_bind (hg _ _ _ ?_)
    refine wpAny_bind (wpAny_storeSet_of ho1 rfl ?_ (fits_of_scanBound hb2))
    have ho2 := store_at (es' := es2) (t' := t3) ho1 rfl
    refine wpAny_pure (hR _ (sb1.trans (Heap.SameBut.update _ a _)) ?_)
    exact ⟨_, es2, _, t3, ho2, hex, rfl, fun e he => g1 e (pm.mem_iff.mp he), (pm.map keyT).nodup_iff.mpr nd1, fun k => (m1 k).trans (pm.map keyT).mem_iff.symm, hb2, hf3, Nat.le_of_eq hsz, hr3,
      hl.imp id fun z => by rw [hl3]; exact z⟩
  · exact wpAny_pure (hR _ sb1 ⟨_, es1, _, t2, ho1, hex, rfl, g1, nd1, m1, hb1, hf2, Nat.le_refl _, hr, hl⟩)
theorem setT_add_hashed {k : Str} {tk : Tok} {Q : Bool → Shared → Prop} (R : SetT w s.heap a M n) (room : n + 1 < scanBound)
    (hQ : ∀ h' b, Heap.SameBut a s.heap h' → SetT w h' a (fun j => M j ∨ j = k) (n + 1) → Q b { s with heap := h' }) :
    wpAny (model P w) A (setAddHashed a (.str k tk) ((strKind P w).hash k)) Q E s := by
  obtain ⟨o, es, ep, t, ho, hex, hd, g, nd, hm, hb, hf, hn, hr, hl⟩ := R
  have hkey : (strKind P w).is k (.str k tk) = true := Froz.is_str k tk
  have hsc : (Value.str k tk).scannable = true := rfl
  have hel : ElemsOf (strKind P w) es.toList := goodT_elems g
  unfold setAddHashed setAddHashedIn
  refine wpAny_holding (wpAny_bind (wpAny_setState_of ho hd hf ?_))
  dsimp only
  rw [byScan_of hsc hb hel]
  simp only [↓reduceIte]
  unfold setAddByScan
  refine wpAny_bind ?_
  refine wpAny_bind (wpAny_rule ?_)
  refine wpAny_bind (wpAny_setScan_of hkey ho hd hf hel ?_)
  cases hfi : List.findIdx? (fun e => (strKind P w).is k e.2) es.toList with
  | some j =>
    dsimp only
    obtain ⟨hj, pj, _⟩ := List.findIdx?_eq_some_iff_getElem.mp hfi
    have hMk : M k := (hm k).2 ((goodT_mem (P := P) (w := w) g k).2 ⟨es.toList[j], List.getElem_mem hj, pj⟩)
    refine wpAny_pure (wpAny_pure ?_)
    exact hQ s.heap _ (Heap.SameBut.refl a s.heap) ⟨o, es, ep, t, ho, hex, hd, g, nd, fun i => by
      rw [← hm i]
      exact ⟨fun z => z.elim id (fun e => e ▸ hMk), .inl⟩, hb, hf, Nat.le_succ_of_le hn, hr, hl⟩
  | none =>
    dsimp only
    have hnk : k ∉ es.toList.map keyT := fun z => by
      obtain ⟨e, he, q⟩ := (goodT_mem (P := P) (w := w) g k).1 z
      have c := List.findIdx?_eq_none_iff.mp hfi e he
      rw [q] at c
      cases c
    have hgw : ∀ (b : Bool) {s₁ : Shared} {Q' : Unit → Shared → Prop}, Q' () s₁ → wpAny (model P w) A (match b with | true => rule "set.scan.the-table-gave-way" | false => pure ()) Q' E s₁ :=
      fun b s₁ Q' q => by cases b <;> first | exact wpAny_pure q | exact wpAny_rule q
    have pm := layNew_perm t es ((strKind P w).hash k) (.str k tk)
    have hf1 := layNew_fits t es ((strKind P w).hash k) (.str k tk)
    have hr1 := layNew_ris t es ((strKind P w).hash k) (.str k tk) hr
    have hl1 := layNew_led t es ((strKind P w).hash k) (.str k tk)
    generalize layNew t es ((strKind P w).hash k) (.str k tk) = Z at pm hf1 hr1 hl1 ⊢
    obtain ⟨es1, t1, wasDummy, gave⟩ := Z
    dsimp only at pm hf1 hr1 hl1 ⊢
    rw [Array.toList_push] at pm
    have pc : es1.toList.Perm (((strKind P w).hash k, Value.str k tk) :: es.toList) := pm.trans (List.perm_append_singleton _ _)
    have pk : (es1.toList.map keyT).Perm (k :: es.toList.map keyT) := pc.map keyT
    have g1 : ∀ e ∈ es1.toList, GoodT w e := fun e he => by
      rcases List.mem_cons.mp (pc.mem_iff.mp he) with z | z
      · rw [z]
        exact ⟨k, tk, rfl, rfl⟩
      · exact g e z
    have nd1 : (es1.toList.map keyT).Nodup := pk.nodup_iff.mpr (List.nodup_cons.mpr ⟨hnk, nd⟩)
    have m1 : ∀ i, (M i ∨ i = k) ↔ i ∈ es1.toList.map keyT := fun i => by
      rw [hm i, pk.mem_iff, List.mem_cons]
      exact Or.comm
    have hsz : es1.size ≤ n + 1 := by
      have e : es1.size = es.size + 1 := by rw [← Array.length_toList, pc.length_eq, List.length_cons, Array.length_toList]
      omega
    have hb1 : es1.size < scanBound := Nat.lt_of_le_of_lt hsz room
    have hled : w.params.followText "set-order" = true ∨ t1.led = true := hl.imp id fun z => by rw [hl1]; exact z
    have fin : ∀ h', Heap.SameBut a s.heap h' → SetT w h' a (fun j => M j ∨ j = k) es1.size → Q true { s with heap := h' } := fun h' sb r => by
      obtain ⟨o', es', ep', t', r1, r2, r3, r4, r5, r6, r7, r8, r9, r10⟩ := r
      exact hQ h' true sb ⟨o', es', ep', t', r1, r2, r3, r4, r5, r6, r7, r8, Nat.le_trans r9 hsz, r10⟩
    refine wpAny_bind (hgw _ ?_)
    split
    · refine wpAny_bind ?_
      rw [hashByValue_scannable 8 hsc]
      refine wpAny_pure ?_
      refine setT_add_tail ?_ ho hex hd g1 nd1 m1 hb1 ?_ ?_ ?_ ?_
      · intro b s₁ Q' q
        cases b <;> first | exact wpAny_pure q | exact wpAny_rule q
      · first | (split <;> first | exact hf1 | exact SetTable.fits_plain_off hf1) | exact hf1
      · first | (split <;> exact hr1) | exact hr1
      · first | (split <;> exact hled) | exact hled
      · intro h' sb r
        dsimp only
        exact wpAny_pure (fin h' sb r)
    · refine wpAny_bind (wpAny_pure ?_)
      simp only [↓reduceIte]
      refine setT_add_tail ?_ ho hex hd g1 nd1 m1 hb1 hf1 hr1 hled ?_
      · intro b s₁ Q' q
        cases b <;> first | exact wpAny_pure q | exact wpAny_rule q
      · intro h' sb r
        dsimp only
        exact wpAny_pure (fin h' sb r)
end
end K8
set_option Elab.async false
set_option linter.all false
set_option maxRecDepth 100000
set_option maxHeartbeats 4000000
/-! set(text), sorted of such a set. -/
namespace K8
open PySem PySem.Spec PyProof.Rows L2
open SX (S S_len S_cat S_inj)
theorem sub_str_set : isSubtype (.type "str") (.type "set") = pure false := by
  rw [isSubtype_type]
  kernel_rfl
theorem sub_str_frozenset : isSubtype (.type "str") (.type "frozenset") = pure false := by
  rw [isSubtype_type]
  kernel_rfl
/-- the texts of one sign of l -/
def Signs (l : Wd) (k : Str) : Prop := ∃ c, c ∈ l ∧ k = S [c]
section
variable {P : Program} {w : World} {A : Around} {E : Value → Shared → Prop} {s : Shared} {a : Addr} {M : Str → Prop} {n : Nat}
theorem setT_fresh {h : Heap} (w : World) : SetT w (h.push { cls := .type "set", dict := none, data := .set #[] 0 (.fresh 0 0 (!w.params.followText "set-order")) }) h.objs.size (fun _ => False) 0 :=
  ⟨_, #[], 0, _, Heap.get?_push_size _ rfl, ⟨rfl, rfl, rfl⟩, rfl, (fun e he => by simp at he), (by simp), (fun k => by simp), (by decide), (by rfl), Nat.le_refl _, List.Pairwise.nil, by
    show _ ∨ (!w.params.followText "set-order") = true
    cases w.params.followText "set-order"
    · exact .inr rfl
    · exact .inl rfl⟩
theorem code_set_led1 (v : Value) {Q₁ : Value → Shared → Prop}
    (h : Q₁ (.ref s.heap.objs.size) { s with heap := s.heap.push { cls := .type "set", dict := none, data := .set #[] 0 (.fresh 0 0 (!w.params.followText "set-order")) } }) :
    codeAny (model P w) A (.call (.builtin "set.__new__") ⟨[.type "set", v], []⟩) (wants Q₁ E) s := by
  refine codeAny_of_tree ?_
  show wpAny _ A.in1 (do checkBuiltinCall "set.__new__" ⟨[.type "set", v], []⟩; again (.builtin "set.__new__" ⟨[.type "set", v], []⟩)) _ _ s
  refine wpAny_bind (wpAny_of_eq (PySem.F.newCall_set_1 v) (wpAny_pure ⟨plainId_quiet PySem.F.plain_set_new _, codeAny_builtin PySem.F.entry_set_new ?_⟩))
  rw [Around.under_plainId PySem.F.plain_set_new _]
  unfold Builtin.«set.__new__» Builtin.Frozenset.newClass
  have hsub := sub_set_self
  obtain ⟨hp, g, d, tk, os⟩ := s
  dsimp only
  wp_walk
  refine wpAny_askSetting (wpAny_pure ?_)
  dsimp only
  simp only [newObj]
  refine wpAny_bind (wpAny_alloc (wpAny_pure ?_))
  exact wpAny_pure h
/-- the loop that fills a set from an iterator of signs -/
theorem setT_loop {I : Addr} {l : Wd} {St : Nat → Heap → Prop} {R : Result → Shared → Prop} (W : Walks P w A.in1 I [I] [I] (S l).cps.size (SignAt (S l)) St) (D : Addr) (hne : D ≠ I) (hb : l.length + 1 < scanBound) :
    ∀ (k i : Nat) (s : Shared), l.length - i = k → i ≤ l.length → St i s.heap → SetT w s.heap D (Signs (l.take i)) i →
      (∀ s', Moved [D, I] (fun a b => b = a) s s' → SetT w s'.heap D (Signs l) l.length → R (.ok (.ret .none)) s') →
      codeAny (model P w) A (.builtin "set.update.loop" ⟨[.ref D, .ref I], []⟩) R s := by
  have hz : (S l).cps.size = l.length := by simp [S]
  have hsub : ∀ b ∈ [I], b ∈ [D, I] := fun b hb => List.mem_cons_of_mem _ hb
  have W' := W.toS
  intro k
  induction k with
  | zero =>
    intro i s hk hi hst hS hR
    have hin : i = l.length := by omega
    subst hin
    refine codeAny_builtin PyProof.Rows.F.entry_set_update_loop ?_
    rw [Around.under_plainId PyProof.Rows.F.plain_set_update_loop _]
    show wpAny _ A.in1 (pyNext (.ref I) >>= _) _ _ s
    refine wpAny_bind (W'.done s _ _ (by show St _ s.heap; rw [hz]; exact hst) fun s' hm => ?_)
    show wpAny _ A.in1 (ret Value.none) _ _ s'
    rw [List.take_length] at hS
    exact wpAny_pure (hR s' (hm.mono hsub) (hS.at fun o e => hm.heap D _ (by simp [hne]) e))
  | succ k ih =>
    intro i s hk hi hst hS hR
    have hlt : i < l.length := by omega
    refine codeAny_builtin PyProof.Rows.F.entry_set_update_loop ?_
    rw [Around.under_plainId PyProof.Rows.F.plain_set_update_loop _]
    show wpAny _ A.in1 (pyNext (.ref I) >>= _) _ _ s
    refine wpAny_bind (W'.item i s _ _ (by rw [hz]; exact hlt) hst fun v s' hP hst' hm => ?_)
    obtain ⟨c, u, hc, rfl⟩ := hP
    have hc' : l[i]? = some c := by
      have : (S l).cps[i]? = l[i]? := by simp [S]
      rw [← this]
      exact hc
    have hS' : SetT w s'.heap D (Signs (l.take i)) i := hS.at fun o e => hm.heap D _ (by simp [hne]) e
    show wpAny _ A.in1 (holding [Value.str (S [c]) u] (setAdd D (.str (S [c]) u)) >>= _) _ _ s'
    refine wpAny_bind (wpAny_holding ?_)
    unfold setAdd
    refine wpAny_holding ?_
    refine wpAny_bind ((strKind P w).pyHash (k := S [c]) (Froz.is_str _ _) ?_)
    refine setT_add_hashed (s := { s' with toks := s'.toks + 1 }) hS' (by omega) fun h' b hsb hS2 => ?_
    have hSi : SetT w h' D (Signs (l.take (i + 1))) (i + 1) := hS2.congr fun k' => by
      have e : l.take (i + 1) = l.take i ++ [c] := by
        rw [List.take_add_one, hc']
        rfl
      unfold Signs
      rw [e]
      constructor
      · rintro ⟨d, hd, rfl⟩
        rcases List.mem_append.mp hd with q | q
        · exact .inl ⟨d, q, rfl⟩
        · rw [List.mem_singleton] at q
          subst q
          exact .inr rfl
      · rintro (⟨d, hd, rfl⟩ | rfl)
        · exact ⟨d, List.mem_append_left _ hd, rfl⟩
        · exact ⟨c, by simp, rfl⟩
    refine wpAny_pure ⟨plainId_quiet PyProof.Rows.F.plain_set_update_loop _, ih (i + 1) _ (by omega) hlt (W'.frame _ s' _ _ hst' (Nat.le_succ _) fun b hb o e => ?_) hSi fun s'' hm'' hS'' => ?_⟩
    · have hb' : b = I := by simpa using hb
      rw [hsb.2 b (by rw [hb']; exact hne.symm)]
      exact e
    · refine hR s'' (Moved.trans W'.gtrans ((hm.mono hsub).then_heap (Nat.le_succ _) fun b o hb e => ?_) hm'') hS''
      rw [hsb.2 b (fun h : b = D => hb (by rw [h]; exact List.mem_cons_self))]
      exact e
set_option maxHeartbeats 6400000 in
theorem call_set_text {l : Wd} {t : Tok} {Q : Value → Shared → Prop} (hh : A.handled = none) (hb : l.length + 1 < scanBound)
    (h : ∀ (h' : Heap) (tk : Nat), SetT w h' s.heap.objs.size (Signs l) l.length → (∀ b o, s.heap.get? b = some o → h'.get? b = some o) → Q (.ref s.heap.objs.size) { s with heap := h', toks := tk }) :
    wpAny (model P w) A (call (.type "set") [.str (S l) t]) Q E s := by
  obtain ⟨c, tl, hmro⟩ := PySem.F.called_set.mro
  have hmade := PySem.F.called_set.made
  have hsub := PySem.F.called_set.sub
  refine wpAny_call (codeAny_of_tree ?_)
  show wpAny _ _ (callAny (.type "set") _) _ _ _
  refine wpAny_pure ⟨Code.quiet_builtin _ (by decide +kernel), codeAny_builtin PySem.F.entry_type_call ?_⟩
  rw [Around.under_plain (weight_type_call_type "set" [.str (S l) t] []) rfl]
  have h1 := PySem.F.called_set.notType
  have h2 := PySem.F.called_set.canCreate
  have hct := PySem.F.typeCall_set_1 (.str (S l) t)
  repeat (any_goals (first | assumption | wp_step))
  refine codeAny_mono (code_set_led1 (.str (S l) t) (E := E) (Q₁ := fun obj s₁ => obj = .ref s.heap.objs.size ∧ s₁ = { s with heap := s.heap.push { cls := .type "set", dict := none, data := .set #[] 0 (.fresh 0 0 (!w.params.followText "set-order")) } }) ⟨rfl, rfl⟩) fun r s₁ hr => ?_
  cases r with
  | error e => exact hr
  | ok fl =>
    cases fl with
    | ret obj =>
      obtain ⟨rfl, rfl⟩ := hr
      have hS : (s.heap.push { cls := .type "set", dict := none, data := .set #[] 0 (.fresh 0 0 (!w.params.followText "set-order")) }).get? s.heap.objs.size = some { cls := .type "set", dict := none, data := .set #[] 0 (.fresh 0 0 (!w.params.followText "set-order")) } := Heap.get?_push_size _ rfl
      have hT : Shared.TypeIs { s with heap := s.heap.push { cls := .type "set", dict := none, data := .set #[] 0 (.fresh 0 0 (!w.params.followText "set-order")) } } (.ref s.heap.objs.size) "set" := ⟨_, hS, rfl⟩
      have hli := PySem.F.called_set.init.lookup
      have hbi := PySem.F.called_set.init.bind (.ref s.heap.objs.size)
      repeat (any_goals (first | assumption | wp_step))
      refine codeAny_mono (codeAny_call_builtin (R := wants (fun r s₂ => r = .none ∧ ∃ h' tk, s₂ = { s with heap := h', toks := tk } ∧ SetT w h' s.heap.objs.size (Signs l) l.length ∧ (∀ b o, s.heap.get? b = some o → h'.get? b = some o)) E) PySem.F.called_set.init.plain PySem.F.entry_set_init (check_set_init_1 hT ?_)) fun r₂ s₂ hr₂ => ?_
      · have hsls := sub_str_set
        have hslf := sub_str_frozenset
        have hne : (Value.type "str" == Value.type "dict") = false := by decide
        unfold Builtin.«set.__init__» noKeywords Builtin.Frozenset.updateFrom
        generalize hPI : pyIter = PI
        wp_walk
        subst hPI
        refine wpAny_pyIter_str fun o St W hst => ?_
        refine wpAny_bind (wpAny_runValue ?_)
        have hne2 : s.heap.objs.size ≠ (s.heap.push { cls := .type "set", dict := none, data := .set #[] 0 (.fresh 0 0 (!w.params.followText "set-order")) }).objs.size := by
          rw [Heap.size_push]
          exact Nat.ne_of_lt (Nat.lt_succ_self _)
        have hf0 : SetT w ((s.heap.push { cls := .type "set", dict := none, data := .set #[] 0 (.fresh 0 0 (!w.params.followText "set-order")) }).push o) s.heap.objs.size (Signs (l.take 0)) 0 :=
          ((setT_fresh (h := s.heap) w).at fun _ e => Heap.get?_push_of_some _ e).congr fun k => ⟨fun ⟨c, hc, _⟩ => by simp at hc, fun z => z.elim⟩
        refine setT_loop (W _ (by simp [hh])) s.heap.objs.size hne2 hb (l.length - 0) 0 _ (by omega) (Nat.zero_le _) hst hf0 fun s' hm hS' => ?_
        obtain ⟨h', g', d', tk', os'⟩ := s'
        have eg : g' = s.gens := hm.gens
        have ed : d' = s.drawn := hm.drawn
        have eo : os' = s.os := hm.os
        subst eg
        subst ed
        subst eo
        show wpAny _ _ _ _ _ _
        refine wpAny_pure ?_
        show wpAny _ _ (ret Value.none) _ _ _
        refine wpAny_pure ⟨rfl, h', tk', rfl, hS', fun b o' e => ?_⟩
        have hlt := Heap.lt_size e
        have hb1 : b ≠ s.heap.objs.size := Nat.ne_of_lt hlt
        have hb2 : b ≠ (s.heap.push { cls := .type "set", dict := none, data := .set #[] 0 (.fresh 0 0 (!w.params.followText "set-order")) }).objs.size := by
          rw [Heap.size_push]
          exact Nat.ne_of_lt (Nat.lt_succ_of_lt hlt)
        exact hm.heap b o' (by simp only [List.mem_cons, List.mem_singleton, List.not_mem_nil, or_false, not_or]; exact ⟨hb1, hb2⟩) (Heap.get?_push_of_some _ (Heap.get?_push_of_some _ e))
      · cases r₂ with
        | error e => exact hr₂
        | ok fl₂ =>
          cases fl₂ with
          | ret r =>
            obtain ⟨rfl, h', tk, rfl, hS', hk'⟩ := hr₂
            repeat (any_goals (first | assumption | wp_step))
            exact h _ _ hS' hk'
          | _ => exact hr₂.elim
    | _ => exact hr.elim
end
/-- rising codes, from a sorted list of single signs -/
theorem sorted_signs : ∀ {l : Wd}, sortedS (l.map fun c => S [c]) = true → (l.map fun c => S [c]).Nodup → l.Pairwise (· < ·)
  | [], _, _ => List.Pairwise.nil
  | [a], _, _ => List.pairwise_singleton _ _
  | a :: b :: r, hs, hn => by
    have h1 : (!ltCps [b] [a] && risingS (S [b]) (r.map fun c => S [c])) = true := hs
    obtain ⟨h2, h3⟩ := (Bool.and_eq_true _ _).mp h1
    obtain ⟨n1, n2⟩ := List.nodup_cons.mp hn
    have ih : (b :: r).Pairwise (· < ·) := sorted_signs (l := b :: r) h3 n2
    have hne : a ≠ b := fun e => n1 (by rw [e]; exact List.mem_cons_self)
    have hlt : a < b := by
      have h4 : ltCps [b] [a] = false := by simpa using h2
      have h5 : (decide (b < a) || (b == a && false)) = false := h4
      rw [Bool.and_false, Bool.or_false] at h5
      have := of_decide_eq_false h5
      omega
    refine List.pairwise_cons.mpr ⟨fun d hd => ?_, ih⟩
    rcases List.mem_cons.mp hd with q | q
    · rw [q]
      exact hlt
    · exact Nat.lt_trans hlt ((List.pairwise_cons.mp ih).1 d q)
def rawT : Value → Str
  | .str k _ => k
  | _ => Str.empty
theorem strs_raw : ∀ {vs : List Value}, (∀ v ∈ vs, ∃ k tk, v = Value.str k tk) → StrsAre vs (vs.map rawT)
  | [], _ => .nil
  | v :: vs, h => by
    obtain ⟨k, tk, rfl⟩ := h v List.mem_cons_self
    exact .cons _ _ (strs_raw fun v m => h v (List.mem_cons_of_mem _ m))
theorem signs_of : ∀ {ys : List Str}, (∀ y ∈ ys, ∃ c, y = S [c]) → ∃ own : Wd, ys = own.map fun c => S [c]
  | [], _ => ⟨[], rfl⟩
  | y :: ys, h => by
    obtain ⟨c, e⟩ := h y List.mem_cons_self
    obtain ⟨own, e2⟩ := signs_of fun y m => h y (List.mem_cons_of_mem _ m)
    exact ⟨c :: own, by rw [List.map_cons, e, e2]⟩
/-- a set of signs, at its address -/
def SetTO (w : World) (a : Addr) (M : Str → Prop) (n : Nat) : HO := .ext fun h => SetT w h a M n
section
variable {X : Cx}
def rSetS (w : World) : List V → Hp → VK → Prop := fun xs H Q => ∃ l : Wd, xs = [.str (S l)] ∧ l.length < 64 ∧ ∀ p, H p = none → Q (.ref p) (upd H p (SetTO w p (Signs l) l.length))
theorem cr_setS (hc : X.calm = true) : CallR X (.type "set") (rSetS X.w) := by
  intro pins s σ H xs us Q I r h
  obtain ⟨l, rfl, hl, q⟩ := h
  obtain ⟨u, rfl, t, rfl⟩ := vals1 r
  refine call_set_text (I.ok.hd hc) (Nat.lt_of_le_of_lt hl (by decide)) fun h' tk hS hk => ?_
  obtain ⟨o, es, ep, tb, ho, rest⟩ := id hS
  exact ⟨.ref s.heap.objs.size, upd H s.heap.objs.size (SetTO X.w s.heap.objs.size (Signs l) l.length), I.laid (t' := tk) hk (Nat.le_refl _) ⟨hS, ⟨o, ho⟩, fun h1 h2 a b => a.at b⟩, rfl, q _ (I.hok.fresh (Nat.le_refl _))⟩
def rSortedSS (w : World) : List V → Hp → VK → Prop := fun xs H Q => ∃ (a : Addr) (l : Wd), xs = [.ref a] ∧ H a = some (SetTO w a (Signs l) l.length) ∧ l.length < 64 ∧
  ∀ (own : Wd) (p : Addr), own.Pairwise (· < ·) → (∀ c, c ∈ own ↔ c ∈ l) → H p = none → Q (.ref p) (upd H p (.lst (own.map fun c => V.str (S [c]))))
theorem cr_sortedSS (hc : X.calm = true) : CallR X (.builtin "sorted") (rSortedSS X.w) := by
  intro pins s σ H xs us Q I r h
  obtain ⟨a, l, rfl, ha, h64, q⟩ := h
  obtain ⟨u, rfl, ru⟩ := vals1 r
  cases ru
  obtain ⟨o, es, ep, t, ho, hex, hd, g, nd, hm, hb, hf, hn, hr, hl⟩ := (I.hok a _ ha).1
  refine Calls.call_function_entry kind_sorted plain_sorted entry_sorted (args_sorted1 _) ?_
  unfold Builtin.«sorted»
  refine wpAny_bind (m := checkCount "sorted" 1 1 _) (wpAny_pure ?_)
  refine wpAny_bind (collect_set (A := X.A.in1) (I.ok.hd hc) ⟨o, ho, hex.1, hd⟩ hf hb hr hl fun s1 vs k1 hz g1 o1 pm => ?_)
  have hS : StrsAre vs (vs.map rawT) := strs_raw fun v hv => by
    obtain ⟨e, he, q⟩ := List.mem_map.mp (pm.mem_iff.mp hv)
    obtain ⟨k, tk, h1, _⟩ := g e he
    exact ⟨k, tk, by rw [← q]; exact h1⟩
  have pk : (vs.map rawT).Perm (es.toList.map keyT) := by
    have q := pm.map rawT
    rw [List.map_map] at q
    exact q
  have hvl : vs.length < 64 := by
    rw [pm.length_eq, List.length_map, Array.length_toList]
    omega
  have I1 : Inv X pins σ H s1 := by
    obtain ⟨h1, g2, d1, tk1, os1⟩ := s1
    have eo : os1 = s.os := o1
    have eg : g2 = s.gens := g1
    subst eo
    subst eg
    exact I.call (ch := []) (Un.kept k1) (I.hok.kept k1) I.bare fun b hb => absurd hb (by simp)
  refine wpAny_bind (wpAny_newList ?_ (by have := sizeLine_eq; omega))
  have hoL : (s1.heap.push (seqObj "list" vs.toArray 0)).get? s1.heap.objs.size = some (seqObj "list" vs.toArray 0) := Heap.get?_push_size _ rfl
  refine wpAny_bind (wpAny_holding (wpAny_call_entry slot_list_sort ⟨_, hoL, rfl⟩ entry_list_sort
    (list_sort_treeK strKind_oneLt (s := { s1 with heap := s1.heap.push (seqObj "list" vs.toArray 0) }) hoL hS.keysOf (fun v₁ v₂ rest e => keyKind_strs (by rw [← e]; exact hS)) hvl fun st' hp hs => ⟨_, rfl, ?_⟩)
    (args_list_sort _)))
  obtain ⟨ys, g1, g2, g3⟩ := sorted_out_str hS hp hs
  have py : ys.Perm (es.toList.map keyT) := g2.trans pk
  obtain ⟨own, rfl⟩ := signs_of (ys := ys) fun y hy => by
    obtain ⟨c, _, e⟩ := (hm y).2 (py.mem_iff.mp hy)
    exact ⟨c, e⟩
  have hnd := py.nodup_iff.mpr nd
  have hmem : ∀ c, c ∈ own ↔ c ∈ l := fun c => by
    constructor
    · intro hc
      obtain ⟨d, hd, e⟩ := (hm (S [c])).2 (py.mem_iff.mp (List.mem_map.mpr ⟨c, hc, rfl⟩))
      have := S_inj e
      injection this with e1
      rw [e1]
      exact hd
    · intro hc
      obtain ⟨d, hd, e⟩ := List.mem_map.mp (py.mem_iff.mpr ((hm (S [c])).1 ⟨c, hc, rfl⟩))
      have := S_inj e
      injection this with e1
      rw [← e1]
      exact hd
  obtain ⟨e', he'⟩ := sortedHeap_at (vs := vs) (out := (arrOf st').map (·.2)) hoL
  have ev : ((own.map fun c => S [c]).map V.str) = own.map fun c => V.str (S [c]) := by
    rw [List.map_map]
    rfl
  have hlen : (own.map fun c => V.str (S [c])).length ≤ sizeLine := by
    have q := g2.length_eq
    rw [List.length_map, List.length_map] at q
    rw [List.length_map, q]
    have := sizeLine_eq
    omega
  have rv : Vals (own.map fun c => V.str (S [c])) ((arrOf st').map (·.2)).toList := by
    rw [← ev]
    exact vals_of_strs g1
  refine wpAny_pure ⟨_, rfl, .ref s1.heap.objs.size, upd H s1.heap.objs.size (.lst (own.map fun c => V.str (S [c]))), I1.laid (t' := s1.toks) (fun b u e => ?_) (Nat.le_refl _)
    (show ObjOk X.prog X.w _ _ _ (.lst (own.map fun c => V.str (S [c]))) from ⟨hlen, ((arrOf st').map (·.2)).toList, e', rv, by rw [Array.toArray_toList]; exact he'⟩), rfl, q own _ (sorted_signs g3 hnd) hmem (I1.hok.fresh (Nat.le_refl _))⟩
  have hb : b < s1.heap.objs.size := Heap.lt_size e
  rw [sortedHeap_old (Nat.ne_of_lt hb) (by rw [size_push']; exact Nat.lt_succ_of_lt hb)]
  exact Heap.get?_push_of_some _ e
end
end K8
set_option Elab.async false
set_option linter.all false
set_option maxRecDepth 100000
set_option maxHeartbeats 4000000
/-! list(enumerate(text)) -/
namespace K8
open PySem PySem.Spec PySem.W PyProof.Rows L2
open SX (S S_len S_cat S_inj)
section
variable {prog : Program} {w : World} {A : Around} {E : Value → Shared → Prop} {s : Shared}
/-- the next pair, the pair before it still held by another -/
theorem enum_held {e it T : Addr} {fp : List Addr} {n i : Nat} {P : Nat → Value → Prop} {St : Nat → Heap → Prop} {old : Value} {f : Bool} {oT : Obj} {Q : Value → Shared → Prop} (D : Draws prog w A it fp n P St)
    (he : IsEnumHeld s.heap e it i old T f) (hT : s.heap.get? T = some oT) (hTe : T ≠ e) (hTi : T ≠ it) (hst : St i s.heap) (hlt : i < n) (hne : e ≠ it) (hef : e ∉ fp)
    (hQ : ∀ x h' tk, P i x → IsEnumHeld h' e it ((i : Int) + 1) old T true → St (i + 1) h' →
      h'.get? s.heap.objs.size = some { cls := .type "tuple", data := .seq #[.int i tk, x] } → h'.objs.size = s.heap.objs.size + 1 →
      (∀ b o, b ≠ e → b ≠ it → s.heap.get? b = some o → h'.get? b = some o) → Q (.ref s.heap.objs.size) { s with heap := h', toks := tk + 1 }) :
    wpAny (model prog w) A (Builtin.«enumerate.__next__» ⟨[.ref e], []⟩) (fun fin s' => ∃ v, fin = .done (.ret v) ∧ Q v s') E s := by
  obtain ⟨hp, g, d, tk0, os⟩ := s
  show wpAny _ _ (field (.ref e) 2 >>= _) _ _ _
  refine wpAny_bind (wpAny_field he rfl (x := .ref it) rfl ?_)
  refine wpAny_bind (D.item i _ _ _ hlt hst fun x h1 tk hPx hst1 hs1 => ?_)
  replace hs1 : Heap.SameBut it hp h1 := hs1
  have he1 : IsEnumHeld h1 e it i old T f := (hs1.2 e hne).trans he
  show wpAny _ _ (field (.ref e) 3 >>= _) _ _ ⟨h1, g, d, tk, os⟩
  refine wpAny_bind (wpAny_field he1 rfl (x := rawInt i) rfl ?_)
  show wpAny _ _ (field (.ref e) 4 >>= _) _ _ ⟨h1, g, d, tk, os⟩
  refine wpAny_bind (wpAny_field he1 rfl (x := .none) rfl ?_)
  show wpAny _ _ (mkInt i >>= _) _ _ ⟨h1, g, d, tk, os⟩
  refine wpAny_bind (wpAny_mkInt ?_)
  show wpAny _ _ (setField (.ref e) 3 (rawInt ((i : Int) + 1)) >>= _) _ _ ⟨h1, g, d, tk + 1, os⟩
  refine wpAny_bind (wpAny_setField_rec he1 (by simp) fun h2 he2 hs2 => ?_)
  replace hs2 : Heap.SameBut e h1 h2 := hs2
  replace he2 : IsEnumHeld h2 e it ((i : Int) + 1) old T f := he2
  show wpAny _ _ (setField (.ref e) 4 .none >>= _) _ _ ⟨h2, g, d, tk + 1, os⟩
  refine wpAny_bind (wpAny_setField_rec he2 (by simp) fun h3 he3 hs3 => ?_)
  replace hs3 : Heap.SameBut e h2 h3 := hs3
  replace he3 : IsEnumHeld h3 e it ((i : Int) + 1) old T f := he3
  show wpAny _ _ (newTuple [.int i tk, x] >>= _) _ _ ⟨h3, g, d, tk + 1, os⟩
  refine wpAny_bind (wpAny_newTuple ?_)
  have he4 : IsEnumHeld (h3.push { cls := .type "tuple", data := .seq #[.int i tk, x] }) e it ((i : Int) + 1) old T f := Heap.get?_push_of_some _ he3
  generalize hh4 : h3.push { cls := .type "tuple", data := .seq #[.int i tk, x] } = h4 at he4
  have hsz : h3.objs.size = hp.objs.size := by rw [hs3.1, hs2.1, hs1.1]
  have hel : e < hp.objs.size := Heap.lt_size he
  have ht4 : h4.get? hp.objs.size = some { cls := .type "tuple", data := .seq #[.int i tk, x] } := by
    rw [← hh4, ← hsz]
    exact Heap.get?_push_size _ rfl
  have hz4 : h4.objs.size = hp.objs.size + 1 := by rw [← hh4, Heap.size_push, hsz]
  have hk4 : ∀ b o, b ≠ e → b ≠ it → hp.get? b = some o → h4.get? b = some o := fun b o hbe hbi hb => by
    rw [← hh4]
    exact Heap.get?_push_of_some _ (hs3.extBut b o hbe (hs2.extBut b o hbe (hs1.extBut b o hbi hb)))
  have hst4 : St (i + 1) h4 := D.frame _ _ _ hst1 fun b hb o y => by
    have hbe : b ≠ e := fun q => hef (q ▸ hb)
    rw [← hh4]
    exact Heap.get?_push_of_some _ (hs3.extBut b o hbe (hs2.extBut b o hbe y))
  show wpAny _ _ (Builtin.SmallTypes.ownedTupleIsFree (.ref e) >>= _) _ _ ⟨h4, g, d, tk + 1, os⟩
  rw [hsz]
  clear hh4 he3 hs3 he2 hs2 he1 hs1 hst1 hsz h3 h2 h1
  refine wpAny_bind (wpAny_tupleHeld_enum (s := ⟨h4, g, d, tk + 1, os⟩) he4 (hk4 T oT hTe hTi hT) fun h5 he5 hs5 => ?_)
  replace hs5 : Heap.SameBut e h4 h5 := hs5
  simp only [Bool.false_eq_true, if_false]
  refine wpAny_pure ⟨_, rfl, hQ x h5 tk hPx he5 ?_ (hs5.extBut _ _ (Nat.ne_of_gt hel) ht4) ?_ fun b o hbe hbi hb => hs5.extBut b o hbe (hk4 b o hbe hbi hb)⟩
  · exact D.frame _ _ _ hst4 fun b hb o y => hs5.extBut b o (fun q => hef (q ▸ hb)) y
  · show h5.objs.size = hp.objs.size + 1
    rw [hs5.1, hz4]
theorem enum_next_held {e it T : Addr} {fp : List Addr} {n i : Nat} {P : Nat → Value → Prop} {St : Nat → Heap → Prop} {old : Value} {f : Bool} {oT : Obj} {Q : Option Value → Shared → Prop} (D : Draws prog w A.in1 it fp n P St)
    (he : IsEnumHeld s.heap e it i old T f) (hT : s.heap.get? T = some oT) (hTe : T ≠ e) (hTi : T ≠ it) (hst : St i s.heap) (hlt : i < n) (hne : e ≠ it) (hef : e ∉ fp)
    (hQ : ∀ x h' tk, P i x → IsEnumHeld h' e it ((i : Int) + 1) old T true → St (i + 1) h' →
      h'.get? s.heap.objs.size = some { cls := .type "tuple", data := .seq #[.int i tk, x] } → h'.objs.size = s.heap.objs.size + 1 →
      (∀ b o, b ≠ e → b ≠ it → s.heap.get? b = some o → h'.get? b = some o) → Q (some (.ref s.heap.objs.size)) { s with heap := h', toks := tk + 1 }) :
    wpAny (model prog w) A (pyNext (.ref e)) Q E s := by
  have hTy : s.TypeIs (.ref e) "enumerate" := ⟨_, he, rfl⟩
  unfold pyNext
  exact wpAny_bind (wpAny_attempt (wpAny_callSpecial?_slot (name := Str.ofString "__next__") hTy PySem.F.slot_enumerate_next
    (wpAny_call_entry PySem.F.slot_enumerate_next hTy PySem.F.entry_enumerate_next
      (enum_held D he hT hTe hTi hst hlt hne hef fun x h' tk a b c d k q => wpAny_pure (hQ x h' tk a b c d k q)) (PySem.F.args_enumerate_next_1 _))))
theorem enum_end_any {e it : Addr} {fp : List Addr} {n : Nat} {P : Nat → Value → Prop} {St : Nat → Heap → Prop} {i : Int} {v0 v1 v5 : Value} {Q : Option Value → Shared → Prop} (D : Draws prog w A.in1 it fp n P St)
    (he : s.heap.get? e = some { cls := .type "enumerate", dict := none, data := .fields #[v0, v1, .ref it, rawInt i, .none, v5], slots := #[] }) (hst : St n s.heap)
    (hQ : ∀ h', Heap.ExtBut it s.heap h' → Q none { s with heap := h' }) : wpAny (model prog w) A (pyNext (.ref e)) Q E s := by
  have hT : s.TypeIs (.ref e) "enumerate" := ⟨_, he, rfl⟩
  unfold pyNext
  refine wpAny_bind (wpAny_attempt (wpAny_callSpecial?_slot (name := Str.ofString "__next__") hT PySem.F.slot_enumerate_next
    (wpAny_call_entry PySem.F.slot_enumerate_next hT PySem.F.entry_enumerate_next ?_ (PySem.F.args_enumerate_next_1 _))))
  show wpAny _ _ (field (.ref e) 2 >>= _) _ _ _
  refine wpAny_bind (wpAny_field he rfl (x := .ref it) rfl ?_)
  refine wpAny_bind (D.done _ _ _ hst fun h' x he' hx' => ?_)
  obtain ⟨o, ho, hc⟩ := hx'
  refine wpAny_bind (wpAny_isInstance (T := "StopIteration") (b := true) ⟨o, ho, hc⟩ isSubtype_stop ?_)
  exact wpAny_pure (hQ _ he')
/-- the pairs made so far -/
def Pairs (l : Wd) (i : Nat) (h : Heap) (ts : List Addr) : Prop := ts.length = i ∧ ∀ j T, ts[j]? = some T → ∃ tk c u, l[j]? = some c ∧ h.get? T = some { cls := .type "tuple", data := .seq #[.int (j : Nat) tk, .str (S [c]) u] }
/-- where the enumerate stands -/
def EnAt (e it : Addr) (i : Nat) (h : Heap) : Prop := (∃ old, IsEnum h e it (i : Int) old) ∨ ∃ T f old oT, IsEnumHeld h e it (i : Int) old T f ∧ h.get? T = some oT ∧ T ≠ e ∧ T ≠ it
theorem refs_valsA : ∀ ts : List Addr, Vals (ts.map V.ref) (ts.map Value.ref)
  | [] => .nil
  | _ :: r => .cons rfl (refs_valsA r)
theorem refs_snoc (ts : List Addr) (T : Addr) : ((ts.map Value.ref).toArray.push (.ref T)) = ((ts ++ [T]).map Value.ref).toArray := by simp
theorem enum_loop {l : Wd} {t : Tok} {D e it : Addr} (hh : A.handled = none) {R : Result → Shared → Prop} {res : Value} (B : Nat) (hDe : D ≠ e) (hDi : D ≠ it) (hne : e ≠ it) (hz : l.length ≤ sizeLine) :
    ∀ (k i : Nat) (s : Shared) (ts : List Addr) (c : Nat), l.length - i = k → i ≤ l.length → s.heap.IsStrIter it (strIterType (S l)) (S l) t i → EnAt e it i s.heap → s.heap.get? D = some { cls := .type "list", dict := none, data := .seq (ts.map Value.ref).toArray c, slots := #[] } →
      Pairs l i s.heap ts → (∀ T ∈ ts, (T ≠ D ∧ T ≠ e ∧ T ≠ it) ∧ B ≤ T) → B ≤ s.heap.objs.size →
      (∀ h' tk ts' c', (∀ b o, b ≠ D → b ≠ e → b ≠ it → s.heap.get? b = some o → h'.get? b = some o) → h'.get? D = some { cls := .type "list", dict := none, data := .seq (ts'.map Value.ref).toArray c', slots := #[] } → Pairs l l.length h' ts' → (∀ T ∈ ts', T ≠ D ∧ B ≤ T) → R (.ok (.ret res)) { s with heap := h', toks := tk }) →
      codeAny (model prog w) A (.builtin "list.extend.loop" ⟨[.ref D, .ref e, res], []⟩) R s := by
  have hzl : (S l).cps.size = l.length := by simp [S]
  have dr : Draws prog w A.in1.in1 it [it] (S l).cps.size (fun i v => ∃ c u, (S l).cps[i]? = some c ∧ v = .str ⟨#[c]⟩ u) (fun i h => h.IsStrIter it (strIterType (S l)) (S l) t i) := Draws.text (by simp [hh]) it (S l) t
  have sign : ∀ {i c : Nat}, (S l).cps[i]? = some c → l[i]? = some c := fun {i c} h => by
    have q : (S l).cps[i]? = l[i]? := by simp [S]
    rw [← q]
    exact h
  intro k
  induction k with
  | zero =>
    intro i s ts c hk hi hit hen hD hp hf hB hR
    have hin : i = l.length := by omega
    subst hin
    refine codeAny_builtin PySem.F.entry_extend_loop ?_
    rw [Around.under_plainId PySem.F.plain_extend_loop _]
    show wpAny _ A.in1 (pyNext (.ref e) >>= _) _ _ s
    refine wpAny_bind ?_
    have hst : s.heap.IsStrIter it (strIterType (S l)) (S l) t (S l).cps.size := by
      rw [hzl]
      exact hit
    have fin : ∀ h', Heap.ExtBut it s.heap h' → R (.ok (.ret res)) { s with heap := h' } := fun h' hx => by
      refine hR h' s.toks ts c (fun b o _ _ hb q => hx b o hb q) (hx _ _ hDi hD) ⟨hp.1, fun j T hT => ?_⟩ fun T m => ⟨(hf T m).1.1, (hf T m).2⟩
      obtain ⟨tk, c, u, a1, a2⟩ := hp.2 j T hT
      exact ⟨tk, c, u, a1, hx _ _ (hf T (List.mem_of_getElem? hT)).1.2.2 a2⟩
    rcases hen with ⟨old, he⟩ | ⟨T, f, old, oT, he, _⟩
    · exact enum_end_any dr he hst fun h' hx => wpAny_pure (fin h' hx)
    · exact enum_end_any dr he hst fun h' hx => wpAny_pure (fin h' hx)
  | succ k ih =>
    intro i s ts c hk hi hit hen hD hp hf hB hR
    have hlt : i < l.length := by omega
    refine codeAny_builtin PySem.F.entry_extend_loop ?_
    rw [Around.under_plainId PySem.F.plain_extend_loop _]
    show wpAny _ A.in1 (pyNext (.ref e) >>= _) _ _ s
    refine wpAny_bind ?_
    have hDl : D < s.heap.objs.size := Heap.lt_size hD
    have go : ∀ (x : Value) (h' : Heap) (tk : Nat), (∃ c u, (S l).cps[i]? = some c ∧ x = .str ⟨#[c]⟩ u) → EnAt e it (i + 1) h' → h'.IsStrIter it (strIterType (S l)) (S l) t (i + 1) →
        h'.get? s.heap.objs.size = some { cls := .type "tuple", data := .seq #[.int i tk, x] } → (∀ b o, b ≠ e → b ≠ it → s.heap.get? b = some o → h'.get? b = some o) → s.heap.objs.size ≠ e → s.heap.objs.size ≠ it → h'.objs.size = s.heap.objs.size + 1 →
        wpAny (model prog w) A.in1 (updateSeq D (·.push (.ref s.heap.objs.size)) >>= fun _ => again (.builtin "list.extend.loop" ⟨[.ref D, .ref e, res], []⟩))
          (fun fin s' => match fin with | .done f => R (.ok f) s' | .again c' => c'.quiet = true ∧ codeAny (model prog w) A c' R s') (fun e s' => R (.error e) s') { s with heap := h', toks := tk + 1 } := by
      intro x h' tk hx hen' hit' hT hk' n1 n2 hsz
      obtain ⟨c0, u, hc0, rfl⟩ := hx
      have hD' := hk' D _ hDe hDi hD
      have hz1 : ts.length ≤ sizeLine := by
        rw [hp.1]
        omega
      refine wpAny_bind (wpAny_updateSeq hD' rfl ?_ (by simp; rw [hp.1]; omega) (by simp; rw [hp.1]; omega))
      have hD2 := Heap.get?_update_self (Obj.mapSeq (·.push (Value.ref s.heap.objs.size))) hD' rfl
      have oth : ∀ b o, b ≠ D → h'.get? b = some o → (h'.update D (Obj.mapSeq (·.push (Value.ref s.heap.objs.size)))).get? b = some o := fun b o hb q => (Heap.get?_update_other _ _ (Ne.symm hb)).trans q
      refine wpAny_pure ⟨plainId_quiet PySem.F.plain_extend_loop _, ih (i + 1) _ (ts ++ [s.heap.objs.size]) _ (by omega) hlt ?_ ?_ (by rw [← refs_snoc]; exact hD2) ⟨by rw [List.length_append, hp.1]; rfl, fun j T hT' => ?_⟩ (fun T hT' => ?_) (by rw [Heap.size_update, hsz]; omega) fun h'' tk'' ts' c' b1 b2 b3 b4 => ?_⟩
      · obtain ⟨o, a1, a2⟩ := hit'
        exact ⟨o, oth _ _ (Ne.symm hDi) a1, a2⟩
      · rcases hen' with ⟨old, he⟩ | ⟨T, f, old, oT, he, hTo, m1, m2⟩
        · exact .inl ⟨old, oth _ _ (Ne.symm hDe) he⟩
        · by_cases hTD : T = D
          · subst hTD
            exact .inr ⟨T, f, old, _, oth _ _ (Ne.symm hDe) he, hD2, m1, m2⟩
          · exact .inr ⟨T, f, old, oT, oth _ _ (Ne.symm hDe) he, oth _ _ hTD hTo, m1, m2⟩
      · by_cases hj : j < ts.length
        · rw [List.getElem?_append_left hj] at hT'
          obtain ⟨tk, c, u, a1, a2⟩ := hp.2 j T hT'
          obtain ⟨⟨m0, m1, m2⟩, _⟩ := hf T (List.mem_of_getElem? hT')
          exact ⟨tk, c, u, a1, oth _ _ m0 (hk' _ _ m1 m2 a2)⟩
        · rw [List.getElem?_append_right (by omega)] at hT'
          have hj0 : j - ts.length = 0 := by
            have := (List.getElem?_eq_some_iff.mp hT').1
            simp at this
            omega
          rw [hj0] at hT'
          have eT : s.heap.objs.size = T := by simpa using hT'
          have ej : j = i := by
            have := hp.1
            omega
          subst eT
          subst ej
          exact ⟨tk, c0, u, sign hc0, oth _ _ (Nat.ne_of_gt hDl) hT⟩
      · rcases List.mem_append.mp hT' with q | q
        · exact hf T q
        · rw [List.mem_singleton] at q
          subst q
          exact ⟨⟨Nat.ne_of_gt hDl, n1, n2⟩, hB⟩
      · exact hR h'' tk'' ts' c' (fun b o m0 m1 m2 q => b1 b o m0 m1 m2 (oth b o m0 (hk' b o m1 m2 q))) b2 b3 b4
    have hil : it < s.heap.objs.size := by
      obtain ⟨o, q, _⟩ := hit
      exact Heap.lt_size q
    rcases hen with ⟨old, he⟩ | ⟨T, f, old, oT, he, hTo, m1, m2⟩
    · have hel : e < s.heap.objs.size := Heap.lt_size he
      refine wpAny_pyNext_enum_itemD dr he hit (by rw [hzl]; exact hlt) hne (by simp [hne]) fun x h' tk hx ho hst' hT hsz hk' => ?_
      exact go x h' tk hx (.inr ⟨s.heap.objs.size, false, x, _, by
        have e1 : ((i + 1 : Nat) : Int) = (i : Int) + 1 := by omega
        rw [e1]
        exact ho, hT, Nat.ne_of_gt hel, Nat.ne_of_gt hil⟩) hst' hT hk' (Nat.ne_of_gt hel) (Nat.ne_of_gt hil) hsz
    · have hel : e < s.heap.objs.size := Heap.lt_size he
      refine enum_next_held dr he hTo m1 m2 hit (by rw [hzl]; exact hlt) hne (by simp [hne]) fun x h' tk hx ho hst' hT hsz hk' => ?_
      exact go x h' tk hx (.inr ⟨T, true, old, oT, by
        have e1 : ((i + 1 : Nat) : Int) = (i : Int) + 1 := by omega
        rw [e1]
        exact ho, hk' _ _ m1 m2 hTo, m1, m2⟩) hst' hT hk' (Nat.ne_of_gt hel) (Nat.ne_of_gt hil) hsz
theorem enum_no_len : typeLookup (.type "enumerate") "__len__" = pure none := am_miss_of_fast (by decide +kernel)
theorem enum_no_hint : typeLookup (.type "enumerate") "__length_hint__" = pure none := am_miss_of_fast (by decide +kernel)
theorem hint_enum {e : Addr} {Q : Bool → Shared → Prop} (hT : s.TypeIs (.ref e) "enumerate") (h : Q true s) : wpAny (model prog w) A (Builtin.List.listLengthHint (.ref e)) Q E s := by
  unfold Builtin.List.listLengthHint
  refine wpAny_bind (wpAny_specialOf hT enum_no_len ?_)
  refine wpAny_ite_split (fun hab => absurd hab (by decide)) (fun _ => ?_)
  refine wpAny_ite_split (fun hab => absurd hab (by decide)) (fun _ => ?_)
  exact wpAny_bind (wpAny_specialOf hT enum_no_hint (wpAny_pure h))
theorem list_enum {l : Wd} {t : Tok} {e it : Addr} {Q : Value → Shared → Prop} (hh : A.handled = none) (he : IsEnum s.heap e it 0 .none) (hit : s.heap.IsStrIter it (strIterType (S l)) (S l) t 0) (hne : e ≠ it) (hz : l.length ≤ sizeLine)
    (hQ : ∀ h' tk ts c, (∀ b o, b ≠ e → b ≠ it → s.heap.get? b = some o → h'.get? b = some o) → h'.get? s.heap.objs.size = some { cls := .type "list", dict := none, data := .seq (ts.map Value.ref).toArray c, slots := #[] } → Pairs l l.length h' ts → (∀ T ∈ ts, T ≠ s.heap.objs.size ∧ s.heap.objs.size ≤ T) → Q (.ref s.heap.objs.size) { s with heap := h', toks := tk }) :
    wpAny (model prog w) A (call (.type "list") [.ref e]) Q E s := by
  have hel : e < s.heap.objs.size := Heap.lt_size he
  have hil : it < s.heap.objs.size := by
    obtain ⟨o, q, _⟩ := hit
    exact Heap.lt_size q
  refine callType_codes (Q₁ := fun obj s₁ => obj = .ref s.heap.objs.size ∧ s₁ = { s with heap := s.heap.push { cls := .type "list", data := .seq #[] } }) PySem.F.called_list (PySem.F.typeCall_list_1 _) PySem.F.entry_list_init
    (code_list_new _ ⟨rfl, rfl⟩) fun obj s₁ h₁ => ?_
  obtain ⟨rfl, rfl⟩ := h₁
  have hS : (s.heap.push { cls := .type "list", data := .seq #[] }).get? s.heap.objs.size = some { cls := .type "list", data := .seq #[] } := Heap.get?_push_size _ rfl
  refine ⟨⟨_, hS, rfl⟩, PySem.F.args_list_init_2 _ _, ?_⟩
  show wpAny _ _ (do let old ← Builtin.List.listItems (.ref s.heap.objs.size); Builtin.List.listUpdate (.ref s.heap.objs.size) (fun _ => #[]); letGo old.toList.reverse; Builtin.List.listExtendWith (.ref s.heap.objs.size) (.ref e) .none) _ _ _
  refine wpAny_bind ?_
  unfold Builtin.List.listItems
  refine wpAny_bind (wpAny_seqItems hS rfl (wpAny_pure ?_))
  show wpAny _ _ (updateSeq s.heap.objs.size (fun _ => #[]) >>= fun _ => letGo (#[] : Array Value).toList.reverse >>= fun _ => Builtin.List.listExtendWith (.ref s.heap.objs.size) (.ref e) .none) _ _ _
  refine wpAny_bind (wpAny_updateSeq hS rfl ?_)
  have hS2 := Heap.get?_update_self (Obj.mapSeq (fun _ => (#[] : Array Value))) hS rfl
  have oth : ∀ b o, b ≠ s.heap.objs.size → s.heap.get? b = some o → ((s.heap.push { cls := .type "list", data := .seq #[] }).update s.heap.objs.size (Obj.mapSeq (fun _ => (#[] : Array Value)))).get? b = some o :=
    fun b o hb q => (Heap.get?_update_other _ _ (Ne.symm hb)).trans (Heap.get?_push_of_some _ q)
  refine wpAny_bind (wpAny_letGo ?_)
  generalize hg : (s.heap.push { cls := .type "list", data := .seq #[] }).update s.heap.objs.size (Obj.mapSeq (fun _ => (#[] : Array Value))) = h2 at hS2 oth
  have he2 : IsEnum h2 e it 0 .none := oth _ _ (Nat.ne_of_lt hel) he
  have hit2 : h2.IsStrIter it (strIterType (S l)) (S l) t 0 := by
    obtain ⟨o, a1, a2⟩ := hit
    exact ⟨o, oth _ _ (Nat.ne_of_lt hil) a1, a2⟩
  have hT2 : Shared.TypeIs { s with heap := h2 } (.ref e) "enumerate" := ⟨_, he2, rfl⟩
  unfold Builtin.List.listExtendWith
  refine wpAny_bind (wpAny_typeOf (T := "enumerate") hT2 ?_)
  have h1 : Builtin.List.listSameRef (.ref s.heap.objs.size) (.ref e) = false := by simp [Builtin.List.listSameRef, Nat.ne_of_gt hel]
  have n1 : (Value.type "enumerate" == Value.type "list") = false := by decide
  have n2 : (Value.type "enumerate" == Value.type "tuple") = false := by decide
  simp only [h1, n1, n2, Bool.or_false, Bool.false_eq_true, if_false]
  refine wpAny_bind (wpAny_pyIter_enum he2 ?_)
  refine wpAny_bind (wpAny_holding (hint_enum hT2 ?_))
  have key : ∀ (h3 : Heap) (c : Nat), (∀ b o, b ≠ s.heap.objs.size → s.heap.get? b = some o → h3.get? b = some o) → h3.get? s.heap.objs.size = some { cls := .type "list", data := .seq #[] c } → s.heap.objs.size ≤ h3.objs.size →
      codeAny (model prog w) A.in1 (.builtin "list.extend.loop" ⟨[.ref s.heap.objs.size, .ref e, .none], []⟩) (wants (fun r s₂ => r = Value.none ∧ Q (Value.ref s.heap.objs.size) s₂) E) { s with heap := h3 } := fun h3 c hk hD hs3 =>
    enum_loop (A := A.in1) (D := s.heap.objs.size) (by simp [hh]) s.heap.objs.size (Nat.ne_of_gt hel) (Nat.ne_of_gt hil) hne hz (l.length - 0) 0 _ [] c rfl (Nat.zero_le _) (by
      obtain ⟨o, a1, a2⟩ := hit
      exact ⟨o, hk _ _ (Nat.ne_of_lt hil) a1, a2⟩) (.inl ⟨.none, hk _ _ (Nat.ne_of_lt hel) he⟩) hD ⟨rfl, fun j T z => by simp at z⟩ (fun T z => by simp at z) hs3
      fun h' tk ts c' b1 b2 b3 b4 => ⟨rfl, hQ h' tk ts c' (fun b o m1 m2 q => b1 b o (Nat.ne_of_lt (Heap.lt_size q)) m1 m2 (hk b o (Nat.ne_of_lt (Heap.lt_size q)) q)) b2 b3 b4⟩
  refine wpAny_ite_split (fun _ => ?_) (fun _ => wpAny_pure ⟨plainId_quiet PySem.F.plain_extend_loop _, key _ _ oth hS2 (Nat.le_of_lt (Heap.lt_size hS2))⟩)
  refine wpAny_bind (wpAny_rule ?_)
  refine wpAny_bind ?_
  show wpAny _ _ (updateSeq s.heap.objs.size (·.push .none) >>= fun _ => updateSeq s.heap.objs.size (·.pop)) _ _ _
  refine wpAny_bind (wpAny_updateSeq hS2 rfl ?_)
  have hS3 := Heap.get?_update_self (Obj.mapSeq (·.push Value.none)) hS2 rfl
  refine wpAny_updateSeq (hz := by seq_fits) hS3 rfl ?_
  have hS4 := Heap.get?_update_self (Obj.mapSeq (·.pop)) hS3 rfl
  exact wpAny_pure ⟨plainId_quiet PySem.F.plain_extend_loop _, key _ _ (fun b o hb q => (Heap.get?_update_other _ _ (Ne.symm hb)).trans ((Heap.get?_update_other _ _ (Ne.symm hb)).trans (oth b o hb q))) hS4 (Nat.le_of_lt (Heap.lt_size hS4))⟩
end
section
variable {X : Cx}
/-- the new list of pairs (place, sign) -/
def tListEnum (te : TE) : TE := fun σ H Q => te σ H fun v H1 => ∃ l : Wd, v = .str (S l) ∧ l.length ≤ sizeLine ∧ ∀ (H2 : Hp) (p : Addr) (ts : List Addr), Same H1 H2 → H1 p = none → H2 p = some (.lst (ts.map V.ref)) → ts.length = l.length →
  (∀ (j : Nat) (T : Addr), ts[j]? = some T → H1 T = none ∧ ∃ c, l[j]? = some c ∧ H2 T = some (.tup [.int (j : Nat), .str (S [c])])) → Q (.ref p) H2
theorem pe_listEnum {e : Expr} {te : TE} {p p2 pos pos2 : Pos} (hc : X.calm = true) (hg : Gl X "list") (hm : X.mg "list" = none) (hg2 : Gl X "enumerate") (hm2 : X.mg "enumerate" = none) (he : PE X e te)
    (hs : starEach [.Call (.Name "enumerate" p2) [e] [] pos2] X.env = [(false, eval (.Call (.Name "enumerate" p2) [e] [] pos2) X.env)] := by rfl) (hs2 : starEach [e] X.env = [(false, eval e X.env)] := by rfl) :
    PE X (.Call (.Name "list" p) [.Call (.Name "enumerate" p2) [e] [] pos2] [] pos) (tListEnum te) := by
  refine ⟨fun pins s σ H Q I h => ?_⟩
  refine Call_ (ld_blt I hg hm (u := .type "list") (by decide +kernel) (PyProof.Rows.callWith_type1 ?_ hs rfl))
  rw [hs]
  refine Calls.spliced_cons ?_
  refine Call_ (ld_blt I hg2 hm2 boot_enumerate (PyProof.Rows.callWith_type1 ?_ hs2 rfl))
  rw [hs2]
  refine Calls.spliced_cons (thn (he.run pins s σ H _ I h) fun u s1 ⟨v, H1, I1, r1, l, ev, hl, q⟩ => Calls.spliced_nil ?_)
  subst ev
  obtain ⟨t, rfl⟩ := r1
  refine enum_begins1 (begins_text (S l) t) trivial fun h1 hen hit hsz hk => Calls.spliced_nil ?_
  refine list_enum (s := { s1 with heap := h1 }) (t := t) (I.ok.hd hc) hen ⟨_, hit, rfl, rfl⟩ (Nat.succ_ne_self _) hl fun h' tk ts c hk' hD hp hT => ?_
  have hsz' : s1.heap.objs.size ≤ h1.objs.size := by omega
  have kp : ∀ b o, s1.heap.get? b = some o → h'.get? b = some o := fun b o e => by
    have hb := Heap.lt_size e
    exact hk' b o (Nat.ne_of_lt (Nat.lt_succ_of_lt hb)) (Nat.ne_of_lt hb) (hk b o e)
  have hfr : ∀ T ∈ ts, H1 T = none := fun T m => I1.hok.fresh (Nat.le_trans hsz' (hT T m).2)
  have hpn : H1 h1.objs.size = none := I1.hok.fresh hsz'
  have hone : ∀ {j k : Nat} {T : Addr}, ts[j]? = some T → ts[k]? = some T → j = k := fun {j k T} a b => by
    obtain ⟨tk1, c1, u1, _, e1⟩ := hp.2 j T a
    obtain ⟨tk2, c2, u2, _, e2⟩ := hp.2 k T b
    rw [e1] at e2
    have e3 := congrArg Obj.data (Option.some.inj e2)
    have e4 : (#[Value.int (j : Nat) tk1, Value.str (S [c1]) u1] : Array Value) = #[Value.int (k : Nat) tk2, Value.str (S [c2]) u2] := by
      injection e3
    have e5 := congrArg Array.toList e4
    injection e5 with e6 _
    injection e6 with e7 _
    omega
  -- the abstract heap behind it
  let H2 : Hp := fun b => if b = h1.objs.size then some (.lst (ts.map V.ref)) else if b ∈ ts then some (.tup [.int ((ts.idxOf b : Nat) : Int), .str (S [l.getD (ts.idxOf b) 0])]) else H1 b
  have atP : H2 h1.objs.size = some (.lst (ts.map V.ref)) := if_pos rfl
  have atT : ∀ {j : Nat} {T : Addr}, ts[j]? = some T → ∃ c, l[j]? = some c ∧ H2 T = some (.tup [.int (j : Nat), .str (S [c])]) := fun {j T} a => by
    have hm := List.mem_of_getElem? a
    obtain ⟨tk1, c1, u1, e0, e1⟩ := hp.2 j T a
    have hi : ts[ts.idxOf T]? = some T := by
      rw [List.getElem?_eq_getElem (List.idxOf_lt_length_iff.mpr hm), List.getElem_idxOf]
    have ej := hone a hi
    refine ⟨c1, e0, ?_⟩
    show (if T = h1.objs.size then _ else if T ∈ ts then _ else _) = _
    rw [if_neg (hT T hm).1, if_pos hm, ← ej, List.getD_eq_getElem?_getD, e0]
    rfl
  have atO : ∀ b, b ≠ h1.objs.size → b ∉ ts → H2 b = H1 b := fun b n1 n2 => by
    show (if b = h1.objs.size then _ else if b ∈ ts then _ else _) = _
    rw [if_neg n1, if_neg n2]
  have old : ∀ b o, s1.heap.get? b = some o → H2 b = H1 b := fun b o e => atO b (Nat.ne_of_lt (Nat.lt_of_lt_of_le (Heap.lt_size e) hsz')) fun m => absurd (Nat.lt_of_lt_of_le (Heap.lt_size e) (Nat.le_trans hsz' (hT b m).2)) (Nat.lt_irrefl _)
  have same : Same H1 H2 := fun b o e => by
    rw [atO b (fun z => by rw [z, hpn] at e; cases e) fun m => by rw [hfr b m] at e; cases e]
    exact e
  have tsLen : ts.length ≤ sizeLine := by
    rw [hp.1]
    exact hl
  have un : Un X.fs [] H1 H2 s1.heap h' := ⟨fun b o e _ _ _ => kp b o e, fun b o e _ _ _ => ⟨o.slots, kp b o e⟩, fun b o e n _ => (old b o e).trans n, fun b o e _ => ⟨o, kp b o e⟩, fun b xs e => same _ _ e, fun b o u e => same _ _ e, fun b ps e => ⟨#[], by rw [same _ _ e]; simp⟩⟩
  have ok2 : HOk X.prog X.w H2 h' := fun b u e => by
    by_cases h1b : b = h1.objs.size
    · subst h1b
      rw [atP] at e
      cases e
      exact ⟨by rw [List.length_map]; exact tsLen, _, c, by
        have := refs_valsA ts
        exact this, hD⟩
    · by_cases hb : b ∈ ts
      · obtain ⟨j, hj⟩ := List.getElem?_of_mem hb
        obtain ⟨c1, e1, e2⟩ := atT hj
        rw [e2] at e
        cases e
        obtain ⟨tk1, c2, u1, e3, e4⟩ := hp.2 j b hj
        rw [e1] at e3
        cases e3
        exact ⟨(show 2 ≤ sizeLine by decide), [.int (j : Nat) tk1, .str (S [c1]) u1], .cons ⟨_, rfl⟩ (.cons ⟨_, rfl⟩ .nil), ⟨_, e4, rfl, _, rfl⟩⟩
      · rw [atO b h1b hb] at e
        exact (I1.hok b u e).stay (fun d v _ q => kp d v q) (fun d q => same _ _ q) fun d xs q => same _ _ q
  refine ⟨.ref h1.objs.size, H2, I1.un (t' := tk) un ok2, rfl, q H2 _ ts same hpn atP hp.1 fun j T a => ⟨hfr T (List.mem_of_getElem? a), atT a⟩⟩
end
end K8
set_option Elab.async false
set_option linter.all false
set_option maxRecDepth 100000
set_option maxHeartbeats 4000000
/-! text[::-1] -/
namespace K8
open PySem PySem.Spec PyProof.Rows L2
open SX (S S_len S_cat S_inj)
theorem down_pick (l : Wd) : ∀ n : Nat, n ≤ l.length → (sliceRange ((n : Int) - 1) (-1) (-1)).filterMap ((S l).cps[·]?) = (l.take n).reverse := by
  intro n hn
  have e : sliceRange ((n : Int) - 1) (-1) (-1) = (List.range n).map fun k => n - 1 - k := by
    unfold sliceRange
    have c : (if (-1 : Int) > 0 then (if (n : Int) - 1 < -1 then (-1 - ((n : Int) - 1) + -1 - 1) / -1 else 0) else (if (n : Int) - 1 > -1 then ((n : Int) - 1 - -1 - -1 - 1) / (- -1) else 0)).toNat = n := by
      rw [if_neg (by decide)]
      have e1 : (- -1 : Int) = 1 := by decide
      rw [e1, Int.ediv_one]
      split <;> omega
    show (List.range (if (-1 : Int) > 0 then (if (n : Int) - 1 < -1 then (-1 - ((n : Int) - 1) + -1 - 1) / -1 else 0) else (if (n : Int) - 1 > -1 then ((n : Int) - 1 - -1 - -1 - 1) / (- -1) else 0)).toNat).map (fun (k : Nat) => ((n : Int) - 1 + -1 * (k : Int)).toNat) = _
    rw [c]
    refine List.map_congr_left fun k hk => ?_
    have := List.mem_range.mp hk
    omega
  rw [e]
  have e2 : ∀ i : Nat, (S l).cps[i]? = l[i]? := fun i => by simp [S]
  rw [List.filterMap_map]
  have e3 : (List.range n).filterMap ((fun i => (S l).cps[i]?) ∘ fun k => n - 1 - k) = (List.range n).map fun k => l.getD (n - 1 - k) 0 := by
    have : ∀ m, m ≤ n → (List.range m).filterMap ((fun i => (S l).cps[i]?) ∘ fun k => n - 1 - k) = (List.range m).map fun k => l.getD (n - 1 - k) 0 := by
      intro m
      induction m with
      | zero => intro _; rfl
      | succ m ih =>
        intro hm
        rw [List.range_succ, List.filterMap_append, List.map_append, ih (by omega)]
        congr 1
        have hx : n - 1 - m < l.length := by omega
        simp [hx]
    exact this n (Nat.le_refl _)
  rw [e3]
  refine List.ext_getElem? fun i => ?_
  by_cases hi : i < n
  · have h1 : i < (List.range n).length := by simpa using hi
    rw [List.getElem?_map, List.getElem?_range hi, List.getElem?_reverse (by rw [List.length_take]; omega), List.length_take, Nat.min_eq_left hn, List.getElem?_take_of_lt (by omega)]
    have hx : n - 1 - i < l.length := by omega
    simp [hx]
  · rw [List.getElem?_eq_none (by simp; omega), List.getElem?_eq_none (by rw [List.length_reverse, List.length_take]; omega)]
def tRevS (te : TE) : TE := fun σ H Q => te σ H fun x H1 => ∃ l : Wd, x = .str (S l) ∧ l.length ≤ sizeLine ∧ Q (.str (S l.reverse)) H1
theorem pe_revS {X : Cx} {e : Expr} {te : TE} {k : Nat} {p1 p2 p3 pos : Pos} (he : PE X e te) : PE X (.Subscript e (.Slice none none (some (.UnaryOp .USub (.Constant (.int 1) k p1) p2)) p3) pos) (tRevS te) := by
  refine ⟨fun pins s σ H Q I h => ?_⟩
  refine Subscript_ (thn (he.run pins s σ H _ I h) fun v s1 ⟨x, H1, I1, r1, q1⟩ => ?_)
  obtain ⟨l, ex, hl, q⟩ := q1
  subst ex
  obtain ⟨t, rfl⟩ := r1
  have hst : PO X (some (.UnaryOp .USub (.Constant (.int 1) k p1) p2)) (tPart (tUn (rU fun i => .int (-i)) (tC (.int 1)))) := po_some (pe_un un_neg pe_int)
  refine wpAny_Slice (thn (po_none.run pins s1 σ H1 (fun o H2 => o = none ∧ H2 = H1) I1 ⟨rfl, rfl⟩) fun vl s2 ⟨lo, H2, I2, pl, el, e2⟩ => ?_)
  subst el e2
  refine thn (po_none.run pins s2 σ H2 (fun o H3 => o = none ∧ H3 = H2) I2 ⟨rfl, rfl⟩) fun vu s3 ⟨u, H3, I3, pu, eu, e3⟩ => ?_
  subst eu e3
  refine thn (hst.run pins s3 σ H3 (fun o H4 => o = some (-1) ∧ H4 = H3) I3 ⟨1, rfl, -1, rfl, rfl, rfl⟩) fun vs s4 ⟨o, H4, I4, ps, eo, e4⟩ => ?_
  subst eo e4
  have I5 : Inv X pins σ H4 { s4 with heap := s4.heap.push { cls := .type "slice", data := .fields #[vl, vu, vs] } } := I4.kept (t' := s4.toks) fun b ob q => Heap.get?_push_of_some _ q
  show wpAny (model X.prog X.w) X.A (subscriptTail e (.Slice none none (some (.UnaryOp .USub (.Constant (.int 1) k p1) p2)) p3) (.str (S l) t) (.ref s4.heap.objs.size)) (EP X pins σ Q) X.xe { s4 with heap := s4.heap.push { cls := .type "slice", data := .fields #[vl, vu, vs] } }
  refine tail_any (ops := [.str (S l) t, .ref s4.heap.objs.size]) (typeIs_str _ _ _) (PySem.F.slot_str_getitem.lookup) ?_ (by with_unfolding_all rfl)
  obtain ⟨os, hos, hcs, hds⟩ := Heap.IsSliceOf.new s4.heap vl vu vs
  obtain ⟨a, rfl, ea⟩ := IsPart.raw pl
  obtain ⟨b, rfl, eb⟩ := IsPart.raw pu
  obtain ⟨c, rfl, ec⟩ := IsPart.raw ps
  refine wpAny_getItem_str_slice (l := a) (u := b) (st := c) ⟨os, hos, hcs, hds⟩ (by rw [ec]; decide) ?_
  show Made.post (if ((c.map (·.1)).getD 1 == 1 && (Builtin.Str.strSliceIndices (a.map (·.1)) (b.map (·.1)) ((c.map (·.1)).getD 1) (S l).length).length == (S l).length) = true then Made.val (.str (S l) t)
    else Made.str ⟨((Builtin.Str.strSliceIndices (a.map (·.1)) (b.map (·.1)) ((c.map (·.1)).getD 1) (S l).length).filterMap ((S l).cps[·]?)).toArray⟩) (EP X pins σ Q) _
  rw [ea, eb, ec]
  have e1 : Builtin.Str.strSliceIndices none none ((some (-1 : Int)).getD 1) (S l).length = sliceRange ((l.length : Int) - 1) (-1) (-1) := by
    unfold Builtin.Str.strSliceIndices
    rw [S_len]
    rfl
  have e0 : ((some (-1 : Int)).getD 1 == 1) = false := by decide
  rw [e0, Bool.false_and, if_neg Bool.false_ne_true, e1, down_pick l l.length (Nat.le_refl _), List.take_length]
  exact ⟨by rw [S_len, List.length_reverse]; exact hl, .str _, H4, I5.tok _, ⟨_, rfl⟩, q⟩
end K8
set_option Elab.async false
set_option linter.all false
set_option maxRecDepth 100000
/-! common words -/
namespace K8
open PySem PySem.Spec L2
open SX (S S_len S_cat S_inj)
open LamX (ExtN Tabs)
/-- what a caller knows of a def -/
structure Cal (P : Program) (w : World) (K : PySem.W.Frag) (mg : Str → Option Value) (base : Heap) (x : Str) (k : Nat) (ps : List Str) (sp : Sp) : Prop where
  ex : ∃ f fd, FnOk P w K mg base CX0 k f fd ps sp ∧ mg x = some (.ref f) ∧ PySem.W.keepIn K (.ref f) = true ∧ Binds K fd ps []
theorem pe_cal {X : Cx} {x : Str} {k : Nat} {qs : List Str} {sp : Sp} {p pos : Pos} {e : Expr} {es : List Expr} {t : TA} (G : Cal X.prog X.w X.K X.mg X.base x k qs sp) (hr : Room k X.A) (hg : Gl X x)
    (ha : PA X (e :: es) t) (hdb : (x == ("__debug__" : Str)) = false := by decide) (he : starEach (e :: es) X.env = (false, eval e X.env) :: starEach es X.env := by rfl) (hpl : (backTo pos (starEach es X.env)).any (·.1) = false := by rfl) :
    PE X (.Call (.Name x p) (e :: es) [] pos) (tCall sp [] E0 t) := by
  obtain ⟨f, fd, h1, h2, h3, h4⟩ := G.ex
  exact pe_call h1 hr hg h2 h3 h4 .nil pass0 ha hdb he hpl
/-- the built-in names that the text reads -/
structure Blt (mg : Str → Option Value) : Prop where
  len : mg "len" = none
  range : mg "range" = none
  enumerate : mg "enumerate" = none
  isinstance : mg "isinstance" = none
  str : mg "str" = none
  tuple : mg "tuple" = none
  all : mg "all" = none
  abs : mg "abs" = none
  int : mg "int" = none
  list : mg "list" = none
  bool : mg "bool" = none
  zip : mg "zip" = none
  sorted : mg "sorted" = none
  set : mg "set" = none
theorem same_upd {H : Hp} {p : Addr} {o : HO} (h : H p = none) : Same H (upd H p o) := fun b x e => by
  rw [upd_ne (ne_of_none e h)]
  exact e
theorem same_put {H H1 : Hp} {p : Addr} {o : HO} (s : Same H H1) (h : H p = none) : Same H (upd H1 p o) := fun b x e => by
  rw [upd_ne (ne_of_none e h)]
  exact s _ _ e
theorem sqT_s {K : PySem.W.Frag} {H H' : Hp} {a : Addr} {xs : List V} (e : Same H H') (h : SqT K H a xs) : SqT K H' a xs := by
  rcases h with (h | ⟨o, h⟩) | ⟨h, h2⟩
  · exact .inl (.inl (e _ _ h))
  · exact .inl (.inr ⟨o, e _ _ h⟩)
  · exact .inr ⟨h, h2⟩
theorem line : sizeLine = 2 ^ 24 ∨ 16777216 ≤ sizeLine := by
  first | exact .inl sizeLine_eq | exact .inr (by rw [sizeLine_eq]; decide)
/-- a book at b of the pieces ps -/
def BookAt (C : Addr) (H : Hp) (b : Addr) (ps : List Wd) : Prop := ∃ dx t, H b = some (.ins C dx [("pieces", .ref t)]) ∧ H t = some (.tup (txs ps))
theorem BookAt.same {C : Addr} {H H' : Hp} {b : Addr} {ps : List Wd} (h : BookAt C H b ps) (e : Same H H') : BookAt C H' b ps := by
  obtain ⟨dx, t, h1, h2⟩ := h
  exact ⟨dx, t, e _ _ h1, e _ _ h2⟩
theorem txs_get {ks : List Wd} {i : Nat} {v : V} (h : (txs ks)[i]? = some v) : ∃ k, ks[i]? = some k ∧ v = V.str (S k) := by
  unfold txs at h
  rw [List.getElem?_map] at h
  cases e : ks[i]? with
  | none => rw [e] at h; cases h
  | some k => rw [e] at h; exact ⟨k, rfl, (Option.some.inj h).symm⟩
theorem get_txs {ks : List Wd} {i : Nat} {k : Wd} (h : ks[i]? = some k) : (txs ks)[i]? = some (V.str (S k)) := by
  unfold txs
  rw [List.getElem?_map, h]
  rfl
theorem txs_len (ks : List Wd) : (txs ks).length = ks.length := List.length_map _
end K8
set_option Elab.async false
set_option linter.all false
set_option maxRecDepth 100000
namespace K8
open PySem PySem.Spec L2
open SX (S S_len S_cat S_inj)
section
variable {P : Program} {w : World} {K : PySem.W.Frag} {mg : Str → Option Value} {base : Heap}
abbrev sStruck : Stmt := top 12
abbrev sMeet : Stmt := top 17
structure BkT (K : PySem.W.Frag) (mg : Str → Option Value) (C : Addr) : Prop where
  cl : Cls K C
  nP : NoAttr K C "pieces"
  mgC : mg "Book" = some (.ref C)
/-- raw_struck(book, log, strike) -/
def spStruck (K : PySem.W.Frag) (C : Addr) : Sp := fun vs H Q _ => ∃ (b z : Addr) (ps : List Wd) (log : Wd) (i n : Nat) (p : Wd), vs = [.ref b, .str (S log), .ref z] ∧ BookAt C H b ps ∧ log.length ≤ 100 ∧ p.length ≤ 100 ∧ H z = some (.tup [.int i, .int n]) ∧ ps[n]? = some p ∧ Q (.str (S (cut log i p.length))) H
theorem scStruck : FnScope ["book", "log", "strike"] ["book", "log", "strike"] (defScope sStruck) := ⟨rfl, rfl, rfl, by decide +kernel, rfl, by decide +kernel, by decide +kernel⟩
theorem len_s {K : PySem.W.Frag} {H : Hp} {l : Wd} (h : l.length ≤ sizeLine) : LenV K (.str (S l)) H l.length := ⟨by rw [S_len]; exact h, (S_len l).symm⟩
theorem sl100 {n : Nat} (h : n ≤ 1000000) : n ≤ sizeLine := by have := sizeLine_eq; omega
theorem ok_struck {f C : Addr} {fd : FuncData} (F : Fun K "raw_struck" "raw_struck" sStruck f fd) (B : Blt mg) (T : BkT K mg C) : FnOk P w K mg base CX0 1 f fd ["book", "log", "strike"] (spStruck K C) := by
  refine F.ok scStruck (fun vs H Q E h => ?_) (fun cdv A outer s H vs Q E hr h => ?_)
  · obtain ⟨b, z, ps, log, i, n, p, rfl, _⟩ := h
    rfl
  · obtain ⟨b, z, ps, log, i, n, p, rfl, ⟨dx, t, hb, ht⟩, hl, hp, hz, hn, q⟩ := h
    refine ⟨_, pss_one (ps_ret (pe_op op_add_str (pe_slice sl_str (pv 1) po_none (po_some (pe_ix ix_tup (pv 2) pe_int (fun _ _ => rfl))))
      (pe_slice sl_str (pv 1) (po_some (pe_op op_add (pe_ix ix_tup (pv 2) pe_int (fun _ _ => rfl)) (pe_callB call_len (by rfl) B.len PySem.boot_len (pa_cons (pe_ix ix_tup (pe_fld (pv 0) rfl) (pe_ix ix_tup (pv 2) pe_int (fun _ _ => rfl)) (fun _ _ => rfl)) pa_nil)))) po_none))), ?_⟩
    have hL : (S log).length ≤ sizeLine := by rw [S_len]; exact sl100 (by omega)
    refine ⟨_, rfl, _, rfl, z, _, _, _, rfl, rfl, SqT.of hz, atI_nat (j := 0) rfl, _, rfl, _, rfl, hL, ?_⟩
    refine ⟨_, rfl, _, rfl, z, _, _, _, rfl, rfl, SqT.of hz, atI_nat (j := 0) rfl, _, rfl, b, C, dx, _, _, rfl, hb, T.cl, T.nP, rfl, _, rfl, z, _, _, _, rfl, rfl, SqT.of hz, atI_nat (j := 1) rfl, ?_⟩
    refine ⟨t, _, _, _, rfl, rfl, SqT.of ht, atI_nat (j := n) (get_txs hn), _, _, rfl, len_s (sl100 (by omega)), _, _, rfl, rfl, _, rfl, _, rfl, hL, ?_⟩
    rw [cut_take, show ((i : Int) + ((p.length : Nat) : Int)) = ((i + p.length : Nat) : Int) by omega, cut_drop]
    refine ⟨_, _, rfl, rfl, ?_, ?_⟩
    · rw [S_len, S_len, List.length_take, List.length_drop]
      exact sl100 (by omega)
    · rw [S_cat]
      exact q
end
end K8
set_option Elab.async false
set_option linter.all false
set_option maxRecDepth 100000
namespace K8
open PySem PySem.Spec L2
open SX (S S_len S_cat S_inj)
section
variable {P : Program} {w : World} {K : PySem.W.Frag} {mg : Str → Option Value} {base : Heap}
/-! ### meeting -/
def spMeet : Sp := fun vs H Q _ => ∃ (p q : Wd) (k : Nat), vs = [.str (S p), .str (S q), .int k] ∧ p.length ≤ 100 ∧ q.length ≤ 100 ∧ k ≤ p.length ∧
  (∀ t, Lays p q k t → Q (.str (S t)) H) ∧ ((∀ t, ¬ Lays p q k t) → Q .non H)
theorem scMeet : FnScope ["one", "other", "place", "common"] ["one", "other", "place"] (defScope sMeet) := ⟨rfl, rfl, rfl, by decide +kernel, rfl, by decide +kernel, by decide +kernel⟩
theorem lays_iff (p q : Wd) (k : Nat) : ((p.drop k).take q.length <+: q) ↔ q.take ((p.drop k).take q.length).length = (p.drop k).take q.length := by
  rw [List.prefix_iff_eq_take]
  exact ⟨fun h => h.symm, fun h => h.symm⟩
theorem ok_meet {f : Addr} {fd : FuncData} (F : Fun K "meeting" "meeting" sMeet f fd) (B : Blt mg) : FnOk P w K mg base CX0 1 f fd ["one", "other", "place"] spMeet := by
  refine F.ok scMeet (fun vs H Q E h => ?_) (fun cdv A outer s H vs Q E hr h => ?_)
  · obtain ⟨p, q, k, rfl, _⟩ := h
    rfl
  · obtain ⟨p, q, k, rfl, hp, hq, hk, q1, q2⟩ := h
    refine ⟨_, pss_cons (ps_set (i := 3) scMeet.nd rfl (Or.inl rfl) (pe_slice sl_str (pv 0) (po_some (pv 2)) (po_some (pe_op op_add (pv 2) (pe_callB call_len (by rfl) B.len PySem.boot_len (pa_cons (pv 1) pa_nil))))))
      (pss_one (ps_ret (pe_ifExp (pt_val (pe_bm PySem.F.plainAttrs_str PySem.F.slot_str_startswith PySem.F.type_str_startswith mt_startswith (pv 1) (pa_cons (pv 3) pa_nil)))
        (pe_op op_add_str (pv 0) (pe_slice sl_str (pv 1) (po_some (pe_callB call_len (by rfl) B.len PySem.boot_len (pa_cons (pv 3) pa_nil))) po_none)) pe_non))), ?_⟩
    have hL : ∀ {l : Wd}, l.length ≤ 100 → (S l).length ≤ sizeLine := fun h => by rw [S_len]; exact sl100 (by omega)
    refine ⟨_, rfl, _, rfl, _, rfl, _, rfl, _, rfl, _, _, rfl, len_s (sl100 (by omega)), _, _, rfl, rfl, _, rfl, _, rfl, hL hp, ?_⟩
    rw [cut_mid]
    have hc : ((p.drop k).take q.length).length ≤ 100 := by rw [List.length_take]; omega
    refine ⟨_, rfl, rfl, _, rfl, _, _, rfl, rfl, _, rfl, ?_⟩
    rw [starts]
    by_cases hx : (p.drop k).take q.length <+: q
    · rw [decide_eq_true hx]
      refine ⟨_, rfl, _, rfl, _, rfl, _, _, rfl, len_s (sl100 (by omega)), _, rfl, _, rfl, hL hq, ?_⟩
      rw [cut_drop]
      refine ⟨_, _, rfl, rfl, ?_, ?_⟩
      · rw [S_len, S_len, List.length_drop]
        exact sl100 (by omega)
      · rw [S_cat]
        exact q1 _ ⟨(lays_iff p q k).mp hx, rfl⟩
    · rw [decide_eq_false hx]
      exact q2 fun t ht => hx ((lays_iff p q k).mpr ht.1)
end
end K8
set_option Elab.async false
set_option linter.all false
set_option maxRecDepth 100000
namespace K8
open PySem PySem.Spec L2
open SX (S S_len S_cat S_inj)
section
variable {P : Program} {w : World} {K : PySem.W.Frag} {mg : Str → Option Value} {base : Heap}
/-! ### is_log, is_piece, Book.__init__ -/
abbrev sIsLog : Stmt := top 7
abbrev sIsPiece : Stmt := top 8
abbrev sInit : Stmt := inClass (top 9) 0
def L8 : Wd := [97, 98, 99, 100, 101, 102, 103, 104]
def Alpha (l : Wd) : Prop := ∀ c, c ∈ l → c ∈ L8
structure Con (mg : Str → Option Value) : Prop where
  letters : ∃ t, mg "LETTERS" = some (.str "abcdefgh" t)
  most : ∃ t, mg "MOST_PIECES" = some (.int 12 t)
  long : ∃ t, mg "MOST_LONG" = some (.int 8 t)
def spIsLog : Sp := fun vs H Q _ => ∃ (l : Wd), vs = [.str (S l)] ∧ Alpha l ∧ l.length ≤ 100 ∧ ∀ H', Same H H' → Q (.bl true) H'
theorem scIsLog : FnScope ["thing", "sign"] ["thing"] (defScope sIsLog) := ⟨rfl, rfl, rfl, by decide +kernel, rfl, by decide +kernel, by decide +kernel⟩
theorem tyS {H : Hp} {z : Str} : TyX K H (.str z) (.type "str") := .base (.str z)
theorem ok_isLog {f : Addr} {fd : FuncData} (F : Fun K "is_log" "is_log" sIsLog f fd) (B : Blt mg) (N : Con mg) : FnOk P w K mg base CX0 1 f fd ["thing"] spIsLog := by
  obtain ⟨tk, hL⟩ := N.letters
  refine F.ok scIsLog (fun vs H Q E h => ?_) (fun cdv A outer s H vs Q E hr h => ?_)
  · obtain ⟨l, rfl, _⟩ := h
    rfl
  · obtain ⟨l, rfl, ha, hl, q⟩ := h
    refine ⟨_, pss_one (ps_ret (pe_and (pe_callB call_isi (by rfl) B.isinstance (by decide +kernel) (pa_cons (pv 0) (pa_cons (pe_bltn (v := .ty "str") (by rfl) B.str (by decide +kernel) rfl) pa_nil)))
      (pe_one (pe_callB (cr_all rfl) (by rfl) B.all (by decide +kernel) (pa_cons (pe_lc (own := [("sign", 1)]) (g := gName 1) (tt := tYes) rfl scIsLog.nd (pi_str (pv 0)) (blkOk_by (N := ["thing", "sign"]) (sc := defScope sIsLog) (by decide +kernel))
        (fun _ _ _ _ _ => pg_name (i := 1) scIsLog.nd rfl (Or.inl rfl)) (fun _ _ _ _ _ => pts_nil) (fun _ _ _ _ _ => pe_cmpR op_in_sign (pv 1) (pe_glob (v := .str "abcdefgh") rfl hL ⟨_, rfl⟩) rfl)) pa_nil))))), ?_⟩
    refine ⟨_, rfl, _, _, _, _, true, rfl, .ty _, tyS, kit_ty (by decide +kernel), true, rfl, ?_⟩
    refine ⟨_, rfl, _, rfl, fun D hD => lc_it walk_str (fun i H' => Same H H' ∧ H' D = some (.lst ((List.replicate i true).map V.bl))) ⟨same_upd hD, upd_same⟩ (fun _ _ _ _ => trivial) ?_ ?_⟩
    · rintro i x H1 H2 hi ⟨sm, eD⟩ ⟨rfl, c, hc, rfl⟩
      refine ⟨rfl, ?_⟩
      have hc' : c ∈ l := by
        have : l[i]? = some c := by simpa [S] using hc
        exact List.mem_of_getElem? this
      refine ⟨_, rfl, _, _, rfl, rfl, ?_⟩
      rw [decide_eq_true (show c ∈ ("abcdefgh" : Str).cps.toList from ha c hc')]
      have hi' : i < l.length := by simpa [S] using hi
      refine ⟨_, eD, ?_, ?_, ?_⟩
      · rw [List.length_map, List.length_replicate]
        exact Nat.lt_of_lt_of_le (show i < 1000000 by omega) (sl100 (Nat.le_refl _))
      · exact same_put sm hD
      · rw [upd_same, List.replicate_succ', List.map_append]
        rfl
    · rintro H1 ⟨sm, eD⟩
      refine ⟨_, _, rfl, SqL.of eD, ?_⟩
      rw [show (List.replicate (S l).cps.size true).all id = true by simp]
      exact q _ sm
theorem scIsPiece : FnScope ["thing"] ["thing"] (defScope sIsPiece) := ⟨rfl, rfl, rfl, by decide +kernel, rfl, by decide +kernel, by decide +kernel⟩
def spIsPiece : Sp := fun vs H Q _ => ∃ (l : Wd), vs = [.str (S l)] ∧ Alpha l ∧ 1 ≤ l.length ∧ l.length ≤ 8 ∧ ∀ H', Same H H' → Q (.bl true) H'
theorem ok_isPiece {f : Addr} {fd : FuncData} (F : Fun K "is_piece" "is_piece" sIsPiece f fd) (B : Blt mg) (N : Con mg) (G : Cal P w K mg base "is_log" 1 ["thing"] spIsLog) : FnOk P w K mg base CX0 2 f fd ["thing"] spIsPiece := by
  obtain ⟨tk, hL⟩ := N.long
  refine F.ok scIsPiece (fun vs H Q E h => ?_) (fun cdv A outer s H vs Q E hr h => ?_)
  · obtain ⟨l, rfl, _⟩ := h
    rfl
  · obtain ⟨l, rfl, ha, h1, h8, q⟩ := h
    refine ⟨_, pss_one (ps_ret (pe_and (pe_cal G hr (by rfl) (pa_cons (pv 0) pa_nil))
      (pe_one (pe_chain op_le op_le pe_int (pe_callB call_len (by rfl) B.len PySem.boot_len (pa_cons (pv 0) pa_nil)) (pe_glob (v := .int 8) rfl hL ⟨_, rfl⟩))))), ?_⟩
    refine ⟨_, rfl, l, rfl, ha, by omega, fun H' sm => ⟨_, rfl, ?_⟩⟩
    refine ⟨_, rfl, _, _, rfl, len_s (sl100 (by omega)), _, _, rfl, rfl, _, rfl, ?_⟩
    rw [if_pos (decide_eq_true (by omega))]
    refine ⟨_, _, rfl, rfl, ?_⟩
    show Q (V.bl (decide (((l.length : Nat) : Int) ≤ 8))) H'
    rw [decide_eq_true (by omega)]
    exact q _ sm
theorem scInit : FnScope ["self", "pieces", "number", "piece"] ["self", "pieces"] (defScope sInit) := ⟨rfl, rfl, rfl, by decide +kernel, rfl, by decide +kernel, by decide +kernel⟩
def GoodPs (ps : List Wd) : Prop := ps.Nodup ∧ 1 ≤ ps.length ∧ ps.length ≤ 12 ∧ ∀ p, p ∈ ps → Alpha p ∧ 1 ≤ p.length ∧ p.length ≤ 8
def spInit (C : Addr) : Sp := fun vs H Q _ => ∃ (x dx t : Addr) (ps : List Wd), vs = [.ref x, .ref t] ∧ H x = some (.ins C dx []) ∧ H t = some (.tup (txs ps)) ∧ GoodPs ps ∧
  ∀ H', (∀ b o, b ≠ x → H b = some o → H' b = some o) → H' x = some (.ins C dx [("pieces", .ref t)]) → Q .non H'
theorem txs_flat (ks : List Wd) : (txs ks).all flatV = true := by
  unfold txs
  simp [flatV]
theorem in_txs (k : Wd) (ks : List Wd) : inV (.str (S k)) (txs ks) = decide (k ∈ ks) := by
  unfold inV txs
  rw [List.any_map, Bool.eq_iff_iff]
  simp only [List.any_eq_true, decide_eq_true_eq, Function.comp]
  constructor
  · rintro ⟨y, hy, e⟩
    have e2 : (S y == S k) = true := e
    rw [SX.S_beq_eq] at e2
    exact of_decide_eq_true e2 ▸ hy
  · intro h
    exact ⟨k, h, by show (S k == S k) = true; rw [SX.S_beq_eq]; exact decide_eq_true rfl⟩
theorem cutV_txs (ks : List Wd) (i : Nat) : cutV (txs ks) none (some (i : Int)) = txs (ks.take i) := by
  unfold cutV
  rw [HT.sIx_none, HT.sIx_nat]
  unfold txs
  rw [List.drop_zero, Nat.sub_zero, List.length_map, List.map_take]
  by_cases h : i ≤ ks.length
  · rw [Nat.min_eq_left h]
  · rw [Nat.min_eq_right (by omega), List.take_of_length_le (by simp), List.take_of_length_le (by simp; omega)]
theorem ok_init {f C : Addr} {fd : FuncData} (F : Fun K "__init__" "Book.__init__" sInit f fd) (B : Blt mg) (N : Con mg) (T : BkT K mg C) (G : Cal P w K mg base "is_piece" 2 ["thing"] spIsPiece) : FnOk P w K mg base CX0 3 f fd ["self", "pieces"] (spInit C) := by
  obtain ⟨tk, hL⟩ := N.most
  refine F.ok scInit (fun vs H Q E h => ?_) (fun cdv A outer s H vs Q E hr h => ?_)
  · obtain ⟨x, dx, t, ps, rfl, _⟩ := h
    rfl
  · obtain ⟨x, dx, t, ps, rfl, hx, ht, ⟨nd, g1, g2, g3⟩, q⟩ := h
    refine ⟨_, pss_cons (ps_if (PW.pt (pw_or (pt_not (pt_val (pe_callB call_isi (by rfl) B.isinstance (by decide +kernel) (pa_cons (pv 1) (pa_cons (pe_bltn (v := .ty "tuple") (by rfl) B.tuple (by decide +kernel) rfl) pa_nil)))))
        (pw_or1 (pt_not (pt_chain op_le op_le pe_int (pe_callB call_len (by rfl) B.len PySem.boot_len (pa_cons (pv 1) pa_nil)) (pe_glob (v := .int 12) rfl hL ⟨_, rfl⟩)))))) (pss_one ps_never) pss_nil)
      (pss_cons (ps_for PassesOwn.never rfl (pi_enumT (by rfl) B.enumerate (pa_cons (pv 1) pa_nil)) (pg_tup rfl (pgs_cons (pg_name (i := 2) scInit.nd rfl (Or.inl rfl)) (pgs_cons (pg_name (i := 3) scInit.nd rfl (Or.inl rfl)) pgs_nil)))
        (pss_one (ps_if (PW.pt (pw_or (pt_not (pt_val (pe_cal G hr (by rfl) (pa_cons (pv 3) pa_nil)))) (pw_or1 (pt_cmpR op_in_seq (pv 3) (pe_slice sl_tupA (pv 1) po_none (po_some (pv 2))) rfl)))) (pss_one ps_never) pss_nil)))
      (pss_one (ps_fld (pv 0) (pv 1) rfl))), ?_⟩
    refine ⟨_, rfl, _, _, _, _, true, rfl, .ty _, .base (.tup ht), kit_ty (by decide +kernel), true, rfl, ?_⟩
    refine ⟨_, rfl, _, _, rfl, .inr ⟨_, SqT.of ht, rfl⟩, _, _, rfl, rfl, _, rfl, ?_⟩
    rw [txs_len, if_pos (decide_eq_true (by omega))]
    refine ⟨_, _, rfl, rfl, _, rfl, ?_⟩
    rw [decide_eq_true (by omega)]
    refine ⟨_, rfl, t, _, rfl, SqT.of ht, for_it walk_enumT (fun i σ H' => ∃ y2 y3, σ = [some (.ref x), some (.ref t), y2, y3] ∧ Same H H') ⟨none, none, rfl, Same.refl _⟩ (fun i σ H' _ ⟨_, _, _, sm⟩ => sqT_s sm (SqT.of ht)) ?_ ?_⟩
    · rintro i y σ H1 H2 hi ⟨y2, y3, rfl, sm⟩ ⟨T, u, v, rfl, nT, rfl, e1, e2⟩
      cases e1
      obtain ⟨p, hp, rfl⟩ := txs_get e2
      have smT := sm.trans (same_upd (o := .tup [V.int (i : Nat), .str (S p)]) nT)
      refine ⟨T, _, rfl, SqT.of upd_same, rfl, _, _, rfl, _, _, rfl, rfl, ?_⟩
      obtain ⟨a1, a2, a3⟩ := g3 p (List.mem_of_getElem? hp)
      refine ⟨_, rfl, p, rfl, a1, a2, a3, fun H3 s3 => ⟨true, rfl, ?_⟩⟩
      have s4 := smT.trans s3
      refine ⟨_, rfl, _, rfl, _, rfl, _, rfl, t, _, rfl, sqT_s s4 (SqT.of ht), fun ⟨_, z⟩ => ?_, fun _ c nc => ?_⟩
      · exfalso
        rw [HT.sIx_nat, txs_len] at z
        have := (List.getElem?_eq_some_iff.mp hp).1
        omega
      · rw [cutV_txs]
        refine ⟨c, _, rfl, .inr (SqT.of upd_same), rfl, txs_flat _, _, rfl, ?_⟩
        rw [in_txs, decide_eq_false (fun z => ?_)]
        · exact ⟨_, _, rfl, s4.trans (same_upd nc)⟩
        · obtain ⟨j, hj, e⟩ := List.getElem_of_mem z
          rw [List.getElem_take] at e
          obtain ⟨h2, e3⟩ := List.getElem?_eq_some_iff.mp hp
          rw [List.length_take] at hj
          have := (List.getElem_inj nd).mp (e.trans e3.symm)
          omega
    · rintro σ H1 ⟨y2, y3, rfl, sm⟩
      refine ⟨_, rfl, _, rfl, x, C, dx, _, rfl, sm _ _ hx, T.cl, T.nP, (by show 0 < 1000; decide), ?_⟩
      exact q _ (fun b o nb e => by rw [upd_ne nb]; exact sm _ _ e) upd_same
end
end K8
set_option Elab.async false
set_option linter.all false
set_option maxRecDepth 100000
namespace K8
open PySem PySem.Spec L2
open SX (S S_len S_cat S_inj)
/-- at the addresses zs stand tuples of the pairs xs -/
def TupsAt (H : Hp) (zs : List Addr) (xs : List (Nat × Nat)) : Prop := zs.length = xs.length ∧ ∀ (j : Nat) (z : Addr) (x : Nat × Nat), zs[j]? = some z → xs[j]? = some x → H z = some (.tup [.int (x.1 : Nat), .int (x.2 : Nat)])
theorem TupsAt.nil {H : Hp} : TupsAt H [] [] := ⟨rfl, fun j z x h => by simp at h⟩
theorem TupsAt.keep {H H' : Hp} {zs : List Addr} {xs : List (Nat × Nat)} (t : TupsAt H zs xs) (k : ∀ b ys, H b = some (.tup ys) → H' b = some (.tup ys)) : TupsAt H' zs xs := ⟨t.1, fun j z x h1 h2 => k _ _ (t.2 j z x h1 h2)⟩
theorem TupsAt.app {H : Hp} {zs zs' : List Addr} {xs xs' : List (Nat × Nat)} (t : TupsAt H zs xs) (t' : TupsAt H zs' xs') : TupsAt H (zs ++ zs') (xs ++ xs') := by
  refine ⟨by rw [List.length_append, List.length_append, t.1, t'.1], fun j z x h1 h2 => ?_⟩
  by_cases hj : j < zs.length
  · rw [List.getElem?_append_left hj] at h1
    rw [List.getElem?_append_left (by rw [← t.1]; exact hj)] at h2
    exact t.2 j z x h1 h2
  · rw [List.getElem?_append_right (by omega)] at h1
    rw [List.getElem?_append_right (by rw [← t.1]; omega), ← t.1] at h2
    exact t'.2 _ z x h1 h2
theorem TupsAt.one {H : Hp} {z : Addr} {x : Nat × Nat} (h : H z = some (.tup [.int (x.1 : Nat), .int (x.2 : Nat)])) : TupsAt H [z] [x] := ⟨rfl, fun j y x' h1 h2 => by
  cases j with
  | zero => cases h1; cases h2; exact h
  | succ j => simp at h1⟩
theorem keep_upd {H : Hp} {p : Addr} {o : HO} (h : ∀ ys, H p ≠ some (.tup ys)) : ∀ b ys, H b = some (.tup ys) → (upd H p o) b = some (.tup ys) := fun b ys e => by
  rw [upd_ne (fun z => h ys (by rw [← z]; exact e))]
  exact e
theorem keep_new {H : Hp} {p : Addr} {o : HO} (h : H p = none) : ∀ b ys, H b = some (.tup ys) → (upd H p o) b = some (.tup ys) := keep_upd fun ys z => by rw [h] at z; cases z
theorem keep_lst {H : Hp} {p : Addr} {o : HO} {xs : List V} (h : H p = some (.lst xs)) : ∀ b ys, H b = some (.tup ys) → (upd H p o) b = some (.tup ys) := keep_upd fun ys z => by rw [h] at z; cases z
theorem refs_len (zs : List Addr) : (zs.map V.ref).length = zs.length := List.length_map _
/-- the strikes to a place; the numbers to a number -/
def strikesTo (ps : List Wd) (log : Wd) (i : Nat) : List (Nat × Nat) := (List.range i).flatMap fun i => (nums ps (log.drop i)).map fun n => (i, n)
def numsTo (ps : List Wd) (d : Wd) (j : Nat) : List Nat := (List.range j).filter fun n => decide ((ps.getD n []) <+: d)
theorem strikesTo_all (ps : List Wd) (log : Wd) : strikesTo ps log log.length = strikes ps log := rfl
theorem numsTo_all (ps : List Wd) (d : Wd) : numsTo ps d ps.length = nums ps d := rfl
theorem strikesTo_succ (ps : List Wd) (log : Wd) (i : Nat) : strikesTo ps log (i + 1) = strikesTo ps log i ++ (nums ps (log.drop i)).map fun n => (i, n) := by
  unfold strikesTo
  rw [List.range_succ, List.flatMap_append]
  simp
theorem numsTo_succ (ps : List Wd) (d : Wd) (j : Nat) : numsTo ps d (j + 1) = numsTo ps d j ++ (if (ps.getD j []) <+: d then [j] else []) := by
  unfold numsTo
  rw [List.range_succ, List.filter_append]
  by_cases h : (ps.getD j []) <+: d
  · rw [if_pos h, List.filter_cons_of_pos (by simpa using h)]; rfl
  · rw [if_neg h, List.filter_cons_of_neg (by simpa using h)]; rfl
theorem numsTo_le (ps : List Wd) (d : Wd) (j : Nat) : (numsTo ps d j).length ≤ j := by
  have := List.length_filter_le (fun n => decide ((ps.getD n []) <+: d)) (List.range j)
  rw [List.length_range] at this
  exact this
theorem strikesTo_le (ps : List Wd) (log : Wd) (i : Nat) : (strikesTo ps log i).length ≤ i * ps.length := by
  have := flatMap_le (fun i => (nums ps (log.drop i)).map fun n => (i, n)) ps.length (List.range i) (fun a _ => by rw [List.length_map]; exact nums_le ps _)
  rw [List.length_range] at this
  exact this
/-- a new list of the strikes stands at p -/
def StrikesAt (H : Hp) (p : Addr) (ps : List Wd) (log : Wd) : Prop := ∃ zs, H p = some (.lst (zs.map V.ref)) ∧ TupsAt H zs (strikes ps log)
section
variable {P : Program} {w : World} {K : PySem.W.Frag} {mg : Str → Option Value} {base : Heap}
abbrev sRaw : Stmt := top 11
def spRaw (C : Addr) : Sp := fun vs H Q _ => ∃ (b : Addr) (ps : List Wd) (log : Wd), vs = [.ref b, .str (S log)] ∧ BookAt C H b ps ∧ log.length ≤ 100 ∧ ps.length ≤ 12 ∧ (∀ p, p ∈ ps → p.length ≤ 100) ∧ ∀ H' p, Same H H' → H p = none → StrikesAt H' p ps log → Q (.ref p) H'
theorem scRaw : FnScope ["book", "log", "found", "place", "number", "piece"] ["book", "log"] (defScope sRaw) := ⟨rfl, rfl, rfl, by decide +kernel, rfl, by decide +kernel, by decide +kernel⟩
theorem getD_of {ps : List Wd} {i : Nat} {p : Wd} (h : ps[i]? = some p) : ps.getD i [] = p := by
  rw [List.getD_eq_getElem?_getD, h]
  rfl
theorem cells_size (l : Wd) : (S l).cps.size = l.length := by simp [S]
theorem ok_raw {f C : Addr} {fd : FuncData} (F : Fun K "raw_strikes" "raw_strikes" sRaw f fd) (B : Blt mg) (T : BkT K mg C) : FnOk P w K mg base CX0 1 f fd ["book", "log"] (spRaw C) := by
  refine F.ok scRaw (fun vs H Q E h => ?_) (fun cdv A outer s H vs Q E hr h => ?_)
  · obtain ⟨b, ps, log, rfl, _⟩ := h
    rfl
  · obtain ⟨b, ps, log, rfl, ⟨dx, t, hb, ht⟩, hl, hps, hp, q⟩ := h
    refine ⟨_, pss_cons (ps_set (i := 2) scRaw.nd rfl (Or.inl rfl) (pe_lst pa_nil))
      (pss_cons (ps_for PassesOwn.never rfl (pi_range1 rfl B.range (pa_cons (pe_callB call_len (by rfl) B.len PySem.boot_len (pa_cons (pv 1) pa_nil)) pa_nil)) (pg_name (i := 3) scRaw.nd rfl (Or.inr rfl))
        (pss_one (ps_expr (pe_bm PySem.F.plainAttrs_list PySem.F.slot_list_extend PySem.F.type_list_extend mt_extend (pv 2) (pa_cons
          (pe_lc (own := [("number", 4), ("piece", 5)]) (g := gTup K 2 (gCons (gName 4) (gCons (gName 5) gNil))) (tt := tB (tBM K _ _ _ _)) rfl scRaw.nd (pi_enumT (by rfl) B.enumerate (pa_cons (pe_fld (pv 0) rfl) pa_nil)) (blkOk_by (N := ["book", "log", "found", "place", "number", "piece"]) (sc := defScope sRaw) (by decide +kernel))
            (fun _ _ _ _ _ => pg_tup rfl (pgs_cons (pg_name (i := 4) scRaw.nd rfl (Or.inl rfl)) (pgs_cons (pg_name (i := 5) scRaw.nd rfl (Or.inl rfl)) pgs_nil)))
            (fun _ _ _ _ _ => pts_one (pt_val (pe_bm PySem.F.plainAttrs_str PySem.F.slot_str_startswith PySem.F.type_str_startswith mt_startswith3 (pv 1) (pa_cons (pv 5) (pa_cons (pv 3) pa_nil)))))
            (fun _ _ _ _ _ => pe_tup (pa_cons (pv 3) (pa_cons (pv 4) pa_nil)))) pa_nil)))))
      (pss_one (ps_ret (pv 2)))), ?_⟩
    refine ⟨Nat.zero_le _, fun o no => ?_⟩
    refine ⟨_, rfl, _, _, rfl, len_s (sl100 (by omega)), (log.length : Int), rfl, by omega, by omega, ?_⟩
    refine for_range (n := log.length) (fun i σ H' => ∃ y3, σ = [some (.ref b), some (.str (S log)), some (.ref o), y3, none, none] ∧ Same H H' ∧ ∃ zs, H' o = some (.lst (zs.map V.ref)) ∧ TupsAt H' zs (strikesTo ps log i))
      ⟨_, rfl, same_upd no, [], upd_same, TupsAt.nil⟩ ?_ ?_
    · rintro i σ H1 hi ⟨y3, rfl, sm, zs, ho, tz⟩
      have lz : zs.length ≤ i * ps.length := by rw [tz.1]; exact strikesTo_le ps log i
      have lz2 : i * ps.length ≤ 100 * 12 := Nat.mul_le_mul (by omega) hps
      rw [show ((0 : Int) + (i : Int)) = (i : Int) by omega]
      refine ⟨_, rfl, .inl ⟨rfl, _, SqL.of ho⟩, _, rfl, b, C, dx, _, _, rfl, sm _ _ hb, T.cl, T.nP, rfl, t, _, rfl, sqT_s sm (SqT.of ht), fun D nD => ?_⟩
      have nDo : o ≠ D := ne_of_none ho nD
      refine lc_it walk_enumT (fun j H' => Same H H' ∧ H' o = some (.lst (zs.map V.ref)) ∧ TupsAt H' zs (strikesTo ps log i) ∧ ∃ us, H' D = some (.lst (us.map V.ref)) ∧ TupsAt H' us ((numsTo ps (log.drop i) j).map fun n => (i, n)))
        ⟨sm.trans (same_upd nD), by rw [upd_ne nDo]; exact ho, tz.keep (keep_new nD), [], upd_same, TupsAt.nil⟩ (fun i H' _ ⟨s2, _⟩ => sqT_s s2 (SqT.of ht)) ?_ ?_
      · rintro j x H2 H3 hj ⟨s2, o2, t2, us, d2, u2⟩ ⟨Tp, x1, x2, rfl, nT, rfl, e1, e2⟩
        cases e1
        obtain ⟨p, hpp, rfl⟩ := txs_get e2
        have sT := same_upd (o := .tup [V.int (j : Nat), .str (S p)]) nT
        refine ⟨Tp, _, rfl, SqT.of upd_same, rfl, _, _, rfl, _, _, rfl, rfl, rfl, ?_⟩
        refine ⟨_, rfl, rfl, _, rfl, _, rfl, _, _, _, rfl, rfl, _, rfl, ?_⟩
        rw [starts3 _ _ _ (by omega)]
        have gp := getD_of hpp
        refine ite2 (fun hx0 => ?_) (fun hx0 => ?_)
        · have hx := of_decide_eq_true hx0
          refine ⟨_, rfl, _, rfl, (by show 2 ≤ sizeLine; decide), fun y ny => ?_⟩
          have sY := sT.trans (same_upd (o := .tup [V.int (i : Nat), .int (j : Nat)]) ny)
          have ed := sY _ _ d2
          have eo := sY _ _ o2
          refine ⟨_, ed, ?_, fun b0 o0 e0 => ?_, ?_, ?_, us ++ [y], ?_, ?_⟩
          · rw [refs_len, u2.1, List.length_map]
            have := numsTo_le ps (log.drop i) j
            have hj' : j < ps.length := by rw [txs_len] at hj; exact hj
            exact Nat.lt_of_lt_of_le (show _ < 1000000 by omega) (sl100 (Nat.le_refl _))
          · rw [upd_ne (ne_of_none (sm _ _ e0) nD)]
            exact sY _ _ (s2 _ _ e0)
          · rw [upd_ne nDo]
            exact eo
          · exact (t2.keep fun b ys e => sY _ _ e).keep (keep_lst ed)
          · rw [upd_same, List.map_append]
            rfl
          · have ny' : y ≠ D := fun z => by rw [z] at ny; rw [sT _ _ d2] at ny; cases ny
            rw [numsTo_succ, gp, if_pos hx, List.map_append]
            exact ((u2.keep fun b ys e => sY _ _ e).keep (keep_lst ed)).app (TupsAt.one (by rw [upd_ne ny', upd_same]))
        · have hx : ¬ p <+: log.drop i := fun z => hx0 (decide_eq_true z)
          refine ⟨s2.trans sT, sT _ _ o2, t2.keep (keep_new nT), us, sT _ _ d2, ?_⟩
          rw [numsTo_succ, gp, if_neg hx, List.append_nil]
          exact u2.keep (keep_new nT)
      · rintro H2 ⟨s2, o2, t2, us, d2, u2⟩
        rw [txs_len, numsTo_all] at u2
        refine ⟨o, D, _, _, rfl, rfl, o2, d2, ?_, ?_⟩
        · rw [refs_len, refs_len, u2.1, List.length_map]
          have := nums_le ps (log.drop i)
          exact Nat.le_trans (show _ ≤ 1000000 by omega) (sl100 (Nat.le_refl _))
        · refine ⟨_, rfl, fun b0 o0 e0 => ?_, zs ++ us, ?_, ?_⟩
          · rw [upd_ne (ne_of_none e0 no)]
            exact s2 _ _ e0
          · rw [upd_same, List.map_append]
          · rw [strikesTo_succ]
            exact (t2.keep (keep_lst o2)).app (u2.keep (keep_lst o2))
    · rintro σ H1 ⟨y3, rfl, sm, zs, ho, tz⟩
      rw [strikesTo_all] at tz
      exact ⟨_, rfl, q _ _ sm no ⟨zs, ho, tz⟩⟩
end
end K8
set_option Elab.async false
set_option linter.all false
set_option maxRecDepth 100000
namespace K8
open PySem PySem.Spec L2
open SX (S S_len S_cat S_inj)
section
variable {P : Program} {w : World} {K : PySem.W.Frag} {mg : Str → Option Value} {base : Heap}
abbrev sLStrikes : Stmt := top 26
abbrev sLStruck : Stmt := top 27
def spLStrikes (K : PySem.W.Frag) : Sp := fun vs H Q _ => ∃ (t : Addr) (ps : List Wd) (log : Wd), vs = [.ref t, .str (S log)] ∧ H t = some (.tup (txs ps)) ∧ log.length ≤ 100 ∧ ps.length ≤ 12 ∧ (∀ p, p ∈ ps → p.length ≤ 100) ∧ ∀ H' p, Same H H' → H p = none → StrikesAt H' p ps log → Q (.ref p) H'
theorem scLStrikes : FnScope ["_law_pieces_here", "_law_log", "_law_found", "_law_place", "_law_number", "_law_piece"] ["_law_pieces_here", "_law_log"] (defScope sLStrikes) := ⟨rfl, rfl, rfl, by decide +kernel, rfl, by decide +kernel, by decide +kernel⟩
theorem ok_lstrikes {f : Addr} {fd : FuncData} (F : Fun K "_law_strikes" "_law_strikes" sLStrikes f fd) (B : Blt mg) : FnOk P w K mg base CX0 1 f fd ["_law_pieces_here", "_law_log"] (spLStrikes K) := by
  refine F.ok scLStrikes (fun vs H Q E h => ?_) (fun cdv A outer s H vs Q E hr h => ?_)
  · obtain ⟨b, ps, log, rfl, _⟩ := h
    rfl
  · obtain ⟨t, ps, log, rfl, ht, hl, hps, hp, q⟩ := h
    refine ⟨_, pss_cons (ps_set (i := 2) scLStrikes.nd rfl (Or.inl rfl) (pe_lst pa_nil))
      (pss_cons (ps_for PassesOwn.never rfl (pi_range1 rfl B.range (pa_cons (pe_callB call_len (by rfl) B.len PySem.boot_len (pa_cons (pv 1) pa_nil)) pa_nil)) (pg_name (i := 3) scLStrikes.nd rfl (Or.inl rfl))
        (pss_one (ps_for PassesOwn.never rfl (pi_enumT (by rfl) B.enumerate (pa_cons (pv 0) pa_nil)) (pg_tup rfl (pgs_cons (pg_name (i := 4) scLStrikes.nd rfl (Or.inl rfl)) (pgs_cons (pg_name (i := 5) scLStrikes.nd rfl (Or.inl rfl)) pgs_nil)))
          (pss_one (ps_if (pt_cmpR op_eq (pe_slice sl_str (pv 1) (po_some (pv 3)) (po_some (pe_op op_add (pv 3) (pe_callB call_len (by rfl) B.len PySem.boot_len (pa_cons (pv 5) pa_nil))))) (pv 5) (nomark _))
            (pss_one (ps_expr (pe_bm PySem.F.plainAttrs_list PySem.F.slot_list_append PySem.F.type_list_append mt_append (pv 2) (pa_cons (pe_tup (pa_cons (pv 3) (pa_cons (pv 4) pa_nil))) pa_nil)))) pss_nil)))))
      (pss_one (ps_ret (pv 2)))), ?_⟩
    refine ⟨Nat.zero_le _, fun o no => ?_⟩
    refine ⟨_, rfl, _, _, rfl, len_s (sl100 (by omega)), (log.length : Int), rfl, by omega, by omega, ?_⟩
    refine for_range (n := log.length) (fun i σ H' => ∃ y3 y4 y5, σ = [some (.ref t), some (.str (S log)), some (.ref o), y3, y4, y5] ∧ Same H H' ∧ ∃ zs, H' o = some (.lst (zs.map V.ref)) ∧ TupsAt H' zs (strikesTo ps log i))
      ⟨_, _, _, rfl, same_upd no, [], upd_same, TupsAt.nil⟩ ?_ ?_
    · rintro i σ H1 hi ⟨y3, y4, y5, rfl, sm, zs, ho, tz⟩
      have lz2 : i * ps.length ≤ 100 * 12 := Nat.mul_le_mul (by omega) hps
      rw [show ((0 : Int) + (i : Int)) = (i : Int) by omega]
      refine ⟨_, rfl, t, _, rfl, sqT_s sm (SqT.of ht), ?_⟩
      refine for_it walk_enumT (fun j σ H' => ∃ y4 y5, σ = [some (.ref t), some (.str (S log)), some (.ref o), some (.int (i : Nat)), y4, y5] ∧ Same H H' ∧ ∃ zs, H' o = some (.lst (zs.map V.ref)) ∧ TupsAt H' zs (strikesTo ps log i ++ (numsTo ps (log.drop i) j).map fun n => (i, n)))
        ⟨_, _, rfl, sm, zs, ho, by simpa [numsTo] using tz⟩ (fun i σ H' _ ⟨_, _, _, s2, _⟩ => sqT_s s2 (SqT.of ht)) ?_ ?_
      · rintro j x σ H2 H3 hj ⟨y4, y5, rfl, s2, zs, o2, t2⟩ ⟨Tp, x1, x2, rfl, nT, rfl, e1, e2⟩
        cases e1
        obtain ⟨p, hpp, rfl⟩ := txs_get e2
        have sT := same_upd (o := .tup [V.int (j : Nat), .str (S p)]) nT
        have lp := hp p (List.mem_of_getElem? hpp)
        refine ⟨Tp, _, rfl, SqT.of upd_same, rfl, _, _, rfl, _, _, rfl, rfl, ?_⟩
        refine ⟨_, rfl, _, rfl, _, rfl, _, rfl, _, rfl, _, _, rfl, len_s (sl100 (by omega)), _, _, rfl, rfl, _, rfl, _, rfl, by rw [S_len]; exact sl100 (by omega), _, rfl, rfl, _, rfl, ?_⟩
        rw [cut_mid, str_dec]
        have gp := getD_of hpp
        refine ite2 (fun hx0 => ?_) (fun hx0 => ?_)
        · have hx : p <+: log.drop i := List.prefix_iff_eq_take.mpr (of_decide_eq_true hx0).symm
          refine ⟨_, rfl, .inl ⟨rfl, _, SqL.of (sT _ _ o2)⟩, _, rfl, _, rfl, (by show 2 ≤ sizeLine; decide), fun y ny => ?_⟩
          have sY := sT.trans (same_upd (o := .tup [V.int (i : Nat), .int (j : Nat)]) ny)
          have eo := sY _ _ o2
          have yo : y ≠ o := fun z => by rw [z] at ny; rw [sT _ _ o2] at ny; cases ny
          refine ⟨o, _, _, rfl, rfl, eo, ?_, ?_⟩
          · rw [refs_len, t2.1, List.length_append, List.length_map]
            have := numsTo_le ps (log.drop i) j
            have := strikesTo_le ps log i
            have hj' : j < ps.length := by rw [txs_len] at hj; exact hj
            exact Nat.lt_of_lt_of_le (show _ < 1000000 by omega) (sl100 (Nat.le_refl _))
          · refine ⟨_, _, rfl, fun b0 o0 e0 => ?_, zs ++ [y], ?_, ?_⟩
            · rw [upd_ne (ne_of_none e0 no)]
              exact sY _ _ (s2 _ _ e0)
            · rw [upd_same, List.map_append]
              rfl
            · rw [numsTo_succ, gp, if_pos hx, List.map_append, ← List.append_assoc]
              exact ((t2.keep fun b ys e => sY _ _ e).keep (keep_lst eo)).app (TupsAt.one (by rw [upd_ne yo, upd_same]))
        · have hx : ¬ p <+: log.drop i := fun z => hx0 (decide_eq_true (List.prefix_iff_eq_take.mp z).symm)
          refine ⟨_, _, rfl, s2.trans sT, zs, sT _ _ o2, ?_⟩
          rw [numsTo_succ, gp, if_neg hx, List.append_nil]
          exact t2.keep (keep_new nT)
      · rintro σ H2 ⟨y4, y5, rfl, s2, zs, o2, t2⟩
        rw [txs_len, numsTo_all, ← strikesTo_succ] at t2
        exact ⟨_, _, _, rfl, s2, zs, o2, t2⟩
    · rintro σ H1 ⟨y3, y4, y5, rfl, sm, zs, ho, tz⟩
      rw [strikesTo_all] at tz
      exact ⟨_, rfl, q _ _ sm no ⟨zs, ho, tz⟩⟩
def spLStruck : Sp := fun vs H Q _ => ∃ (t z : Addr) (ps : List Wd) (log : Wd) (i n : Nat) (p : Wd), vs = [.ref t, .str (S log), .ref z] ∧ H t = some (.tup (txs ps)) ∧ log.length ≤ 100 ∧ p.length ≤ 100 ∧ H z = some (.tup [.int i, .int n]) ∧ ps[n]? = some p ∧ Q (.str (S (cut log i p.length))) H
theorem scLStruck : FnScope ["_law_pieces_here", "_law_log", "_law_strike"] ["_law_pieces_here", "_law_log", "_law_strike"] (defScope sLStruck) := ⟨rfl, rfl, rfl, by decide +kernel, rfl, by decide +kernel, by decide +kernel⟩
theorem ok_lstruck {f : Addr} {fd : FuncData} (F : Fun K "_law_struck" "_law_struck" sLStruck f fd) (B : Blt mg) : FnOk P w K mg base CX0 1 f fd ["_law_pieces_here", "_law_log", "_law_strike"] spLStruck := by
  refine F.ok scLStruck (fun vs H Q E h => ?_) (fun cdv A outer s H vs Q E hr h => ?_)
  · obtain ⟨b, z, ps, log, i, n, p, rfl, _⟩ := h
    rfl
  · obtain ⟨t, z, ps, log, i, n, p, rfl, ht, hl, hp, hz, hn, q⟩ := h
    refine ⟨_, pss_one (ps_ret (pe_op op_add_str (pe_slice sl_str (pv 1) po_none (po_some (pe_ix ix_tup (pv 2) pe_int (fun _ _ => rfl))))
      (pe_slice sl_str (pv 1) (po_some (pe_op op_add (pe_ix ix_tup (pv 2) pe_int (fun _ _ => rfl)) (pe_callB call_len (by rfl) B.len PySem.boot_len (pa_cons (pe_ix ix_tup (pv 0) (pe_ix ix_tup (pv 2) pe_int (fun _ _ => rfl)) (fun _ _ => rfl)) pa_nil)))) po_none))), ?_⟩
    have hL : (S log).length ≤ sizeLine := by rw [S_len]; exact sl100 (by omega)
    refine ⟨_, rfl, _, rfl, z, _, _, _, rfl, rfl, SqT.of hz, atI_nat (j := 0) rfl, _, rfl, _, rfl, hL, ?_⟩
    refine ⟨_, rfl, _, rfl, z, _, _, _, rfl, rfl, SqT.of hz, atI_nat (j := 0) rfl, _, rfl, _, rfl, z, _, _, _, rfl, rfl, SqT.of hz, atI_nat (j := 1) rfl, ?_⟩
    refine ⟨t, _, _, _, rfl, rfl, SqT.of ht, atI_nat (j := n) (get_txs hn), _, _, rfl, len_s (sl100 (by omega)), _, _, rfl, rfl, _, rfl, _, rfl, hL, ?_⟩
    rw [cut_take, show ((i : Int) + ((p.length : Nat) : Int)) = ((i + p.length : Nat) : Int) by omega, cut_drop]
    refine ⟨_, _, rfl, rfl, ?_, ?_⟩
    · rw [S_len, S_len, List.length_take, List.length_drop]
      exact sl100 (by omega)
    · rw [S_cat]
      exact q
end
end K8
set_option Elab.async false
set_option linter.all false
set_option maxRecDepth 100000
namespace K8
open PySem PySem.Spec L2
open SX (S S_len S_cat S_inj)
/-- the dict of these texts -/
def dks (ks : List Wd) : List (Key × V) := ks.map fun k => (Sum.inr (S k), V.bl true)
theorem dks_len (ks : List Wd) : (dks ks).length = ks.length := List.length_map _
theorem val_dks (k : Wd) : ∀ ks : List Wd, valV (dks ks) (Sum.inr (S k)) = if k ∈ ks then some (.bl true) else none
  | [] => rfl
  | j :: ks => by
    by_cases e : j = k
    · subst e
      rw [if_pos (List.mem_cons_self ..)]
      exact valV_pos (p := (Sum.inr (S j), V.bl true)) (r := dks ks) rfl
    · have e2 : ¬ ((Sum.inr (S j), V.bl true) : Key × V).1 = Sum.inr (S k) := fun z => e (S_inj (Sum.inr.inj z))
      refine (valV_neg (r := dks ks) e2).trans ?_
      rw [val_dks k ks]
      have : (k ∈ j :: ks) ↔ k ∈ ks := by
        rw [List.mem_cons]
        exact ⟨fun h => h.elim (fun z => absurd z.symm e) id, .inr⟩
      by_cases h : k ∈ ks
      · rw [if_pos h, if_pos (this.mpr h)]
      · rw [if_neg h, if_neg (fun z => h (this.mp z))]
theorem put_dks {k : Wd} {ks : List Wd} (h : k ∉ ks) : putK (dks ks) (Sum.inr (S k)) (.bl true) = dks (ks ++ [k]) := by
  rw [putK_new _ (by rw [val_dks, if_neg h])]
  unfold dks
  rw [List.map_append]
  rfl
theorem put_dks2 {k : Wd} {ks : List Wd} (h : k ∈ ks) : putK (dks ks) (Sum.inr (S k)) (.bl true) = dks ks := by
  unfold putK
  rw [valV_any, val_dks, if_pos h]
  refine (if_pos (show (some (V.bl true)).isSome = true from rfl)).trans ?_
  unfold dks
  rw [List.map_map]
  refine List.map_congr_left fun j _ => ?_
  show (if (Sum.inr (S j) : Key) = Sum.inr (S k) then ((Sum.inr (S j) : Key), V.bl true) else (Sum.inr (S j), V.bl true)) = _
  by_cases e : (Sum.inr (S j) : Key) = Sum.inr (S k)
  · rw [if_pos e]
  · rw [if_neg e]
/-- a dict of all that is left of log -/
def FloodAt (H : Hp) (d : Addr) (ps : List Wd) (log : Wd) : Prop := ∃ ks, H d = some (.dK (dks ks)) ∧ ks.Nodup ∧ ∀ t, t ∈ ks ↔ Rch ps log t
/-- the pieces of a flood -/
def Ok1 (ps : List Wd) : Prop := ps.length ≤ 12 ∧ NoNil ps ∧ ∀ p, p ∈ ps → p.length ≤ 8
/-- the j-th strike of here -/
theorem strike_at {ps : List Wd} {here : Wd} {j i n : Nat} (h : (strikes ps here)[j]? = some (i, n)) : ∃ p, ps[n]? = some p ∧ ps.getD n [] = p := by
  have m := mem_strikes.mp (List.mem_of_getElem? h)
  refine ⟨ps[n], List.getElem?_eq_getElem m.2.1, ?_⟩
  rw [List.getD_eq_getElem?_getD, List.getElem?_eq_getElem m.2.1]
  rfl
theorem rch_len {ps : List Wd} {a b : Wd} (h : Rch ps a b) : b.length ≤ a.length := h.sub.length_le
theorem snoc_of {α : Type} {xs : List α} (h : xs ≠ []) : ∃ ys y, xs = ys ++ [y] := ⟨xs.dropLast, xs.getLast h, (List.dropLast_concat_getLast h).symm⟩
section
variable {P : Program} {w : World} {K : PySem.W.Frag} {mg : Str → Option Value} {base : Heap}
abbrev sAll : Stmt := top 14
def spAll (C : Addr) : Sp := fun vs H Q _ => ∃ (b : Addr) (ps : List Wd) (log : Wd), vs = [.ref b, .str (S log), .non] ∧ BookAt C H b ps ∧ log.length ≤ 15 ∧ Ok1 ps ∧ ∀ H' d, Same H H' → H d = none → FloodAt H' d ps log → Q (.ref d) H'
theorem scAll : FnScope ["book", "log", "most", "found", "waiting", "here", "strike", "later"] ["book", "log", "most"] (defScope sAll) := ⟨rfl, rfl, rfl, by decide +kernel, rfl, by decide +kernel, by decide +kernel⟩
/-- where the flood stands: found F, waiting W, the one at hand -/
structure Fl (ps : List Wd) (log : Wd) (F W : List Wd) (hd : Option Wd) : Prop where
  nd : F.Nodup
  rch : ∀ t, t ∈ F → Rch ps log t
  log : log ∈ F
  sub : ∀ t, t ∈ W → t ∈ F
  cur : ∀ t, hd = some t → t ∈ F
  cl : ∀ t, t ∈ F → t ∉ W → hd ≠ some t → ∀ u, St ps t u → u ∈ F
  le : W.length ≤ F.length
theorem Fl.size {ps : List Wd} {log : Wd} {F W : List Wd} {hd : Option Wd} (f : Fl ps log F W hd) (hl : log.length ≤ 15) : F.length ≤ 32768 := by
  have h1 := flood_le f.nd f.rch
  have h2 : 2 ^ log.length ≤ 2 ^ 15 := Nat.pow_le_pow_right (by decide) hl
  exact Nat.le_trans h1 (Nat.le_trans h2 (by decide))
theorem ok_all {f C : Addr} {fd : FuncData} (F : Fun K "all_left" "all_left" sAll f fd) (B : Blt mg) (GR : Cal P w K mg base "raw_strikes" 1 ["book", "log"] (spRaw C)) (GS : Cal P w K mg base "raw_struck" 1 ["book", "log", "strike"] (spStruck K C)) :
    FnOk P w K mg base CX0 2 f fd ["book", "log", "most"] (spAll C) := by
  refine F.ok scAll (fun vs H Q E h => ?_) (fun cdv A outer s H vs Q E hr h => ?_)
  · obtain ⟨b, ps, log, rfl, _⟩ := h
    rfl
  · obtain ⟨b, ps, log, rfl, hb, hl, ⟨hps, hn, hp8⟩, q⟩ := h
    have hu := hu_of hr
    refine ⟨_, pss_cons (ps_set (i := 3) scAll.nd rfl (Or.inl rfl) (pe_disp (pps_cons (pv 1) pe_bl pps_nil) (by rfl) (by rfl) (fun z => by cases z) (by decide)))
      (pss_cons (ps_set (i := 4) scAll.nd rfl (Or.inl rfl) (pe_lst (pa_cons (pv 1) pa_nil)))
      (pss_cons (ps_while PassesOwn.never (pt_cmpR op_gt (pe_callB call_len (by rfl) B.len PySem.boot_len (pa_cons (pv 4) pa_nil)) pe_int (nomark _))
        (pss_cons (ps_set (i := 5) scAll.nd rfl (Or.inl rfl) (pe_bm0 PySem.F.plainAttrs_list PySem.F.slot_list_pop PySem.F.type_list_pop mt_pop (pv 4)))
        (pss_cons (ps_for PassesOwn.never rfl (pi_list (pe_cal GR hr (by rfl) (pa_cons (pv 0) (pa_cons (pv 5) pa_nil)))) (pg_name (i := 6) scAll.nd rfl (Or.inl rfl))
          (pss_cons (ps_set (i := 7) scAll.nd rfl (Or.inl rfl) (pe_cal GS hr (by rfl) (pa_cons (pv 0) (pa_cons (pv 5) (pa_cons (pv 6) pa_nil)))))
          (pss_one (ps_if (pt_cmp (pc_dnotin hu (pv 7) (pv 3)))
            (pss_cons (ps_dput hu (pv 3) (pv 7) pe_bl rfl) (pss_one (ps_expr (pe_bm PySem.F.plainAttrs_list PySem.F.slot_list_append PySem.F.type_list_append mt_append (pv 4) (pa_cons (pv 7) pa_nil))))) pss_nil))))
        (pss_one (ps_if (PW.pt (pw_and (pt_cmp (pc_notN (pv 2))) (pw_and1 (pt_cmpR op_gt (pe_callB call_lenD (by rfl) B.len PySem.boot_len (pa_cons (pv 3) pa_nil)) (pv 2) (nomark _))))) (pss_one ps_never) pss_nil)))))
      (pss_one (ps_ret (pv 3))))), ?_⟩
    refine fun d nd => ⟨_, rfl, upd_same, [(Sum.inr (S log), V.bl true)], rfl, (by show 1 ≤ 15; decide), ?_⟩
    refine ⟨_, rfl, (by show 1 ≤ sizeLine; decide), fun o no => ?_⟩
    have e0 : mergeK [] [((Sum.inr (S log) : Key), V.bl true)] = dks [log] := rfl
    rw [e0, upd_upd] at no ⊢
    have nod : d ≠ o := ne_of_none upd_same no
    have no0 : H o = none := by rw [upd_ne nod.symm] at no; exact no
    refine ⟨fun m σ H' => ∃ y5 y6 y7 Fs Ws, σ = [some (.ref b), some (.str (S log)), some .non, some (.ref d), some (.ref o), y5, y6, y7] ∧ Same H H' ∧ H' d = some (.dK (dks Fs)) ∧ H' o = some (.lst (txs Ws)) ∧ Fl ps log Fs Ws none ∧ m + 2 * Fs.length = 65536 + Ws.length,
      ⟨65535, none, none, none, [log], [log], rfl, (same_upd nd).trans (same_upd no), by rw [upd_ne nod, upd_same], upd_same, ⟨by simp, fun t ht => by rw [List.mem_singleton.mp ht]; exact .refl _, List.mem_singleton.mpr rfl, fun t h => h, (fun t h => nomatch h), fun t h h' => absurd h h', Nat.le_refl _⟩, by simp⟩, ?_⟩
    rintro m σ H1 ⟨y5, y6, y7, Fs, Ws, rfl, sm, ed, eo, fl, em⟩
    have hF := fl.size hl
    have lF : Ws.length ≤ sizeLine := Nat.le_trans fl.le (sl100 (by omega))
    refine ⟨_, rfl, _, _, rfl, .inl ⟨_, SqL.of eo, rfl⟩, _, _, rfl, rfl, _, rfl, ?_⟩
    rw [txs_len]
    refine ite2 (fun hw => ?_) (fun hw => ?_)
    · -- a turn
      have hw1 : 0 < Ws.length := by have := of_decide_eq_true hw; omega
      obtain ⟨W0, here, rfl⟩ := snoc_of (xs := Ws) (by intro z; rw [z] at hw1; exact absurd hw1 (by decide))
      refine ⟨fun σ' H' => ∃ m', m' < m ∧ ∃ y5 y6 y7 Fs Ws, σ' = [some (.ref b), some (.str (S log)), some .non, some (.ref d), some (.ref o), y5, y6, y7] ∧ Same H H' ∧ H' d = some (.dK (dks Fs)) ∧ H' o = some (.lst (txs Ws)) ∧ Fl ps log Fs Ws none ∧ m' + 2 * Fs.length = 65536 + Ws.length, fun σ' H' h => h, ?_⟩
      have el : (txs (W0 ++ [here]))[(txs (W0 ++ [here])).length - 1]? = some (V.str (S here)) := by
        refine get_txs ?_
        rw [txs_len, List.length_append, List.length_singleton, Nat.add_sub_cancel]
        simp
      refine ⟨_, rfl, .inl ⟨rfl, _, SqL.of eo⟩, o, _, _, rfl, rfl, eo, el, ?_⟩
      have edl : (txs (W0 ++ [here])).dropLast = txs W0 := by
        unfold txs
        rw [List.map_append]
        simp
      rw [edl]
      have hrch : Rch ps log here := fl.rch _ (fl.sub _ (List.mem_append_right _ (List.mem_singleton.mpr rfl)))
      have hlen : here.length ≤ 15 := Nat.le_trans (rch_len hrch) hl
      have sm2 : Same H (upd H1 o (.lst (txs W0))) := same_put sm no0
      refine ⟨_, rfl, _, rfl, b, ps, here, rfl, hb.same sm2, by omega, hps, fun p hp => by have := hp8 p hp; omega, fun H2 l sl nl hst => ?_⟩
      obtain ⟨zs, el2, tz⟩ := hst
      have ed2 : H2 d = some (.dK (dks Fs)) := sl _ _ (by rw [upd_ne nod]; exact ed)
      have eo2 : H2 o = some (.lst (txs W0)) := sl _ _ upd_same
      have nlo : l ≠ o := fun z => by rw [z, upd_same] at nl; cases nl
      have nld : l ≠ d := fun z => by rw [z, upd_ne nod, ed] at nl; cases nl
      refine ⟨l, rfl, ⟨_, SqL.of el2⟩, for_list (K := K) (a := l) (xs := zs.map V.ref) (fun j σ H' => ∃ y6 y7 Fc Wc, σ = [some (.ref b), some (.str (S log)), some .non, some (.ref d), some (.ref o), some (.str (S here)), y6, y7] ∧ Same H H' ∧ H' d = some (.dK (dks Fc)) ∧ H' o = some (.lst (txs Wc)) ∧
          H' l = some (.lst (zs.map V.ref)) ∧ TupsAt H' zs (strikes ps here) ∧ Fl ps log Fc Wc (some here) ∧ Wc.length + Fs.length = W0.length + Fc.length ∧ Fs.length ≤ Fc.length ∧ (∀ j' i n, j' < j → (strikes ps here)[j']? = some (i, n) → cut here i (ps.getD n []).length ∈ Fc))
        ⟨y6, y7, Fs, W0, rfl, sm2.trans sl, ed2, eo2, el2, tz, ⟨fl.nd, fl.rch, fl.log, fun t h => fl.sub t (List.mem_append_left _ h), fun t h => by cases h; exact fl.sub _ (List.mem_append_right _ (List.mem_singleton.mpr rfl)), fun t h h1 h2 => fl.cl t h (fun z => (List.mem_append.mp z).elim h1 fun z => h2 (by rw [List.mem_singleton.mp z])) (by simp), by have := fl.le; rw [List.length_append, List.length_singleton] at this; omega⟩, by omega, Nat.le_refl _, fun j' i n h => absurd h (Nat.not_lt_zero _)⟩
        (fun j σ H' _ ⟨_, _, _, _, _, _, _, _, h, _⟩ => SqL.of h) ?_ ?_⟩
      · rintro j x σ H3 hx ⟨y6, y7, Fc, Wc, rfl, s3, d3, o3, l3, t3, f3, c3, c4, g3⟩
        rw [List.getElem?_map] at hx
        cases hz : zs[j]? with
        | none => rw [hz] at hx; cases hx
        | some z =>
          rw [hz] at hx
          cases hx
          have hj : j < (strikes ps here).length := by rw [← t3.1]; exact (List.getElem?_eq_some_iff.mp hz).1
          obtain ⟨⟨i, n⟩, hst⟩ : ∃ x, (strikes ps here)[j]? = some x := ⟨_, List.getElem?_eq_getElem hj⟩
          obtain ⟨p, hpn, gp⟩ := strike_at hst
          have p8 := hp8 p (List.mem_of_getElem? hpn)
          refine ⟨_, rfl, _, rfl, _, rfl, b, z, ps, here, i, n, p, rfl, hb.same s3, by omega, by omega, t3.2 j z _ hz hst, hpn, ?_⟩
          have hF3 := f3.size hl
          refine ⟨_, rfl, _, rfl, d, _, rfl, DGet.k (k := Sum.inr (S (cut here i p.length))) d3, _, rfl, ?_⟩
          rw [val_dks]
          have hstp : St ps here (cut here i p.length) := (st_iff hn).mpr ⟨(i, n), List.mem_of_getElem? hst, by rw [gp]⟩
          by_cases hin : cut here i p.length ∈ Fc
          · rw [if_pos hin]
            refine iteF ⟨_, _, Fc, Wc, rfl, s3, d3, o3, l3, t3, f3, c3, c4, fun j' i' n' hj' h' => ?_⟩
            by_cases e : j' = j
            · rw [e, hst] at h'
              cases h'
              rw [gp]
              exact hin
            · exact g3 j' i' n' (by omega) h'
          · rw [if_neg hin]
            refine iteT ⟨_, rfl, _, rfl, d, _, rfl, DPut.k (k := Sum.inr (S (cut here i p.length))) d3 (by rw [dks_len]; exact Nat.lt_of_lt_of_le (show _ < 1000000 by omega) (sl100 (Nat.le_refl _))), ?_⟩
            rw [put_dks hin]
            have o4 : (upd H3 d (.dK (dks (Fc ++ [cut here i p.length])))) o = some (.lst (txs Wc)) := by rw [upd_ne nod.symm]; exact o3
            have l4 : (upd H3 d (.dK (dks (Fc ++ [cut here i p.length])))) l = some (.lst (zs.map V.ref)) := by rw [upd_ne nld]; exact l3
            have lW := f3.le
            refine ⟨_, rfl, .inl ⟨rfl, _, SqL.of o4⟩, _, rfl, o, _, _, rfl, rfl, o4, by rw [txs_len]; exact Nat.lt_of_lt_of_le (show _ < 1000000 by omega) (sl100 (Nat.le_refl _)), ?_⟩
            refine ⟨_, _, Fc ++ [cut here i p.length], Wc ++ [cut here i p.length], rfl, same_put (same_put s3 nd) no0, ?_, ?_, ?_, ?_, ?_, ?_, ?_, fun j' i' n' hj' h' => ?_⟩
            · rw [upd_ne nod, upd_same]
            · rw [upd_same]
              unfold txs
              rw [List.map_append]
              rfl
            · rw [upd_ne nlo]
              exact l4
            · exact (t3.keep (keep_upd fun ys z => by rw [d3] at z; cases z)).keep (keep_lst o4)
            · refine ⟨?_, fun t ht => ?_, List.mem_append_left _ f3.log, fun t ht => ?_, fun t ht => List.mem_append_left _ (f3.cur t ht), fun t ht h1 h2 u hs => ?_, by rw [List.length_append, List.length_append]; simp only [List.length_singleton]; omega⟩
              · refine List.nodup_append.mpr ⟨f3.nd, by simp, fun a ha b hb e => ?_⟩
                rw [List.mem_singleton.mp hb] at e
                exact hin (e ▸ ha)
              · rcases List.mem_append.mp ht with h | h
                · exact f3.rch t h
                · rw [List.mem_singleton.mp h]
                  exact (f3.rch here (f3.cur here rfl)).trans (.one hstp)
              · rcases List.mem_append.mp ht with h | h
                · exact List.mem_append_left _ (f3.sub t h)
                · exact List.mem_append_right _ h
              · rcases List.mem_append.mp ht with h | h
                · exact List.mem_append_left _ (f3.cl t h (fun z => h1 (List.mem_append_left _ z)) h2 u hs)
                · exact absurd (List.mem_append_right _ h) h1
            · rw [List.length_append, List.length_append]
              simp only [List.length_singleton]
              omega
            · rw [List.length_append]
              omega
            · by_cases e : j' = j
              · rw [e, hst] at h'
                cases h'
                rw [gp]
                exact List.mem_append_right _ (List.mem_singleton.mpr rfl)
              · exact List.mem_append_left _ (g3 j' i' n' (by omega) h')
      · rintro σ H3 ⟨y6, y7, Fc, Wc, rfl, s3, d3, o3, l3, t3, f3, c3, c4, g3⟩
        refine ⟨_, rfl, _, rfl, ?_⟩
        refine iteF (iteF ?_)
        rw [List.length_append, List.length_singleton] at em
        have hF3 := f3.size hl
        refine ⟨m - 1 - (Fc.length - Fs.length), by omega, _, _, _, Fc, Wc, rfl, s3, d3, o3, ⟨f3.nd, f3.rch, f3.log, f3.sub, (fun t h => nomatch h), fun t ht h1 h2 u hs => ?_, f3.le⟩, by omega⟩
        by_cases e : t = here
        · rw [e] at hs
          obtain ⟨⟨i, n⟩, hz, eu⟩ := (st_iff hn).mp hs
          obtain ⟨j, hj, ej⟩ := List.getElem_of_mem hz
          rw [eu]
          exact g3 j i n (by rw [refs_len, t3.1]; exact hj) (by rw [List.getElem?_eq_getElem hj, ej])
        · exact f3.cl t ht h1 (fun z => e (Option.some.inj z).symm) u hs
    · -- the end
      have hw0 : Ws = [] := by
        cases Ws with
        | nil => rfl
        | cons x r => exact absurd (decide_eq_true (by rw [List.length_cons]; omega)) hw
      subst hw0
      refine ⟨_, rfl, q _ _ sm nd ⟨Fs, ed, fl.nd, fun t => ⟨fl.rch t, fun h => flood_all fl.log (fun t u ht hs => fl.cl t ht (by simp) (by simp) u hs) t h⟩⟩⟩
end
end K8
set_option Elab.async false
set_option linter.all false
set_option maxRecDepth 100000
namespace K8
open PySem PySem.Spec L2
open SX (S S_len S_cat S_inj)
section
variable {P : Program} {w : World} {K : PySem.W.Frag} {mg : Str → Option Value} {base : Heap}
abbrev sLAll : Stmt := top 28
def spLAll (K : PySem.W.Frag) : Sp := fun vs H Q _ => ∃ (t : Addr) (ps : List Wd) (log : Wd), vs = [.ref t, .str (S log)] ∧ H t = some (.tup (txs ps)) ∧ log.length ≤ 15 ∧ Ok1 ps ∧ ∀ H' d, Same H H' → H d = none → FloodAt H' d ps log → Q (.ref d) H'
theorem scLAll : FnScope ["_law_pieces_here", "_law_log", "_law_found", "_law_waiting", "_law_here", "_law_strike"] ["_law_pieces_here", "_law_log"] (defScope sLAll) := ⟨rfl, rfl, rfl, by decide +kernel, rfl, by decide +kernel, by decide +kernel⟩
structure Fk (ps : List Wd) (log : Wd) (F W : List Wd) : Prop where
  nd : F.Nodup
  rch : ∀ t, t ∈ F → Rch ps log t
  wch : ∀ t, t ∈ W → Rch ps log t
  log : log ∈ F ∨ log ∈ W
  cl : ∀ t, t ∈ F → ∀ u, St ps t u → u ∈ F ∨ u ∈ W
  le : W.length ≤ 1 + 180 * F.length
theorem Fk.size {ps : List Wd} {log : Wd} {F W : List Wd} (f : Fk ps log F W) (hl : log.length ≤ 15) : F.length ≤ 32768 := by
  have h1 := flood_le f.nd f.rch
  have h2 : 2 ^ log.length ≤ 2 ^ 15 := Nat.pow_le_pow_right (by decide) hl
  exact Nat.le_trans h1 (Nat.le_trans h2 (by decide))
/-- what the strikes of a text leave -/
def lefts (ps : List Wd) (here : Wd) (xs : List (Nat × Nat)) : List Wd := xs.map fun z => cut here z.1 (ps.getD z.2 []).length
theorem sl8M {n : Nat} (h : n ≤ 8000000) : n ≤ sizeLine := by have := sizeLine_eq; omega
theorem ok_lall {f : Addr} {fd : FuncData} (F : Fun K "_law_all_left" "_law_all_left" sLAll f fd) (B : Blt mg) (GR : Cal P w K mg base "_law_strikes" 1 ["_law_pieces_here", "_law_log"] (spLStrikes K)) (GS : Cal P w K mg base "_law_struck" 1 ["_law_pieces_here", "_law_log", "_law_strike"] spLStruck) :
    FnOk P w K mg base CX0 2 f fd ["_law_pieces_here", "_law_log"] (spLAll K) := by
  refine F.ok scLAll (fun vs H Q E h => ?_) (fun cdv A outer s H vs Q E hr h => ?_)
  · obtain ⟨b, ps, log, rfl, _⟩ := h
    rfl
  · obtain ⟨b, ps, log, rfl, hb, hl, ⟨hps, hn, hp8⟩, q⟩ := h
    have hu := hu_of hr
    refine ⟨_, pss_cons (ps_par (i := 2) (j := 3) rfl scLAll.nd rfl rfl (by decide) rfl rfl (pa_cons pe_dnewK (pa_cons (pe_lst (pa_cons (pv 1) pa_nil)) pa_nil)) (by rfl))
      (pss_cons (ps_while PassesOwn.never (pt_cmpR op_gt (pe_callB call_len (by rfl) B.len PySem.boot_len (pa_cons (pv 3) pa_nil)) pe_int (nomark _))
        (pss_cons (ps_set (i := 4) scLAll.nd rfl (Or.inr rfl) (pe_bm0 PySem.F.plainAttrs_list PySem.F.slot_list_pop PySem.F.type_list_pop mt_pop (pv 3)))
        (pss_one (ps_if (pt_cmp (pc_dnotin hu (pv 4) (pv 2)))
            (pss_cons (ps_dput hu (pv 2) (pv 4) pe_bl rfl) (pss_one (ps_expr (pe_bm PySem.F.plainAttrs_list PySem.F.slot_list_extend PySem.F.type_list_extend mt_extend (pv 3) (pa_cons
              (pe_lc (own := [("_law_strike", 5)]) (g := gName 5) (tt := tYes) rfl scLAll.nd (pi_list (pe_cal GR hr (by rfl) (pa_cons (pv 0) (pa_cons (pv 4) pa_nil)))) (blkOk_by (N := ["_law_pieces_here", "_law_log", "_law_found", "_law_waiting", "_law_here", "_law_strike"]) (sc := defScope sLAll) (by decide +kernel))
                (fun _ _ _ _ _ => pg_name (i := 5) scLAll.nd rfl (Or.inl rfl)) (fun _ _ _ _ _ => pts_nil)
                (fun _ _ _ _ _ => pe_cal GS hr (by rfl) (pa_cons (pv 0) (pa_cons (pv 4) (pa_cons (pv 5) pa_nil))))) pa_nil))))) pss_nil))))
      (pss_one (ps_ret (pv 2)))), ?_⟩
    refine fun d nd => ⟨_, rfl, (by show 1 ≤ sizeLine; decide), fun o no => ⟨_, _, rfl, ?_⟩⟩
    have nod : d ≠ o := ne_of_none upd_same no
    have no0 : H o = none := by rw [upd_ne nod.symm] at no; exact no
    refine ⟨fun m σ H' => ∃ y4 Fs Ws, σ = [some (.ref b), some (.str (S log)), some (.ref d), some (.ref o), y4, none] ∧ Same H H' ∧ H' d = some (.dK (dks Fs)) ∧ H' o = some (.lst (txs Ws)) ∧ Fk ps log Fs Ws ∧ m + 181 * Fs.length = 181 * 32768 + Ws.length,
      ⟨181 * 32768 + 1, none, [], [log], rfl, (same_upd nd).trans (same_upd no), by rw [upd_ne nod, upd_same]; rfl, upd_same, ⟨by simp, fun t ht => (nomatch ht), fun t ht => by rw [List.mem_singleton.mp ht]; exact .refl _, .inr (List.mem_singleton.mpr rfl), fun t h => (nomatch h), Nat.le_refl _⟩, by simp⟩, ?_⟩
    rintro m σ H1 ⟨y4, Fs, Ws, rfl, sm, ed, eo, fl, em⟩
    have hF := fl.size hl
    have lW := fl.le
    refine ⟨_, rfl, _, _, rfl, .inl ⟨_, SqL.of eo, rfl⟩, _, _, rfl, rfl, _, rfl, ?_⟩
    rw [txs_len]
    refine ite2 (fun hw => ?_) (fun hw => ?_)
    · -- a turn
      have hw1 : 0 < Ws.length := by have := of_decide_eq_true hw; omega
      obtain ⟨W0, here, rfl⟩ := snoc_of (xs := Ws) (by intro z; rw [z] at hw1; exact absurd hw1 (by decide))
      refine ⟨fun σ' H' => ∃ m', m' < m ∧ ∃ y4 Fs Ws, σ' = [some (.ref b), some (.str (S log)), some (.ref d), some (.ref o), y4, none] ∧ Same H H' ∧ H' d = some (.dK (dks Fs)) ∧ H' o = some (.lst (txs Ws)) ∧ Fk ps log Fs Ws ∧ m' + 181 * Fs.length = 181 * 32768 + Ws.length, fun σ' H' h => h, ?_⟩
      have el : (txs (W0 ++ [here]))[(txs (W0 ++ [here])).length - 1]? = some (V.str (S here)) := by
        refine get_txs ?_
        rw [txs_len, List.length_append, List.length_singleton, Nat.add_sub_cancel]
        simp
      refine ⟨_, rfl, .inl ⟨rfl, _, SqL.of eo⟩, o, _, _, rfl, rfl, eo, el, ?_⟩
      have edl : (txs (W0 ++ [here])).dropLast = txs W0 := by
        unfold txs
        rw [List.map_append]
        simp
      rw [edl]
      rw [List.length_append, List.length_singleton] at em lW
      have hrch : Rch ps log here := fl.wch _ (List.mem_append_right _ (List.mem_singleton.mpr rfl))
      have hlen : here.length ≤ 15 := Nat.le_trans (rch_len hrch) hl
      have sm2 : Same H (upd H1 o (.lst (txs W0))) := same_put sm no0
      have ed2 : (upd H1 o (.lst (txs W0))) d = some (.dK (dks Fs)) := by rw [upd_ne nod]; exact ed
      refine ⟨_, rfl, _, rfl, d, _, rfl, DGet.k (k := Sum.inr (S here)) ed2, _, rfl, ?_⟩
      rw [val_dks]
      by_cases hin : here ∈ Fs
      · rw [if_pos hin]
        refine iteF ⟨m - 1, by omega, _, Fs, W0, rfl, sm2, ed2, upd_same, ⟨fl.nd, fl.rch, fun t h => fl.wch t (List.mem_append_left _ h), ?_, fun t ht u hs => ?_, by omega⟩, by omega⟩
        · rcases fl.log with h | h
          · exact .inl h
          · rcases List.mem_append.mp h with h | h
            · exact .inr h
            · rw [List.mem_singleton.mp h]; exact .inl hin
        · rcases fl.cl t ht u hs with h | h
          · exact .inl h
          · rcases List.mem_append.mp h with h | h
            · exact .inr h
            · rw [List.mem_singleton.mp h]; exact .inl hin
      · rw [if_neg hin]
        refine iteT ⟨_, rfl, _, rfl, d, _, rfl, DPut.k (k := Sum.inr (S here)) ed2 (by rw [dks_len]; exact Nat.lt_of_lt_of_le (show _ < 1000000 by omega) (sl100 (Nat.le_refl _))), ?_⟩
        rw [put_dks hin]
        have sm3 : Same H (upd (upd H1 o (.lst (txs W0))) d (.dK (dks (Fs ++ [here])))) := same_put sm2 nd
        have eo3 : (upd (upd H1 o (.lst (txs W0))) d (.dK (dks (Fs ++ [here])))) o = some (.lst (txs W0)) := by rw [upd_ne nod.symm, upd_same]
        refine ⟨_, rfl, .inl ⟨rfl, _, SqL.of eo3⟩, _, rfl, _, rfl, b, ps, here, rfl, sm3 _ _ hb, by omega, hps, fun p hp => by have := hp8 p hp; omega, fun H2 l sl nl hst => ?_⟩
        obtain ⟨zs, el2, tz⟩ := hst
        have ed4 : H2 d = some (.dK (dks (Fs ++ [here]))) := sl _ _ upd_same
        have eo4 : H2 o = some (.lst (txs W0)) := sl _ _ eo3
        have sm4 := sm3.trans sl
        refine ⟨l, rfl, ⟨_, SqL.of el2⟩, fun D nD => ?_⟩
        have nDd : d ≠ D := ne_of_none ed4 nD
        have nDo : o ≠ D := ne_of_none eo4 nD
        have nDl : l ≠ D := ne_of_none el2 nD
        have tzl := tz.1
        refine lc_list (K := K) (a := l) (xs := zs.map V.ref) (fun j H' => Same H H' ∧ H' d = some (.dK (dks (Fs ++ [here]))) ∧ H' o = some (.lst (txs W0)) ∧ H' l = some (.lst (zs.map V.ref)) ∧ TupsAt H' zs (strikes ps here) ∧ H' D = some (.lst (txs (lefts ps here ((strikes ps here).take j)))))
          ⟨sm4.trans (same_upd nD), by rw [upd_ne nDd]; exact ed4, by rw [upd_ne nDo]; exact eo4, by rw [upd_ne nDl]; exact el2, tz.keep (keep_new nD), upd_same⟩
          (fun j H' _ ⟨_, _, _, h, _⟩ => SqL.of h) ?_ ?_
        · rintro j x H3 hx ⟨s3, d3, o3, l3, t3, D3⟩
          refine ⟨rfl, ?_⟩
          rw [List.getElem?_map] at hx
          cases hz : zs[j]? with
          | none => rw [hz] at hx; cases hx
          | some z =>
            rw [hz] at hx
            cases hx
            have hj : j < (strikes ps here).length := by rw [← t3.1]; exact (List.getElem?_eq_some_iff.mp hz).1
            obtain ⟨⟨i, n⟩, hst⟩ : ∃ x, (strikes ps here)[j]? = some x := ⟨_, List.getElem?_eq_getElem hj⟩
            obtain ⟨p, hpn, gp⟩ := strike_at hst
            have p8 := hp8 p (List.mem_of_getElem? hpn)
            have nsl := strikes_le ps here
            have nsl2 : here.length * ps.length ≤ 15 * 12 := Nat.mul_le_mul hlen hps
            refine ⟨_, rfl, _, rfl, _, rfl, b, z, ps, here, i, n, p, rfl, s3 _ _ hb, by omega, by omega, t3.2 j z _ hz hst, hpn, _, D3, ?_, same_put s3 ?_, ?_, ?_, ?_, t3.keep (keep_lst D3), ?_⟩
            · rw [txs_len, lefts, List.length_map, List.length_take]
              exact Nat.lt_of_lt_of_le (show _ < 1000000 by omega) (sl100 (Nat.le_refl _))
            · cases hD : H D with
              | none => rfl
              | some u => rw [sm4 _ _ hD] at nD; cases nD
            · rw [upd_ne nDd]; exact d3
            · rw [upd_ne nDo]; exact o3
            · rw [upd_ne nDl]; exact l3
            · rw [upd_same, List.take_add_one, hst]
              unfold lefts txs
              rw [List.map_append, List.map_append]
              simp only [Option.toList, List.map_cons, List.map_nil]
              rw [gp]
        · rintro H3 ⟨s3, d3, o3, l3, t3, D3⟩
          rw [refs_len, tzl, List.take_length] at D3
          have nsl := strikes_le ps here
          have nsl2 : here.length * ps.length ≤ 15 * 12 := Nat.mul_le_mul hlen hps
          have ll : (lefts ps here (strikes ps here)).length = (strikes ps here).length := List.length_map _
          have memL : ∀ u, u ∈ lefts ps here (strikes ps here) ↔ St ps here u := fun u => by
            rw [st_iff hn]
            unfold lefts
            rw [List.mem_map]
            exact ⟨fun ⟨z, h1, h2⟩ => ⟨z, h1, h2.symm⟩, fun ⟨z, h1, h2⟩ => ⟨z, h1, h2.symm⟩⟩
          refine ⟨o, D, _, _, rfl, rfl, o3, D3, ?_, ?_⟩
          · rw [txs_len, txs_len, ll]
            exact sl8M (by omega)
          · refine ⟨m - 1 - 181 + (strikes ps here).length, ?_, _, Fs ++ [here], W0 ++ lefts ps here (strikes ps here), rfl, same_put s3 no0, by rw [upd_ne nod]; exact d3, ?_, ⟨?_, fun t ht => ?_, fun t ht => ?_, ?_, fun t ht u hs => ?_, ?_⟩, ?_⟩
            · have hF1 : Fs.length + 1 ≤ 32768 := by
                have := flood_le (ps := ps) (a := log) (F := Fs ++ [here]) (List.nodup_append.mpr ⟨fl.nd, by simp, fun a ha b hb e => hin (by rw [List.mem_singleton.mp hb] at e; exact e ▸ ha)⟩) (fun t ht => by
                  rcases List.mem_append.mp ht with h | h
                  · exact fl.rch t h
                  · rw [List.mem_singleton.mp h]; exact hrch)
                rw [List.length_append, List.length_singleton] at this
                exact Nat.le_trans this (Nat.le_trans (Nat.pow_le_pow_right (by decide) hl) (by decide))
              omega
            · rw [upd_same]
              unfold txs
              rw [List.map_append]
            · exact List.nodup_append.mpr ⟨fl.nd, by simp, fun a ha b hb e => hin (by rw [List.mem_singleton.mp hb] at e; exact e ▸ ha)⟩
            · rcases List.mem_append.mp ht with h | h
              · exact fl.rch t h
              · rw [List.mem_singleton.mp h]; exact hrch
            · rcases List.mem_append.mp ht with h | h
              · exact fl.wch t (List.mem_append_left _ h)
              · exact hrch.trans (.one ((memL t).mp h))
            · rcases fl.log with h | h
              · exact .inl (List.mem_append_left _ h)
              · rcases List.mem_append.mp h with h | h
                · exact .inr (List.mem_append_left _ h)
                · exact .inl (List.mem_append_right _ h)
            · rcases List.mem_append.mp ht with h | h
              · rcases fl.cl t h u hs with h | h
                · exact .inl (List.mem_append_left _ h)
                · rcases List.mem_append.mp h with h | h
                  · exact .inr (List.mem_append_left _ h)
                  · exact .inl (List.mem_append_right _ h)
              · rw [List.mem_singleton.mp h] at hs
                exact .inr (List.mem_append_right _ ((memL u).mpr hs))
            · rw [List.length_append, List.length_append, ll, List.length_singleton]
              omega
            · rw [List.length_append, List.length_append, ll, List.length_singleton]
              have hF1 : Fs.length + 1 ≤ 32768 := by
                have := flood_le (ps := ps) (a := log) (F := Fs ++ [here]) (List.nodup_append.mpr ⟨fl.nd, by simp, fun a ha b hb e => hin (by rw [List.mem_singleton.mp hb] at e; exact e ▸ ha)⟩) (fun t ht => by
                  rcases List.mem_append.mp ht with h | h
                  · exact fl.rch t h
                  · rw [List.mem_singleton.mp h]; exact hrch)
                rw [List.length_append, List.length_singleton] at this
                exact Nat.le_trans this (Nat.le_trans (Nat.pow_le_pow_right (by decide) hl) (by decide))
              omega
    · -- the end
      have hw0 : Ws = [] := by
        cases Ws with
        | nil => rfl
        | cons x r => exact absurd (decide_eq_true (by rw [List.length_cons]; omega)) hw
      subst hw0
      have hlog : log ∈ Fs := fl.log.elim id fun h => nomatch h
      refine ⟨_, rfl, q _ _ sm nd ⟨Fs, ed, fl.nd, fun t => ⟨fl.rch t, fun h => flood_all hlog (fun t u ht hs => (fl.cl t ht u hs).elim id fun h => nomatch h) t h⟩⟩⟩
end
end K8
set_option Elab.async false
set_option linter.all false
set_option maxRecDepth 100000
namespace K8
open PySem PySem.Spec L2
open SX (S S_len S_cat S_inj)
open LamX (ExtN Tabs TabB)
/-- a def whose code object is known -/
structure FunC (K : PySem.W.Frag) (x qual : Str) (st : Stmt) (f c : Addr) (fd : FuncData) : Prop where
  ex : ∃ (oc : Value) (od : Option Addr) (kV doc pm : Value) (an : Option Addr) (ct : Value) (osl : Array (Option Value)),
    fd = PySem.W.fnOf x qual (defArgs st) (defBody st) (defScope st) .none kV doc pm an (.ref c) ct ∧ K.lookup f = some ⟨oc, od, .func fd, osl⟩ ∧ PySem.W.codeIn K (.ref c) qual = true
  kp : PySem.W.keepIn K (.ref f) = true
section
variable {P : Program} {w : World} {K : PySem.W.Frag} {mg : Str → Option Value} {base : Heap}
theorem FunC.ok {x qual : Str} {st : Stmt} {f c : Addr} {fd : FuncData} {N ps : List Str} {k : Nat} {sp : Sp} (F : FunC K x qual st f c fd) (S : FnScope N ps (defScope st)) (len : ∀ vs H Q E, sp vs H Q E → vs.length = ps.length)
    (hbody : ∀ (A : Around) (outer : List Env) (s : Shared) (H : Hp) (vs : List V) (Q : VK) (E : XK), Room k (A.deeper (PyProof.Rows.envOfC qual (defScope st) s.heap.objs.size f (.ref c))) → sp vs H Q E →
      ∃ t, PSs (cxOf CX0 P w K mg base N qual (defScope st) f (.ref c) A outer s H E).nox (defBody st) t ∧ t { nx := fun _ H' => Q .non H', rt := Q } (start N vs) H) : FnOk P w K mg base CX0 (k + 1) f fd ps sp := by
  obtain ⟨oc, od, kV, doc, pm, an, ct, osl, rfl, lk, hcd⟩ := F.ex
  refine fn_of lk hcd S len fun A outer s H vs Q E hr hsp => ?_
  obtain ⟨t, h, q⟩ := hbody A outer s H vs Q E hr hsp
  exact ⟨t, h.nox, q⟩
theorem FunC.un {x qual : Str} {st : Stmt} {f c : Addr} {fd : FuncData} (F : FunC K x qual st f c fd) : Fun K x qual st f fd := by
  obtain ⟨oc, od, kV, doc, pm, an, ct, osl, h1, h2, h3⟩ := F.ex
  exact ⟨⟨oc, od, kV, doc, pm, an, .ref c, ct, osl, h1, h2, h3⟩, F.kp⟩
abbrev qE : Str := ("ends_among" : Str) ++ (".<locals>." : Str) ++ ("<lambda>" : Str)
abbrev qM : Str := ("meetings" : Str) ++ (".<locals>." : Str) ++ ("<lambda>" : Str)
/-- the two tables -/
abbrev TT (P1 P2 : Addr) : List (Addr × Str) := [(P1, qE), (P2, qM)]
/-- all that stood stands, but the tables; p is no address of what stood -/
def NewN (H : Hp) (p : Addr) : Prop := ∀ o, H p = some o → ∃ ps, o = .tbl ps
theorem NewN.of {H H2 : Hp} {p : Addr} (e : ExtN H H2) (h : H2 p = none) : NewN H p := fun o ho => by
  cases o with
  | tbl ps => exact ⟨ps, rfl⟩
  | _ => rw [e p _ ho (fun ps z => nomatch z)] at h; cases h
theorem extN_put {H H2 : Hp} {p : Addr} {o : HO} (e : ExtN H H2) (h : NewN H p) : ExtN H (upd H2 p o) := fun b u hb hn => by
  rw [upd_ne (fun z => by rw [z] at hb; obtain ⟨ps, e⟩ := h _ hb; exact hn ps e)]
  exact e b u hb hn
theorem extN_new {H H2 : Hp} {p : Addr} {o : HO} (e : ExtN H H2) (h : H2 p = none) : ExtN H (upd H2 p o) := extN_put e (.of e h)
theorem extN_of {H H' : Hp} (s : Same H H') : ExtN H H' := fun b o h _ => s b o h
theorem BookAt.extN {C : Addr} {H H' : Hp} {b : Addr} {ps : List Wd} (h : BookAt C H b ps) (e : ExtN H H') : BookAt C H' b ps := by
  obtain ⟨dx, t, h1, h2⟩ := h
  exact ⟨dx, t, e _ _ h1 (fun ps z => nomatch z), e _ _ h2 (fun ps z => nomatch z)⟩
theorem filt_take {α : Type} (p : α → Bool) {ks : List α} {i : Nat} {t : α} (ht : ks[i]? = some t) : (ks.take (i + 1)).filter p = (ks.take i).filter p ++ (if p t = true then [t] else []) := by
  rw [List.take_add_one, ht, List.filter_append]
  by_cases h : p t = true
  · rw [if_pos h]
    simp [h]
  · rw [if_neg h]
    simp [h]
abbrev sEnds : Stmt := top 15
def spEnds (P1 P2 C : Addr) : Sp := fun vs H Q _ => ∃ (b d : Addr) (ps : List Wd) (log : Wd), vs = [.ref b, .ref d] ∧ BookAt C H b ps ∧ log.length ≤ 15 ∧ Ok1 ps ∧ FloodAt H d ps log ∧ Tabs (TT P1 P2) H ∧
  ∀ H' p es, ExtN H H' → Tabs (TT P1 P2) H' → NewN H p → H' p = some (.lst (txs es)) → IsEnds ps log es → Q (.ref p) H'
theorem scEnds : FnScope ["book", "texts", "some", "text"] ["book", "texts"] (defScope sEnds) := ⟨rfl, rfl, rfl, by decide +kernel, rfl, by decide +kernel, by decide +kernel⟩
theorem ok_ends {f C c P1 P2 : Addr} {fd : FuncData} (F : FunC K "ends_among" "ends_among" sEnds f c fd) (B : Blt mg) (TB : TabB base mg c P1) (hne : P1 ≠ P2) (GR : Cal P w K mg base "raw_strikes" 1 ["book", "log"] (spRaw C)) :
    FnOk P w K mg base CX0 2 f fd ["book", "texts"] (spEnds P1 P2 C) := by
  refine F.ok scEnds (fun vs H Q E h => ?_) (fun A outer s H vs Q E hr h => ?_)
  · obtain ⟨b, d, ps, log, rfl, _⟩ := h
    rfl
  · obtain ⟨b, d, ps, log, rfl, hb, hl, ⟨hps, hn, hp8⟩, ⟨ks, hd, knd, kmem⟩, hT, q⟩ := h
    have hu := hu_of hr
    refine ⟨_, pss_cons (ps_lock (ps_setLc (i := 2) (own := [("text", 3)]) (g := gName 3) (tt := tTest (tOp _ (tCB (rLen K) _) _)) rfl scEnds.nd rfl rfl (sw_true rfl rfl rfl (by decide +kernel)) (pi_keys (pv 1)) (blkOk_by (N := ["book", "texts", "some", "text"]) (sc := defScope sEnds) (by decide +kernel))
        (fun _ _ _ _ _ => pg_name (i := 3) scEnds.nd rfl (Or.inl rfl))
        (fun _ _ _ _ _ => pts_one (pt_cmpR op_eq (pe_callB call_len (by rfl) B.len PySem.boot_len (pa_cons (pe_cal GR hr (by rfl) (pa_cons (pv 0) (pa_cons (pv 3) pa_nil))) pa_nil)) pe_int (nomark _)))
        (fun _ _ _ _ _ => pv 3)))
      (pss_one (ps_ret (pe_sortK (x := "") (T := TT P1 P2) (P := P1) (pv 2) rfl hr ⟨rfl, rfl, rfl, by decide +kernel, by decide +kernel, rfl, rfl, by decide +kernel, fun _ _ _ _ _ _ => rfl⟩ TB rfl (.head _) (fun p hp e => by
        rcases List.mem_cons.mp hp with rfl | hp
        · rfl
        · rw [List.mem_singleton.mp hp] at e
          exact absurd e.symm hne) rfl (by rfl) B.sorted B.len))), ?_⟩
    refine ⟨d, _, hd, trivial, fun od => ?_⟩
    have kk : ∀ b0 o, b0 ≠ d → H b0 = some o → (upd H d (.frz od (.dK (dks ks)))) b0 = some o := fun b0 o nb e => by rw [upd_ne nb]; exact e
    have hb' : BookAt C (upd H d (.frz od (.dK (dks ks)))) b ps := by
      obtain ⟨dx, t, h1, h2⟩ := hb
      exact ⟨dx, t, kk _ _ (ne_of h1 hd (by intro z; cases z)) h1, kk _ _ (ne_of h2 hd (by intro z; cases z)) h2⟩
    refine ⟨_, rfl, d, od, rfl, .inl ⟨_, upd_same, fun D nD => ?_⟩⟩
    have nDd : d ≠ D := ne_of_none upd_same nD
    refine lc_it walk_keys (fun i H' => Same (upd H d (.frz od (.dK (dks ks)))) H' ∧ H' D = some (.lst (txs ((ks.take i).filter fun t => (strikes ps t).isEmpty))))
      ⟨same_upd nD, upd_same⟩ (fun i H' _ ⟨s, _⟩ => s _ _ upd_same) ?_ ?_
    · rintro i x H1 H2 hi ⟨s1, eD⟩ ⟨rfl, k, v, hk, rfl⟩
      refine ⟨rfl, ?_⟩
      rw [dks_len] at hi
      obtain ⟨t, ht⟩ : ∃ t, ks[i]? = some t := ⟨_, List.getElem?_eq_getElem hi⟩
      have hk2 : (dks ks)[i]? = some (Sum.inr (S t), V.bl true) := by unfold dks; rw [List.getElem?_map, ht]; rfl
      cases hk2.symm.trans hk
      have lt : t.length ≤ 15 := Nat.le_trans (rch_len ((kmem t).mp (List.mem_of_getElem? ht))) hl
      refine ⟨_, rfl, _, rfl, b, ps, t, rfl, hb'.same s1, by omega, hps, fun p hp => by have := hp8 p hp; omega, fun H2 l sl nl hst => ?_⟩
      obtain ⟨zs, el2, tz⟩ := hst
      have sD := sl _ _ eD
      refine ⟨_, _, rfl, .inl ⟨_, SqL.of el2, rfl⟩, rfl, _, rfl, ?_⟩
      rw [refs_len, tz.1]
      have e2 : (ks.take (i + 1)).filter (fun t => (strikes ps t).isEmpty) = (ks.take i).filter (fun t => (strikes ps t).isEmpty) ++ (if (strikes ps t).isEmpty = true then [t] else []) := filt_take _ ht
      have lF : ks.length ≤ 32768 := by
        have h1 := flood_le knd (fun t h => (kmem t).mp h)
        exact Nat.le_trans h1 (Nat.le_trans (Nat.pow_le_pow_right (by decide) hl) (by decide))
      refine ite2 (fun h => ?_) (fun h => ?_)
      · have h0 : strikes ps t = [] := by
          have := V.int.inj (of_decide_eq_true h)
          exact List.eq_nil_of_length_eq_zero (by omega)
        refine ⟨_, rfl, _, sD, ?_, ?_, ?_⟩
        · rw [txs_len]
          have := List.length_filter_le (fun t => (strikes ps t).isEmpty) (ks.take i)
          rw [List.length_take] at this
          exact Nat.lt_of_lt_of_le (show _ < 1000000 by omega) (sl100 (Nat.le_refl _))
        · refine fun b0 o0 e0 => ?_
          rw [upd_ne (ne_of_none e0 nD)]
          exact sl _ _ (s1 _ _ e0)
        · rw [upd_same, e2, h0]
          unfold txs
          rw [List.map_append]
          rfl
      · have h0 : ¬ (strikes ps t).isEmpty = true := fun z => h (decide_eq_true (by rw [List.isEmpty_iff.mp z]; rfl))
        refine ⟨s1.trans sl, ?_⟩
        rw [e2, if_neg h0, List.append_nil]
        exact sD
    · rintro H1 ⟨s1, eD⟩
      rw [dks_len, List.take_length] at eD
      refine ⟨s1 _ _ upd_same, ?_⟩
      have s2 : Same H (upd H1 d (.dK (dks ks))) := fun b0 o0 e0 => by
        by_cases e : b0 = d
        · rw [e, upd_same, ← hd, ← e, e0]
        · rw [upd_ne e]
          exact s1 _ _ (kk _ _ e e0)
      refine ⟨_, rfl, hT.ext s2, fun H2 eN T2 => ⟨D, _, rfl, .inl (SqL.of (eN _ _ (by rw [upd_ne nDd.symm]; exact eD) (fun ps z => nomatch z))), knd.filter _, fun k hk => ?_, fun ys p perm pw np => ?_⟩⟩
      · have := rch_len ((kmem k).mp (List.mem_filter.mp hk).1)
        exact sl100 (by omega)
      · have e3 : ExtN H H2 := (extN_of s2).trans eN
        refine q _ p ys (extN_new e3 np) (T2.ext (same_upd np)) (.of e3 np) upd_same ⟨pw, fun e => ?_⟩
        rw [perm.mem_iff, List.mem_filter, kmem, List.isEmpty_iff, ← irr_iff hn]
        exact Iff.rfl
end
end K8
set_option Elab.async false
set_option linter.all false
set_option maxRecDepth 100000
namespace K8
open PySem PySem.Spec L2
open SX (S S_len S_cat S_inj)
open LamX (ExtN Tabs TabB)
/-! the meetings, place by place -/
def MeetAt (ps : List Wd) (i j k : Nat) (t : Wd) : Prop := ∃ p q, ps[i]? = some p ∧ ps[j]? = some q ∧ k < p.length ∧ (i ≠ j ∨ 0 < k) ∧ Lays p q k t
theorem meet_at {ps : List Wd} {t : Wd} : Meet ps t ↔ ∃ i j k, MeetAt ps i j k t := by
  constructor
  · rintro ⟨i, j, p, q, k, h⟩
    exact ⟨i, j, k, p, q, h⟩
  · rintro ⟨i, j, k, p, q, h⟩
    exact ⟨i, j, p, q, k, h⟩
structure MetTo (ps : List Wd) (i j k : Nat) (ks : List Wd) : Prop where
  nd : ks.Nodup
  le : ks.length ≤ (i * ps.length + j) * 8 + k
  mem : ∀ t, t ∈ ks ↔ ∃ i' j' k', (i' < i ∨ (i' = i ∧ (j' < j ∨ (j' = j ∧ k' < k)))) ∧ MeetAt ps i' j' k' t
theorem MetTo.start (ps : List Wd) : MetTo ps 0 0 0 [] := ⟨List.nodup_nil, Nat.zero_le _, fun t => ⟨fun h => (nomatch h), fun ⟨i', j', k', h, _⟩ => by omega⟩⟩
theorem MetTo.add {ps ks : List Wd} {i j k : Nat} {p q t : Wd} (h : MetTo ps i j k ks) (hp : ps[i]? = some p) (hq : ps[j]? = some q) (hk : k < p.length) (hc : i ≠ j ∨ 0 < k) (hl : Lays p q k t) :
    MetTo ps i j (k + 1) (if t ∈ ks then ks else ks ++ [t]) := by
  have key : ∀ u, (∃ i' j' k', (i' < i ∨ (i' = i ∧ (j' < j ∨ (j' = j ∧ k' < k + 1)))) ∧ MeetAt ps i' j' k' u) ↔ u ∈ ks ∨ u = t := fun u => by
    rw [h.mem]
    constructor
    · rintro ⟨i', j', k', h1, h2⟩
      by_cases e : i' = i ∧ j' = j ∧ k' = k
      · obtain ⟨rfl, rfl, rfl⟩ := e
        obtain ⟨p', q', a1, a2, a3, a4, a5⟩ := h2
        cases hp.symm.trans a1
        cases hq.symm.trans a2
        exact .inr (a5.2.trans hl.2.symm)
      · exact .inl ⟨i', j', k', by omega, h2⟩
    · rintro (⟨i', j', k', h1, h2⟩ | rfl)
      · exact ⟨i', j', k', by omega, h2⟩
      · exact ⟨i, j, k, by omega, p, q, hp, hq, hk, hc, hl⟩
  have le := h.le
  by_cases e : t ∈ ks
  · rw [if_pos e]
    refine ⟨h.nd, by omega, fun u => ?_⟩
    rw [key]
    exact ⟨.inl, fun z => z.elim id fun z => by rw [z]; exact e⟩
  · rw [if_neg e]
    refine ⟨List.nodup_append.mpr ⟨h.nd, by simp, fun a ha b hb e2 => e (by rw [List.mem_singleton.mp hb] at e2; exact e2 ▸ ha)⟩, by rw [List.length_append, List.length_singleton]; omega, fun u => ?_⟩
    rw [key, List.mem_append, List.mem_singleton]
theorem MetTo.skip {ps ks : List Wd} {i j k : Nat} {p q : Wd} (h : MetTo ps i j k ks) (hp : ps[i]? = some p) (hq : ps[j]? = some q) (no : ¬ (i ≠ j ∨ 0 < k) ∨ ∀ t, ¬ Lays p q k t) : MetTo ps i j (k + 1) ks := by
  refine ⟨h.nd, by have := h.le; omega, fun u => ?_⟩
  rw [h.mem]
  constructor
  · rintro ⟨i', j', k', h1, h2⟩
    exact ⟨i', j', k', by omega, h2⟩
  · rintro ⟨i', j', k', h1, h2⟩
    by_cases e : i' = i ∧ j' = j ∧ k' = k
    · obtain ⟨rfl, rfl, rfl⟩ := e
      obtain ⟨p', q', a1, a2, a3, a4, a5⟩ := h2
      cases hp.symm.trans a1
      cases hq.symm.trans a2
      exact (no.elim (fun z => z a4) fun z => z u a5).elim
    · exact ⟨i', j', k', by omega, h2⟩
theorem MetTo.endk {ps ks : List Wd} {i j : Nat} {p : Wd} (h : MetTo ps i j p.length ks) (hp : ps[i]? = some p) (hl : p.length ≤ 8) : MetTo ps i (j + 1) 0 ks := by
  refine ⟨h.nd, by have := h.le; omega, fun u => ?_⟩
  rw [h.mem]
  constructor
  · rintro ⟨i', j', k', h1, h2⟩
    exact ⟨i', j', k', by omega, h2⟩
  · rintro ⟨i', j', k', h1, h2⟩
    refine ⟨i', j', k', ?_, h2⟩
    by_cases e : i' = i ∧ j' = j
    · obtain ⟨rfl, rfl⟩ := e
      obtain ⟨p', q', a1, a2, a3, _⟩ := h2
      cases hp.symm.trans a1
      omega
    · omega
theorem MetTo.endj {ps ks : List Wd} {i : Nat} (h : MetTo ps i ps.length 0 ks) : MetTo ps (i + 1) 0 0 ks := by
  refine ⟨h.nd, by have := h.le; rw [Nat.succ_mul]; omega, fun u => ?_⟩
  rw [h.mem]
  constructor
  · rintro ⟨i', j', k', h1, h2⟩
    exact ⟨i', j', k', by omega, h2⟩
  · rintro ⟨i', j', k', h1, h2⟩
    refine ⟨i', j', k', ?_, h2⟩
    obtain ⟨p', q', a1, a2, a3, _⟩ := h2
    have := (List.getElem?_eq_some_iff.mp a2).1
    omega
theorem MetTo.all {ps ks : List Wd} (h : MetTo ps ps.length 0 0 ks) (t : Wd) : t ∈ ks ↔ Meet ps t := by
  rw [h.mem, meet_at]
  constructor
  · rintro ⟨i', j', k', h1, h2⟩
    exact ⟨i', j', k', h2⟩
  · rintro ⟨i', j', k', h2⟩
    refine ⟨i', j', k', ?_, h2⟩
    obtain ⟨p', q', a1, a2, a3, _⟩ := h2
    have := (List.getElem?_eq_some_iff.mp a1).1
    omega
theorem MetTo.small {ps ks : List Wd} {i j k : Nat} (h : MetTo ps i j k ks) (h1 : ps.length ≤ 12) (h2 : i ≤ 12) (h3 : j ≤ 12) (h4 : k ≤ 8) : ks.length < 100000 := by
  have := h.le
  have : i * ps.length ≤ 12 * 12 := Nat.mul_le_mul h2 h1
  omega
theorem meet_len {ps : List Wd} {t : Wd} (o : Ok1 ps) (h : Meet ps t) : t.length ≤ 15 := by
  obtain ⟨i, j, p, q, k, h1, h2, h3, h4, h5, h6⟩ := h
  have hp := o.2.2 p (List.mem_of_getElem? h1)
  have hq := o.2.2 q (List.mem_of_getElem? h2)
  have nq : q.length ≠ 0 := fun z => o.2.1 q (List.mem_of_getElem? h2) (List.eq_nil_of_length_eq_zero z)
  rw [h6, List.length_append, List.length_drop, List.length_take, List.length_drop]
  omega
section
variable {P : Program} {w : World} {K : PySem.W.Frag} {mg : Str → Option Value} {base : Heap}
abbrev sMeets : Stmt := top 18
def spMeets (P1 P2 C : Addr) : Sp := fun vs H Q _ => ∃ (b : Addr) (ps : List Wd), vs = [.ref b] ∧ BookAt C H b ps ∧ Ok1 ps ∧ Tabs (TT P1 P2) H ∧
  ∀ H' p ms, ExtN H H' → Tabs (TT P1 P2) H' → NewN H p → H' p = some (.lst (txs ms)) → IsMeets ps ms → Q (.ref p) H'
theorem scMeets : FnScope ["book", "found", "number", "one", "other_number", "other", "place", "log"] ["book"] (defScope sMeets) := ⟨rfl, rfl, rfl, by decide +kernel, rfl, by decide +kernel, by decide +kernel⟩
theorem nonS (z : Str) : (!decide (V.str z = V.non)) = true := by
  rw [decide_eq_false (fun h => nomatch h)]
  rfl
theorem ok_meets {f C c P1 P2 : Addr} {fd : FuncData} (F : FunC K "meetings" "meetings" sMeets f c fd) (B : Blt mg) (T : BkT K mg C) (TB : TabB base mg c P2) (hne : P1 ≠ P2) (GM : Cal P w K mg base "meeting" 1 ["one", "other", "place"] spMeet) :
    FnOk P w K mg base CX0 2 f fd ["book"] (spMeets P1 P2 C) := by
  refine F.ok scMeets (fun vs H Q E h => ?_) (fun A outer s H vs Q E hr h => ?_)
  · obtain ⟨b, ps, rfl, _⟩ := h
    rfl
  · obtain ⟨b, ps, rfl, ⟨dx, t, hb, ht⟩, ⟨hps, hn, hp8⟩, hT, q⟩ := h
    have hu := hu_of hr
    refine ⟨_, pss_cons (ps_set (i := 1) scMeets.nd rfl (Or.inl rfl) pe_dnewK)
      (pss_cons (ps_for PassesOwn.never rfl (pi_enumT (by rfl) B.enumerate (pa_cons (pe_fld (pv 0) rfl) pa_nil)) (pg_tup rfl (pgs_cons (pg_name (i := 2) scMeets.nd rfl (Or.inl rfl)) (pgs_cons (pg_name (i := 3) scMeets.nd rfl (Or.inl rfl)) pgs_nil)))
        (pss_one (ps_for PassesOwn.never rfl (pi_enumT (by rfl) B.enumerate (pa_cons (pe_fld (pv 0) rfl) pa_nil)) (pg_tup rfl (pgs_cons (pg_name (i := 4) scMeets.nd rfl (Or.inl rfl)) (pgs_cons (pg_name (i := 5) scMeets.nd rfl (Or.inl rfl)) pgs_nil)))
          (pss_one (ps_for PassesOwn.never rfl (pi_range1 rfl B.range (pa_cons (pe_callB call_len (by rfl) B.len PySem.boot_len (pa_cons (pv 3) pa_nil)) pa_nil)) (pg_name (i := 6) scMeets.nd rfl (Or.inl rfl))
            (pss_cons (ps_set (i := 7) scMeets.nd rfl (Or.inl rfl) (pe_cal GM hr (by rfl) (pa_cons (pv 3) (pa_cons (pv 5) (pa_cons (pv 6) pa_nil)))))
            (pss_one (ps_if (PW.pt (pw_and (pt_cmp (pc_notN (pv 7))) (pw_and1 (pt_cmpR (op_neD hr.units) (pe_tup (pa_cons (pv 2) (pa_cons pe_int pa_nil))) (pe_tup (pa_cons (pv 4) (pa_cons (pv 6) pa_nil))) (nomark _)))))
              (pss_one (ps_dput hu (pv 1) (pv 7) pe_bl rfl)) pss_nil))))))))
      (pss_one (ps_ret (pe_sortK (x := "") (T := TT P1 P2) (P := P2) (pv 1) rfl hr ⟨rfl, rfl, rfl, by decide +kernel, by decide +kernel, rfl, rfl, by decide +kernel, fun _ _ _ _ _ _ => rfl⟩ TB rfl (.tail _ (.head _)) (fun p hp e => by
        rcases List.mem_cons.mp hp with rfl | hp
        · exact absurd e hne
        · rw [List.mem_singleton.mp hp]
          rfl) rfl (by rfl) B.sorted B.len)))), ?_⟩
    refine fun d nd => ?_
    have s0 : Same H (upd H d (.dK [])) := same_upd nd
    refine ⟨_, rfl, b, C, dx, _, _, rfl, s0 _ _ hb, T.cl, T.nP, rfl, t, _, rfl, sqT_s s0 (SqT.of ht), ?_⟩
    refine for_it walk_enumT (fun i σ H' => ∃ y2 y3 y4 y5 y6 y7 ks, σ = [some (.ref b), some (.ref d), y2, y3, y4, y5, y6, y7] ∧ Same H H' ∧ H' d = some (.dK (dks ks)) ∧ MetTo ps i 0 0 ks)
      ⟨none, none, none, none, none, none, [], rfl, s0, upd_same, .start ps⟩ (fun i σ H' _ ⟨_, _, _, _, _, _, _, _, s, _⟩ => sqT_s s (SqT.of ht)) ?_ ?_
    · rintro i x σ H1 H2 hi ⟨y2, y3, y4, y5, y6, y7, ks, rfl, s1, ed, M⟩ ⟨T1, x1, x2, rfl, nT, rfl, e1, e2⟩
      cases e1
      obtain ⟨p, hpi, rfl⟩ := txs_get e2
      have hi12 : i < 12 := by have := (List.getElem?_eq_some_iff.mp hpi).1; omega
      have p8 := hp8 p (List.mem_of_getElem? hpi)
      have sT := s1.trans (same_upd (o := .tup [V.int (i : Nat), .str (S p)]) nT)
      have edT : (upd H1 T1 (.tup [V.int (i : Nat), .str (S p)])) d = some (.dK (dks ks)) := by rw [upd_ne (ne_of_none ed nT)]; exact ed
      refine ⟨T1, _, rfl, SqT.of upd_same, rfl, _, _, rfl, _, _, rfl, rfl, ?_⟩
      refine ⟨_, rfl, b, C, dx, _, _, rfl, sT _ _ hb, T.cl, T.nP, rfl, t, _, rfl, sqT_s sT (SqT.of ht), ?_⟩
      refine for_it walk_enumT (fun j σ H' => ∃ y4 y5 y6 y7 ks, σ = [some (.ref b), some (.ref d), some (.int (i : Nat)), some (.str (S p)), y4, y5, y6, y7] ∧ Same H H' ∧ H' d = some (.dK (dks ks)) ∧ MetTo ps i j 0 ks)
        ⟨y4, y5, y6, y7, ks, rfl, sT, edT, M⟩ (fun i σ H' _ ⟨_, _, _, _, _, _, s, _⟩ => sqT_s s (SqT.of ht)) ?_ ?_
      · rintro j x σ H1 H2 hj ⟨y4, y5, y6, y7, ks, rfl, s1, ed, M⟩ ⟨T2, x1, x2, rfl, nT, rfl, e1, e2⟩
        cases e1
        obtain ⟨q', hqj, rfl⟩ := txs_get e2
        have hj12 : j < 12 := by have := (List.getElem?_eq_some_iff.mp hqj).1; omega
        have q8 := hp8 q' (List.mem_of_getElem? hqj)
        have sT := s1.trans (same_upd (o := .tup [V.int (j : Nat), .str (S q')]) nT)
        have edT : (upd H1 T2 (.tup [V.int (j : Nat), .str (S q')])) d = some (.dK (dks ks)) := by rw [upd_ne (ne_of_none ed nT)]; exact ed
        refine ⟨T2, _, rfl, SqT.of upd_same, rfl, _, _, rfl, _, _, rfl, rfl, ?_⟩
        refine ⟨_, rfl, _, _, rfl, len_s (sl100 (by omega)), (p.length : Int), rfl, by omega, by omega, ?_⟩
        refine for_range (n := p.length) (fun k σ H' => ∃ y6 y7 ks, σ = [some (.ref b), some (.ref d), some (.int (i : Nat)), some (.str (S p)), some (.int (j : Nat)), some (.str (S q')), y6, y7] ∧ Same H H' ∧ H' d = some (.dK (dks ks)) ∧ MetTo ps i j k ks)
          ⟨y6, y7, ks, rfl, sT, edT, M⟩ ?_ ?_
        · rintro k σ H3 hk ⟨y6, y7, ks, rfl, s3, d3, M⟩
          rw [show ((0 : Int) + (k : Int)) = (k : Int) by omega]
          refine ⟨_, rfl, _, rfl, _, rfl, p, q', k, rfl, by omega, by omega, by omega, fun l hl => ?_, fun no => ?_⟩
          · refine ⟨_, rfl, _, rfl, ?_⟩
            rw [nonS]
            refine iteT ⟨_, rfl, (by show 2 ≤ sizeLine; decide), fun a na => ?_⟩
            have sa := s3.trans (same_upd (o := .tup [V.int (i : Nat), .int 0]) na)
            refine ⟨_, rfl, _, rfl, (by show 2 ≤ sizeLine; decide), fun a' na' => ?_⟩
            have sa' := sa.trans (same_upd (o := .tup [V.int (j : Nat), .int (k : Nat)]) na')
            have naa : a ≠ a' := ne_of_none upd_same na'
            refine ⟨.tuple [.int i, .int 0], .tuple [.int j, .int k], .tup (SqT.of (by rw [upd_ne naa, upd_same])) (.cons (.int _) (.cons (.int _) .nil)), .tup (SqT.of upd_same) (.cons (.int _) (.cons (.int _) .nil)), rfl, rfl, _, rfl, ?_⟩
            have eq1 : PyData.eqv (.tuple [.int (i : Int), .int 0]) (.tuple [.int (j : Int), .int (k : Int)]) = decide (i = j ∧ k = 0) := by
              show (((i : Int) == (j : Int)) && (((0 : Int) == (k : Int)) && true)) = _
              rw [Bool.eq_iff_iff]
              simp only [Bool.and_eq_true, beq_iff_eq, decide_eq_true_eq, and_true]
              omega
            have d4 : (upd (upd H3 a (.tup [V.int (i : Nat), .int 0])) a' (.tup [V.int (j : Nat), .int (k : Nat)])) d = some (.dK (dks ks)) := by
              rw [upd_ne (ne_of_none (by rw [upd_ne (ne_of_none d3 na)]; exact d3) na'), upd_ne (ne_of_none d3 na)]
              exact d3
            refine ite2 (fun hc => ?_) (fun hc => ?_)
            · have hc2 : i ≠ j ∨ 0 < k := by
                rw [eq1] at hc
                have := of_decide_eq_false (Bool.not_eq_true' _ ▸ hc)
                omega
              have sm := M.small hps (by omega) (by omega) (by omega)
              refine ⟨_, rfl, _, rfl, d, _, rfl, DPut.k (k := Sum.inr (S l)) d4 (by rw [dks_len]; exact Nat.lt_of_lt_of_le (show _ < 1000000 by omega) (sl100 (Nat.le_refl _))), ?_⟩
              refine ⟨_, _, _, rfl, same_put sa' nd, ?_, M.add hpi hqj hk hc2 hl⟩
              rw [upd_same]
              by_cases e : l ∈ ks
              · rw [if_pos e, put_dks2 e]
              · rw [if_neg e, put_dks e]
            · have hc2 : ¬ (i ≠ j ∨ 0 < k) := fun z => hc (by
                rw [eq1, decide_eq_false (by omega)]
                rfl)
              exact ⟨_, _, ks, rfl, sa', d4, M.skip hpi hqj (.inl hc2)⟩
          · refine ⟨_, rfl, _, rfl, ?_⟩
            refine iteF (iteF ?_)
            exact ⟨_, _, ks, rfl, s3, d3, M.skip hpi hqj (.inr no)⟩
        · rintro σ H3 ⟨y6, y7, ks, rfl, s3, d3, M⟩
          exact ⟨_, _, _, _, ks, rfl, s3, d3, M.endk hpi p8⟩
      · rintro σ H3 ⟨y4, y5, y6, y7, ks, rfl, s3, d3, M⟩
        rw [txs_len] at M
        exact ⟨_, _, _, _, _, _, ks, rfl, s3, d3, M.endj⟩
    · rintro σ H3 ⟨y2, y3, y4, y5, y6, y7, ks, rfl, s3, d3, M⟩
      rw [txs_len] at M
      refine ⟨_, rfl, hT.ext s3, fun H2 eN T2 => ⟨d, ks, rfl, .inr ⟨dks ks, .inl (eN _ _ d3 (fun ps z => nomatch z)), by unfold dks; rw [List.map_map]; rfl⟩, M.nd, fun k hk => ?_, fun ys p perm pw np => ?_⟩⟩
      · have := meet_len ⟨hps, hn, hp8⟩ ((M.all k).mp hk)
        exact sl100 (by omega)
      · have e3 : ExtN H H2 := (extN_of s3).trans eN
        refine q _ p ys (extN_new e3 np) (T2.ext (same_upd np)) (.of e3 np) upd_same ⟨pw, fun e => ?_⟩
        rw [perm.mem_iff]
        exact M.all e
end
end K8
set_option Elab.async false
set_option linter.all false
set_option maxRecDepth 100000
namespace K8
open PySem PySem.Spec L2
open SX (S S_len S_cat S_inj)
open LamX (ExtN Tabs TabB)
/-- None, or a tuple of three texts -/
def RestAt (H : Hp) (v : V) : Option (Wd × Wd × Wd) → Prop
  | none => v = .non
  | some (a, e, f) => ∃ p, v = .ref p ∧ H p = some (.tup [.str (S a), .str (S e), .str (S f)])
theorem take_no {ps ms : List Wd} {i : Nat} {t : Wd} (h : ∀ u, u ∈ ms.take i → ¬ Two ps u) (ht : ms[i]? = some t) (hn : ¬ Two ps t) : ∀ u, u ∈ ms.take (i + 1) → ¬ Two ps u := by
  intro u hu
  rw [List.take_add_one, ht] at hu
  rcases List.mem_append.mp hu with h1 | h1
  · exact h u h1
  · have : u = t := by simpa using h1
    rw [this]
    exact hn
theorem first_at {ps ms es : List Wd} {i : Nat} {t : Wd} (h : ∀ u, u ∈ ms.take i → ¬ Two ps u) (ht : ms[i]? = some t) (ie : IsEnds ps t es) (h1 : 1 < es.length) : ∃ e f r, es = e :: f :: r ∧ First ps ms (some (t, e, f)) := by
  match es, h1, ie with
  | e :: f :: r, _, ie =>
    refine ⟨e, f, r, rfl, ms.take i, ms.drop (i + 1), r, ?_, h, ie⟩
    obtain ⟨hi, e⟩ := List.getElem?_eq_some_iff.mp ht
    rw [← e, ← List.drop_eq_getElem_cons hi, List.take_append_drop]
section
variable {P : Program} {w : World} {K : PySem.W.Frag} {mg : Str → Option Value} {base : Heap}
abbrev sRest : Stmt := top 19
def spRest (P1 P2 C : Addr) : Sp := fun vs H Q _ => ∃ (b : Addr) (ps : List Wd), vs = [.ref b] ∧ BookAt C H b ps ∧ Ok1 ps ∧ Tabs (TT P1 P2) H ∧
  ∀ H' v ms r, ExtN H H' → Tabs (TT P1 P2) H' → IsMeets ps ms → First ps ms r → RestAt H' v r → Q v H'
theorem scRest : FnScope ["book", "log", "some"] ["book"] (defScope sRest) := ⟨rfl, rfl, rfl, by decide +kernel, rfl, by decide +kernel, by decide +kernel⟩
theorem ok_rest {f C P1 P2 : Addr} {fd : FuncData} (F : Fun K "one_rest" "one_rest" sRest f fd) (B : Blt mg) (GM : Cal P w K mg base "meetings" 2 ["book"] (spMeets P1 P2 C)) (GE : Cal P w K mg base "ends_among" 2 ["book", "texts"] (spEnds P1 P2 C)) (GA : Cal P w K mg base "all_left" 2 ["book", "log", "most"] (spAll C)) :
    FnOk P w K mg base CX0 3 f fd ["book"] (spRest P1 P2 C) := by
  refine F.ok scRest (fun vs H Q E h => ?_) (fun cdv A outer s H vs Q E hr h => ?_)
  · obtain ⟨b, ps, rfl, _⟩ := h
    rfl
  · obtain ⟨b, ps, rfl, hb, o1, hT, q⟩ := h
    refine ⟨_, pss_cons (ps_for PassesOwn.never rfl (pi_list (pe_cal GM hr (by rfl) (pa_cons (pv 0) pa_nil))) (pg_name (i := 1) scRest.nd rfl (Or.inl rfl))
        (pss_cons (ps_set (i := 2) scRest.nd rfl (Or.inl rfl) (pe_cal GE hr (by rfl) (pa_cons (pv 0) (pa_cons (pe_cal GA hr (by rfl) (pa_cons (pv 0) (pa_cons (pv 1) (pa_cons pe_non pa_nil)))) pa_nil))))
        (pss_one (ps_if (pt_cmpR op_gt (pe_callB call_len (by rfl) B.len PySem.boot_len (pa_cons (pv 2) pa_nil)) pe_int (nomark _))
          (pss_one (ps_ret (pe_tup (pa_cons (pv 1) (pa_cons (pe_ix ix_list (pv 2) pe_int (fun _ _ => rfl)) (pa_cons (pe_ix ix_list (pv 2) pe_int (fun _ _ => rfl)) pa_nil)))))) pss_nil))))
      (pss_one (ps_ret pe_non)), ?_⟩
    refine ⟨_, rfl, b, ps, rfl, hb, o1, hT, fun H1 l ms e1 T1 n1 hl im => ⟨l, rfl, ⟨_, SqL.of hl⟩, ?_⟩⟩
    refine for_list (K := K) (a := l) (xs := txs ms) (fun i σ H' => ∃ y1 y2, σ = [some (.ref b), y1, y2] ∧ ExtN H H' ∧ Tabs (TT P1 P2) H' ∧ H' l = some (.lst (txs ms)) ∧ ∀ u, u ∈ ms.take i → ¬ Two ps u)
      ⟨none, none, rfl, e1, T1, hl, fun u hu => by simp at hu⟩ (fun i σ H' _ ⟨_, _, _, _, _, h, _⟩ => SqL.of h) ?_ ?_
    · rintro i x σ H2 hx ⟨y1, y2, rfl, e2, T2, h2, no⟩
      obtain ⟨t, ht, rfl⟩ := txs_get hx
      have lt : t.length ≤ 15 := meet_len o1 ((im.2 t).mp (List.mem_of_getElem? ht))
      refine ⟨_, rfl, _, rfl, _, rfl, b, ps, t, rfl, hb.extN e2, lt, o1, fun H3 d s3 nd fl => ?_⟩
      refine ⟨b, d, ps, t, rfl, (hb.extN e2).same s3, lt, o1, fl, T2.ext s3, fun H4 p es e4 T4 n4 hp ie => ?_⟩
      have e5 : ExtN H H4 := (e2.trans (extN_of s3)).trans e4
      refine ⟨_, rfl, _, _, rfl, .inl ⟨_, SqL.of hp, rfl⟩, _, _, rfl, rfl, _, rfl, ?_⟩
      rw [txs_len]
      refine ite2 (fun h => ?_) (fun h => ?_)
      · have h1 : 1 < es.length := by have := of_decide_eq_true h; omega
        obtain ⟨e, f, r, rfl, fi⟩ := first_at no ht ie h1
        refine ⟨_, rfl, _, rfl, p, _, _, _, rfl, rfl, SqL.of hp, atI_nat (j := 0) rfl, _, rfl, p, _, _, _, rfl, rfl, SqL.of hp, atI_nat (j := 1) rfl, (by show 3 ≤ sizeLine; decide), fun z nz => ?_⟩
        exact q _ _ ms _ (extN_new e5 nz) (T4.ext (same_upd nz)) im fi ⟨z, rfl, upd_same⟩
      · refine ⟨_, _, rfl, e5, T4, e4 _ _ (s3 _ _ h2) (fun ps z => nomatch z), take_no no ht (ie.short ?_)⟩
        have : ¬ (1 : Int) < ((es.length : Nat) : Int) := fun z => h (decide_eq_true z)
        omega
    · rintro σ H2 ⟨y1, y2, rfl, e2, T2, h2, no⟩
      rw [txs_len, List.take_length] at no
      exact q _ _ ms none e2 T2 im no rfl
end
end K8
set_option Elab.async false
set_option linter.all false
set_option maxRecDepth 100000
namespace K8
open PySem PySem.Spec L2
open SX (S S_len S_cat S_inj)
/-- the law's hand at a: its cells at another list -/
def Hand (H : Hp) (a c : Addr) : Prop := ∃ (cs : List Int) (i : Nat) (d e n : Int), a ≠ c ∧ H a = some (.lst [.ref c, .int (i : Nat), .int d, .int e, .int n]) ∧ H c = some (.lst (cs.map V.int))
/-- all but a stands; a is a hand -/
structure Keep (a c : Addr) (H H' : Hp) : Prop where
  keep : ∀ b o, b ≠ a → H b = some o → H' b = some o
  hand : Hand H' a c
theorem Keep.trans {a c : Addr} {H H1 H2 : Hp} (k : Keep a c H H1) (l : Keep a c H1 H2) : Keep a c H H2 := ⟨fun b o n e => l.keep b o n (k.keep b o n e), l.hand⟩
theorem Keep.refl {a c : Addr} {H : Hp} (h : Hand H a c) : Keep a c H H := ⟨fun _ _ _ e => e, h⟩
theorem Hand.ne {H : Hp} {a c p : Addr} (h : Hand H a c) (hp : H p = none) : p ≠ a ∧ p ≠ c := by
  obtain ⟨cs, i, d, e, n, h1, h2, h3⟩ := h
  exact ⟨fun z => (by rw [z, h2] at hp; cases hp), fun z => (by rw [z, h3] at hp; cases hp)⟩
theorem Hand.put {H : Hp} {a c p : Addr} {o : HO} (h : Hand H a c) (n1 : p ≠ a) (n2 : p ≠ c) : Hand (upd H p o) a c := by
  obtain ⟨cs, i, d, e, n, h1, h2, h3⟩ := h
  exact ⟨cs, i, d, e, n, h1, by rw [upd_ne n1.symm]; exact h2, by rw [upd_ne n2.symm]; exact h3⟩
theorem Hand.same {a c : Addr} {H H' : Hp} (h : Hand H a c) (s : Same H H') : Hand H' a c := by
  obtain ⟨cs, i, d, e, n, h1, h2, h3⟩ := h
  exact ⟨cs, i, d, e, n, h1, s _ _ h2, s _ _ h3⟩
theorem Keep.new {a c p : Addr} {H H1 : Hp} {o : HO} (k : Keep a c H H1) (hp : H1 p = none) : Keep a c H (upd H1 p o) := ⟨fun b u n e => by rw [upd_ne (ne_of_none (k.keep b u n e) hp)]; exact k.keep b u n e, k.hand.put (k.hand.ne hp).1 (k.hand.ne hp).2⟩
theorem Keep.same {a c : Addr} {H H1 H2 : Hp} (k : Keep a c H H1) (s : Same H1 H2) : Keep a c H H2 := ⟨fun b u n e => s _ _ (k.keep b u n e), k.hand.same s⟩
theorem Keep.free {a c p : Addr} {H H1 : Hp} (k : Keep a c H H1) (hp : H1 p = none) : H p = none := by
  cases e : H p with
  | none => rfl
  | some u =>
    rw [k.keep p u (k.hand.ne hp).1 e] at hp
    cases hp
/-- an own object that is none of the hand's is changed -/
theorem Keep.put {a c p : Addr} {H H1 : Hp} {o : HO} (k : Keep a c H H1) (hp : H p = none) (n1 : p ≠ a) (n2 : p ≠ c) : Keep a c H (upd H1 p o) := ⟨fun b u n e => by rw [upd_ne (ne_of_none e hp)]; exact k.keep b u n e, k.hand.put n1 n2⟩
section
variable {P : Program} {w : World} {K : PySem.W.Frag} {mg : Str → Option Value} {base : Heap}
abbrev sHand : Stmt := top 21
abbrev sDraw : Stmt := top 22
def spHand (K : PySem.W.Frag) : Sp := fun vs H Q _ => ∃ (l : Addr) (ns : List Int), vs = [.ref l] ∧ SqL K H l (ns.map V.int) ∧ ns.length ≤ 63 ∧ ∀ H' a c, Same H H' → H a = none → H c = none → Hand H' a c → Q (.ref a) H'
theorem scHand : FnScope ["_law_script", "_law_cells", "_law_cell"] ["_law_script"] (defScope sHand) := ⟨rfl, rfl, rfl, by decide +kernel, rfl, by decide +kernel, by decide +kernel⟩
theorem cutV_int (ns : List Int) (lo hi : Option Int) : ∃ ms : List Int, cutV (ns.map V.int) lo hi = ms.map V.int ∧ ms.length ≤ ns.length := by
  unfold cutV
  refine ⟨(ns.drop _).take _, (by rw [List.map_take, List.map_drop]), ?_⟩
  rw [List.length_take, List.length_drop]
  omega
theorem ok_hand {f : Addr} {fd : FuncData} (F : Fun K "_law_hand" "_law_hand" sHand f fd) (B : Blt mg) : FnOk P w K mg base CX0 1 f fd ["_law_script"] (spHand K) := by
  refine F.ok scHand (fun vs H Q E h => ?_) (fun cdv A outer s H vs Q E hr h => ?_)
  · obtain ⟨l, ns, rfl, _⟩ := h
    rfl
  · obtain ⟨l, ns, rfl, hl, hn, q⟩ := h
    refine ⟨_, pss_cons (ps_setLc (i := 1) (own := [("_law_cell", 2)]) (g := gName 2) (tt := tYes) rfl scHand.nd rfl rfl (sw_true rfl rfl rfl (by decide +kernel)) (pi_list (pe_slice sl_list (pv 0) po_none (po_some pe_int))) (blkOk_by (N := ["_law_script", "_law_cells", "_law_cell"]) (sc := defScope sHand) (by decide +kernel))
        (fun _ _ _ _ _ => pg_name (i := 2) scHand.nd rfl (Or.inl rfl)) (fun _ _ _ _ _ => pts_nil)
        (fun _ _ _ _ _ => pe_callB call_abs (by rfl) B.abs (by decide +kernel) (pa_cons (pe_callTy call_int1 (by rfl) B.int (by decide +kernel) (pa_cons (pv 2) pa_nil)) pa_nil)))
      (pss_one (ps_ret (pe_lst (pa_cons (pv 1) (pa_cons pe_int (pa_cons pe_int (pa_cons (pe_op op_add pe_int (pe_callB call_len (by rfl) B.len PySem.boot_len (pa_cons (pv 1) pa_nil))) (pa_cons pe_int pa_nil)))))))), ?_⟩
    obtain ⟨ms, em, lm⟩ := cutV_int ns none (some 63)
    refine ⟨_, rfl, _, rfl, l, _, rfl, hl, fun p np => ?_⟩
    rw [em]
    have sp := same_upd (o := .lst (ms.map V.int)) np
    refine ⟨p, rfl, ⟨_, SqL.of upd_same⟩, fun D nD => ?_⟩
    have nDp : p ≠ D := ne_of_none upd_same nD
    have nD0 : H D = none := by rw [upd_ne nDp.symm] at nD; exact nD
    refine lc_list (K := K) (a := p) (xs := ms.map V.int) (fun i H' => Same H H' ∧ H' p = some (.lst (ms.map V.int)) ∧ ∃ ks : List Int, ks.length = i ∧ H' D = some (.lst (ks.map V.int)))
      ⟨sp.trans (same_upd nD), by rw [upd_ne nDp, upd_same], [], rfl, upd_same⟩ (fun i H' _ ⟨_, h, _⟩ => SqL.of h) ?_ ?_
    · rintro i x H1 hx ⟨s1, h1, ks, lk, hD⟩
      refine ⟨rfl, ?_⟩
      rw [List.getElem?_map] at hx
      cases e : ms[i]? with
      | none => rw [e] at hx; cases hx
      | some u =>
        rw [e] at hx
        cases hx
        have hi := (List.getElem?_eq_some_iff.mp e).1
        refine ⟨_, rfl, .inl ⟨_, rfl, _, rfl, _, hD, ?_, same_put s1 nD0, by rw [upd_ne nDp]; exact h1, ks ++ [if u < 0 then -u else u], ?_, ?_⟩⟩
        · rw [List.length_map]
          exact Nat.lt_of_lt_of_le (show _ < 1000000 by omega) (sl100 (Nat.le_refl _))
        · rw [List.length_append, lk]
          rfl
        · rw [upd_same, List.map_append]
          rfl
    · rintro H1 ⟨s1, h1, ks, lk, hD⟩
      rw [List.length_map] at lk
      refine ⟨_, rfl, _, rfl, _, _, rfl, .inl ⟨_, SqL.of hD, rfl⟩, _, _, rfl, rfl, (by show 5 ≤ sizeLine; decide), fun a na => ?_⟩
      have nDa : D ≠ a := ne_of_none hD na
      refine q _ a D (s1.trans (same_upd na)) (s1.free na) nD0 ⟨ks, 0, 0, _, 0, nDa.symm, upd_same, by rw [upd_ne nDa]; exact hD⟩
theorem scDraw : FnScope ["_law_hand_here", "_law_many", "_law_cell", "_law_digit", "_law_number"] ["_law_hand_here", "_law_many"] (defScope sDraw) := ⟨rfl, rfl, rfl, by decide +kernel, rfl, by decide +kernel, by decide +kernel⟩
def spDraw : Sp := fun vs H Q _ => ∃ (a c : Addr) (m : Int), vs = [.ref a, .int m] ∧ Hand H a c ∧ 0 < m ∧ m < 2 ^ 20 ∧ ∀ H' r, Keep a c H H' → (∀ b, H b = none → H' b = none) → 0 ≤ r → r < m → Q (.int r) H'
theorem mod_box {x : Int} (m : Int) (h : 0 < m) : 0 ≤ x % m ∧ x % m < m := ⟨Int.emod_nonneg _ (by omega), Int.emod_lt_of_pos _ h⟩
theorem upd_none {H : Hp} {a : Addr} {o : HO} {b : Addr} {u : HO} (h : H a = some u) (hb : H b = none) : upd H a o b = none := by
  rw [upd_ne (fun z => by rw [z, h] at hb; cases hb)]
  exact hb
theorem ok_draw {f : Addr} {fd : FuncData} (F : Fun K "_law_draw" "_law_draw" sDraw f fd) (B : Blt mg) : FnOk P w K mg base CX0 1 f fd ["_law_hand_here", "_law_many"] spDraw := by
  refine F.ok scDraw (fun vs H Q E h => ?_) (fun cdv A outer s H vs Q E hr h => ?_)
  · obtain ⟨a, c, m, rfl, _⟩ := h
    rfl
  · obtain ⟨a, c, m, rfl, hh, m0, m1, q⟩ := h
    obtain ⟨cs, i, d, e, n, nac, ha, hc⟩ := hh
    have tail : ∃ t, PSs (cxOf CX0 P w K mg base ["_law_hand_here", "_law_many", "_law_cell", "_law_digit", "_law_number"] "_law_draw" (defScope sDraw) f cdv A outer s H E).nox ((defBody sDraw).drop 1) t ∧
        ∀ (H1 : Hp) y2 (i : Nat) (d e n : Int), (∀ b o, b ≠ a → H b = some o → H1 b = some o) → (∀ b, H b = none → H1 b = none) → H1 a = some (.lst [.ref c, .int (i : Nat), .int d, .int e, .int n]) →
          t { nx := fun _ H' => Q .non H', rt := Q } [some (.ref a), some (.int m), y2, none, none] H1 := by
      refine ⟨_, pss_cons (ps_if (pt_cmpR op_gt (pe_ix ix_list (pv 0) pe_int (fun _ _ => rfl)) pe_int (nomark _))
          (pss_cons (ps_set (i := 3) scDraw.nd rfl (Or.inl rfl) (pe_op op_mod (pe_callTy call_int1 (by rfl) B.int (by decide +kernel) (pa_cons (pe_ix ix_list (pv 0) pe_int (fun _ _ => rfl)) pa_nil)) (pv 1)))
          (pss_cons (ps_asg (pe_op op_fdiv (pe_ix ix_list (pv 0) pe_int (fun _ _ => rfl)) (pv 1)) (pg_sub (pv 0) pe_int set_list))
          (pss_one (ps_ret (pv 3))))) pss_nil)
        (pss_cons (ps_asg (pe_op op_add (pe_ix ix_list (pv 0) pe_int (fun _ _ => rfl)) pe_int) (pg_sub (pv 0) pe_int set_list))
        (pss_cons (ps_set (i := 4) scDraw.nd rfl (Or.inl rfl) (pe_op op_mod (pe_callTy call_int1 (by rfl) B.int (by decide +kernel) (pa_cons (pe_op op_mul (pe_callTy call_int1 (by rfl) B.int (by decide +kernel) (pa_cons (pe_op op_add (pe_ix ix_list (pv 0) pe_int (fun _ _ => rfl)) (pe_op op_mul pe_int (pe_ix ix_list (pv 0) pe_int (fun _ _ => rfl)))) pa_nil)) pe_int) pa_nil)) pe_int))
        (pss_cons (ps_set (i := 4) scDraw.nd rfl (Or.inl rfl) (pe_op op_mod (pe_callTy call_int1 (by rfl) B.int (by decide +kernel) (pa_cons (pe_op op_mul (pv 4) (pe_op op_add (pe_op op_fdiv (pv 4) pe_int) pe_int)) pa_nil)) pe_int))
        (pss_cons (ps_set (i := 4) scDraw.nd rfl (Or.inl rfl) (pe_op op_mod (pe_callTy call_int1 (by rfl) B.int (by decide +kernel) (pa_cons (pe_op op_mul (pv 4) (pe_op op_add (pe_op op_fdiv (pv 4) pe_int) pe_int)) pa_nil)) pe_int))
        (pss_one (ps_ret (pe_op op_mod (pe_callTy call_int1 (by rfl) B.int (by decide +kernel) (pa_cons (pe_op op_fdiv (pv 4) pe_int) pa_nil)) (pv 1)))))))), fun H1 y2 i d e n k1 k2 ha1 => ?_⟩
      have nc1 : ∀ {o}, (upd H1 a o) c = some (.lst (cs.map V.int)) := by
        intro o
        rw [upd_ne nac.symm]
        exact k1 _ _ nac.symm hc
      refine ⟨_, rfl, a, _, _, _, rfl, rfl, SqL.of ha1, atI_nat (j := 2) rfl, _, _, rfl, rfl, _, rfl, ite2 (fun _ => ?_) (fun _ => ?_)⟩
      · refine ⟨_, rfl, a, _, _, _, rfl, rfl, SqL.of ha1, atI_nat (j := 2) rfl, .inl ⟨_, rfl, _, rfl, _, _, rfl, rfl, m0, ?_⟩⟩
        refine ⟨_, rfl, a, _, _, _, rfl, rfl, SqL.of ha1, atI_nat (j := 2) rfl, _, rfl, _, _, rfl, rfl, ⟨m0, by omega⟩, ?_⟩
        refine ⟨_, rfl, a, _, _, 2, rfl, rfl, ha1, rfl, _, rfl, ?_⟩
        have b := mod_box (x := d) m m0
        exact q _ _ ⟨fun b o nb eb => by rw [upd_ne nb]; exact k1 _ _ nb eb, cs, i, d / m, e, n, nac, upd_same, nc1⟩ (fun b hb => upd_none ha1 (k2 b hb)) b.1 b.2
      · refine ⟨_, rfl, a, _, _, _, rfl, rfl, SqL.of ha1, atI_nat (j := 4) rfl, _, _, rfl, rfl, ?_⟩
        refine ⟨_, rfl, a, _, _, 4, rfl, rfl, ha1, rfl, ?_⟩
        refine ⟨_, rfl, a, _, _, _, rfl, rfl, SqL.of upd_same, atI_nat (j := 3) rfl, _, rfl, a, _, _, _, rfl, rfl, SqL.of upd_same, atI_nat (j := 4) rfl, _, _, rfl, rfl, .inl (by show -(2 ^ 64 : Int) < 7919 ∧ (7919 : Int) < 2 ^ 64; decide), _, _, rfl, rfl, .inl ⟨_, rfl, _, _, rfl, rfl, .inr (by show -(2 ^ 64 : Int) < 48271 ∧ (48271 : Int) < 2 ^ 64; decide), .inl ⟨_, rfl, _, _, rfl, rfl, (by show (0 : Int) < 2147483647; decide), ?_⟩⟩⟩
        have b1 := mod_box (x := (e + 7919 * (n + 1)) * 48271) 2147483647 (by decide)
        refine ⟨_, rfl, _, rfl, _, _, rfl, rfl, ⟨by decide, by decide⟩, _, _, rfl, rfl, _, _, rfl, rfl, .inl ?_, .inl ⟨_, rfl, _, _, rfl, rfl, (by show (0 : Int) < 2147483647; decide), ?_⟩⟩
        · exact ⟨by omega, by omega⟩
        have b2 := mod_box (x := (e + 7919 * (n + 1)) * 48271 % 2147483647 * ((e + 7919 * (n + 1)) * 48271 % 2147483647 / 1009 + 69621)) 2147483647 (by decide)
        refine ⟨_, rfl, _, rfl, _, _, rfl, rfl, ⟨by decide, by decide⟩, _, _, rfl, rfl, _, _, rfl, rfl, .inl ?_, .inl ⟨_, rfl, _, _, rfl, rfl, (by show (0 : Int) < 2147483399; decide), ?_⟩⟩
        · exact ⟨by omega, by omega⟩
        refine ⟨_, rfl, _, _, rfl, rfl, ⟨by decide, by decide⟩, .inl ⟨_, rfl, _, rfl, _, _, rfl, rfl, m0, ?_⟩⟩
        have b3 := fun x : Int => mod_box (x := x) m m0
        exact q _ _ ⟨fun b o nb eb => by rw [upd_ne nb]; exact k1 _ _ nb eb, cs, i, d, e, n + 1, nac, upd_same, nc1⟩ (fun b hb => upd_none ha1 (k2 b hb)) (b3 _).1 (b3 _).2
    obtain ⟨t, ht, kt⟩ := tail
    refine ⟨_, pss_cons (ps_if (PW.pt (pw_and (pt_cmpR op_eq (pe_ix ix_list (pv 0) pe_int (fun _ _ => rfl)) pe_int (nomark _)) (pw_and1 (pt_cmpR op_lt (pe_ix ix_list (pv 0) pe_int (fun _ _ => rfl)) (pe_callB call_len (by rfl) B.len PySem.boot_len (pa_cons (pe_ix ix_list (pv 0) pe_int (fun _ _ => rfl)) pa_nil)) (nomark _)))))
        (pss_cons (ps_set (i := 2) scDraw.nd rfl (Or.inl rfl) (pe_ix ix_list (pe_ix ix_list (pv 0) pe_int (fun _ _ => rfl)) (pe_ix ix_list (pv 0) pe_int (fun _ _ => rfl)) (fun _ _ => rfl)))
        (pss_cons (ps_asg (pe_op op_add (pe_ix ix_list (pv 0) pe_int (fun _ _ => rfl)) pe_int) (pg_sub (pv 0) pe_int set_list))
        (pss_cons (ps_asg (pe_op op_mod (pe_callTy call_int1 (by rfl) B.int (by decide +kernel) (pa_cons (pe_op op_add (pe_op op_add (pe_op op_mul (pe_ix ix_list (pv 0) pe_int (fun _ _ => rfl)) pe_int) (pv 2)) pe_int) pa_nil)) pe_int) (pg_sub (pv 0) pe_int set_list))
        (pss_one (ps_if (pt_cmpR op_ge (pv 2) (pe_op op_pow pe_int pe_int) (nomark _)) (pss_one (ps_asg (pv 2) (pg_sub (pv 0) pe_int set_list))) pss_nil))))) pss_nil) ht, ?_⟩
    refine ⟨_, rfl, a, _, _, _, rfl, rfl, SqL.of ha, atI_nat (j := 2) rfl, rfl, _, rfl, ite2 (fun _ => ?_) (fun _ => ?_)⟩
    · refine ⟨_, rfl, a, _, _, _, rfl, rfl, SqL.of ha, atI_nat (j := 1) rfl, _, rfl, a, _, _, _, rfl, rfl, SqL.of ha, atI_nat (j := 0) rfl, _, _, rfl, .inl ⟨_, SqL.of hc, rfl⟩, _, _, rfl, rfl, _, rfl, ite2 (fun hlt => ?_) (fun _ => ?_)⟩
      · rw [List.length_map] at hlt
        have hi : i < cs.length := by have := of_decide_eq_true hlt; omega
        obtain ⟨u, hu⟩ : ∃ u, cs[i]? = some u := ⟨_, List.getElem?_eq_getElem hi⟩
        have hu2 : (cs.map V.int)[i]? = some (.int u) := by rw [List.getElem?_map, hu]; rfl
        refine ⟨_, rfl, a, _, _, _, rfl, rfl, SqL.of ha, atI_nat (j := 0) rfl, _, rfl, a, _, _, _, rfl, rfl, SqL.of ha, atI_nat (j := 1) rfl, c, _, _, _, rfl, rfl, SqL.of hc, atI_nat hu2, ?_⟩
        refine ⟨_, rfl, a, _, _, _, rfl, rfl, SqL.of ha, atI_nat (j := 1) rfl, _, _, rfl, rfl, ?_⟩
        refine ⟨_, rfl, a, _, _, 1, rfl, rfl, ha, rfl, ?_⟩
        refine ⟨_, rfl, a, _, _, _, rfl, rfl, SqL.of upd_same, atI_nat (j := 3) rfl, _, _, rfl, rfl, .inr (by show -(2 ^ 64 : Int) < 69621 ∧ (69621 : Int) < 2 ^ 64; decide), _, rfl, _, _, rfl, rfl, _, _, rfl, rfl, .inl ⟨_, rfl, _, _, rfl, rfl, (by show (0 : Int) < 2147483629; decide), ?_⟩⟩
        refine ⟨_, rfl, a, _, _, 3, rfl, rfl, upd_same, rfl, ?_⟩
        have kn : ∀ {o}, ∀ b, H b = none → (upd H a o) b = none := fun b hb => upd_none ha hb
        refine ⟨_, rfl, _, _, rfl, rfl, ⟨by decide, by decide, by decide⟩, _, _, rfl, rfl, _, rfl, ite2 (fun _ => ?_) (fun _ => ?_)⟩
        · refine ⟨_, rfl, _, rfl, a, _, _, 2, rfl, rfl, upd_same, rfl, ?_⟩
          rw [upd_upd, upd_upd]
          exact kt _ _ (i + 1) _ _ _ (fun b o nb eb => by rw [upd_ne nb]; exact eb) kn upd_same
        · rw [upd_upd]
          exact kt _ _ (i + 1) _ _ _ (fun b o nb eb => by rw [upd_ne nb]; exact eb) kn upd_same
      · exact kt _ _ i d e n (fun b o nb eb => eb) (fun b hb => hb) ha
    · exact kt _ _ i d e n (fun b o nb eb => eb) (fun b hb => hb) ha
end
end K8
set_option Elab.async false
set_option linter.all false
set_option maxRecDepth 100000
namespace K8
open PySem PySem.Spec L2
open SX (S S_len S_cat S_inj)
open RZ (ItzT pi_zipA)
/-- the same data, of so many levels -/
def Leaf (x : V) : Prop := x = .non ∨ ∃ z, x = .str z
def Eqd (H : Hp) : Nat → V → V → Prop
  | 0, x, y => x = y ∧ Leaf x
  | n + 1, x, y => (x = y ∧ Leaf x) ∨ ∃ a b xs ys, x = .ref a ∧ y = .ref b ∧ ((H a = some (.lst xs) ∧ H b = some (.lst ys)) ∨ (H a = some (.tup xs) ∧ H b = some (.tup ys))) ∧ xs.length = ys.length ∧ xs.length ≤ 100000 ∧
      ∀ (i : Nat) x y, xs[i]? = some x → ys[i]? = some y → Eqd H n x y
theorem Eqd.same {H H' : Hp} (s : Same H H') : ∀ {n : Nat} {x y : V}, Eqd H n x y → Eqd H' n x y
  | 0, _, _, h => h
  | n + 1, x, y, h => by
    rcases h with h | ⟨a, b, xs, ys, h1, h2, h3, h4, h5, h6⟩
    · exact .inl h
    · exact .inr ⟨a, b, xs, ys, h1, h2, h3.elim (fun h => .inl ⟨s _ _ h.1, s _ _ h.2⟩) (fun h => .inr ⟨s _ _ h.1, s _ _ h.2⟩), h4, h5, fun i x y e1 e2 => (h6 i x y e1 e2).same s⟩
theorem walk_zipT {K : PySem.W.Frag} {a b : Addr} {xs ys : List V} {n : Nat} (hn : n = min xs.length ys.length) : Walk (ItzT K a b) n (fun H => SqT K H a xs ∧ SqT K H b ys) (YPair (fun i => xs[i]?) (fun i => ys[i]?)) := by
  subst hn
  refine ⟨fun i _ hi q => ?_, fun _ q => ⟨xs, ys, q.1, q.2, by omega⟩, fun i H v H' _ q y => ?_⟩
  · have h1 : i < xs.length := by omega
    have h2 : i < ys.length := by omega
    exact ⟨xs, ys, xs[i], ys[i], q.1, q.2, by simp [h1], by simp [h2]⟩
  · obtain ⟨T, x, z, h1, h2, h3, h4, h5⟩ := y
    exact ⟨T, x, z, h1, h2, h3, h4 xs q.1, h5 ys q.2⟩
section
variable {P : Program} {w : World} {K : PySem.W.Frag} {mg : Str → Option Value} {base : Heap}
abbrev sIs : Stmt := top 24
abbrev nIs : List Str := ["_law_told", "_law_due", "_law_one", "_law_two"]
def spIs (n : Nat) : Sp := fun vs H Q _ => ∃ x y, vs = [x, y] ∧ Eqd H n x y ∧ ∀ H', Same H H' → Q (.bl true) H'
theorem scIs : FnScope nIs ["_law_told", "_law_due"] (defScope sIs) := ⟨rfl, rfl, rfl, by decide +kernel, rfl, by decide +kernel, by decide +kernel⟩
theorem kTL {t : Value} {b c : Bool} (h1 : PySem.W.kitOne K t (.type "tuple") = some b) (h2 : PySem.W.kitOne K t (.type "list") = some c) : PySem.W.kitAny K t [.type "tuple", .type "list"] = some (b || c) := by
  refine kitAny_cons h1 (fun e => ?_) (fun e => by rw [e]; rfl)
  refine kitAny_cons h2 (fun e2 => ?_) (fun e2 => by rw [e, e2]; rfl)
  rw [e, e2]
  rfl
theorem pTL : Paired ClsV [.ty "tuple", .ty "list"] [Value.type "tuple", Value.type "list"] := .cons (.ty _) (.cons (.ty _) .nil)
/-- the last return, at a leaf -/
theorem leaf_kit {H : Hp} {x : V} (h : Leaf x) : ∃ t, TyX K H x t ∧ PySem.W.kitOne K t (.type "tuple") = some false ∧ PySem.W.kitOne K t (.type "list") = some false ∧ PySem.W.kitOne K t (.type "bool") = some false ∧ scal x x = true := by
  rcases h with rfl | ⟨z, rfl⟩
  · exact ⟨_, .base .non, kit_ty (by decide +kernel), kit_ty (by decide +kernel), kit_ty (by decide +kernel), rfl⟩
  · exact ⟨_, .base (.str z), kit_ty (by decide +kernel), kit_ty (by decide +kernel), kit_ty (by decide +kernel), rfl⟩
theorem ok_is0 {f : Addr} {fd : FuncData} (F : Fun K "_law_is" "_law_is" sIs f fd) (B : Blt mg) : FnOk P w K mg base CX0 1 f fd ["_law_told", "_law_due"] (spIs 0) := by
  refine F.ok scIs (fun vs H Q E h => ?_) (fun cdv A outer s H vs Q E hr h => ?_)
  · obtain ⟨x, y, rfl, _⟩ := h
    rfl
  · obtain ⟨x, y, rfl, ⟨rfl, lf⟩, q⟩ := h
    refine ⟨_, pss_cons (ps_if (pt_val (pe_callB call_isiT (by rfl) B.isinstance (by decide +kernel) (pa_cons (pv 1) (pa_cons (pe_tup (pa_cons (pe_bltn (v := .ty "tuple") (by rfl) B.tuple (by decide +kernel) rfl) (pa_cons (pe_bltn (v := .ty "list") (by rfl) B.list (by decide +kernel) rfl) pa_nil))) pa_nil)))) pss_never pss_nil) (pss_one (ps_ret (pe_and (pe_cmpR op_eq (pe_callB call_isi (by rfl) B.isinstance (by decide +kernel) (pa_cons (pv 0) (pa_cons (pe_bltn (v := .ty "bool") (by rfl) B.bool (by decide +kernel) rfl) pa_nil))) (pe_callB call_isi (by rfl) B.isinstance (by decide +kernel) (pa_cons (pv 1) (pa_cons (pe_bltn (v := .ty "bool") (by rfl) B.bool (by decide +kernel) rfl) pa_nil))) (nomark _)) (pe_one (pe_cmpR op_eq (pv 0) (pv 1) (nomark _)))))), ?_⟩
    refine ⟨_, rfl, (by show 2 ≤ sizeLine; decide), fun a na => ?_⟩
    obtain ⟨t, ty, k1, k2, k3, sc⟩ := leaf_kit (K := K) (H := upd H a (.tup [.ty "tuple", .ty "list"])) lf
    refine ⟨_, a, _, t, _, _, rfl, upd_same, pTL, ty, kTL k1 k2, _, rfl, ?_⟩
    refine iteF ?_
    refine ⟨_, rfl, _, _, t, _, false, rfl, .ty _, ty, k3, _, rfl, _, _, t, _, false, rfl, .ty _, ty, k3, rfl, _, rfl, ?_⟩
    refine iteT ⟨_, rfl, _, rfl, sc, ?_⟩
    rw [decide_eq_true (rfl : x = x)]
    exact q _ (same_upd na)
theorem ok_isS {f : Addr} {fd : FuncData} {n : Nat} (F : Fun K "_law_is" "_law_is" sIs f fd) (B : Blt mg) (G : Cal P w K mg base "_law_is" (n + 1) ["_law_told", "_law_due"] (spIs n)) : FnOk P w K mg base CX0 (n + 2) f fd ["_law_told", "_law_due"] (spIs (n + 1)) := by
  refine F.ok scIs (fun vs H Q E h => ?_) (fun cdv A outer s H vs Q E hr h => ?_)
  · obtain ⟨x, y, rfl, _⟩ := h
    rfl
  · obtain ⟨x, y, rfl, he, q⟩ := h
    refine ⟨_, pss_cons (ps_if (pt_val (pe_callB call_isiT (by rfl) B.isinstance (by decide +kernel) (pa_cons (pv 1) (pa_cons (pe_tup (pa_cons (pe_bltn (v := .ty "tuple") (by rfl) B.tuple (by decide +kernel) rfl) (pa_cons (pe_bltn (v := .ty "list") (by rfl) B.list (by decide +kernel) rfl) pa_nil))) pa_nil)))) (pss_cons (ps_if (PW.pt (pw_or (pt_cmpR op_ne (pe_callB call_isi (by rfl) B.isinstance (by decide +kernel) (pa_cons (pv 0) (pa_cons (pe_bltn (v := .ty "tuple") (by rfl) B.tuple (by decide +kernel) rfl) pa_nil))) (pe_callB call_isi (by rfl) B.isinstance (by decide +kernel) (pa_cons (pv 1) (pa_cons (pe_bltn (v := .ty "tuple") (by rfl) B.tuple (by decide +kernel) rfl) pa_nil))) (nomark _)) (pw_or1 (pt_not (pt_val (pe_callB call_isiT (by rfl) B.isinstance (by decide +kernel) (pa_cons (pv 0) (pa_cons (pe_tup (pa_cons (pe_bltn (v := .ty "tuple") (by rfl) B.tuple (by decide +kernel) rfl) (pa_cons (pe_bltn (v := .ty "list") (by rfl) B.list (by decide +kernel) rfl) pa_nil))) pa_nil)))))))) (pss_one ps_never) pss_nil)
        (pss_one (ps_ret (pe_and (pe_cmpR op_eq (pe_callB call_len (by rfl) B.len PySem.boot_len (pa_cons (pv 0) pa_nil)) (pe_callB call_len (by rfl) B.len PySem.boot_len (pa_cons (pv 1) pa_nil)) (nomark _)) (pe_one (pe_callB (cr_all rfl) (by rfl) B.all (by decide +kernel) (pa_cons
          (pe_lc (own := [("_law_one", 2), ("_law_two", 3)]) (g := gTup K 2 (gCons (gName 2) (gCons (gName 3) gNil))) (tt := tYes) rfl scIs.nd (pi_zipA (by rfl) B.zip (pa_cons (pv 0) (pa_cons (pv 1) pa_nil))) (blkOk_by (N := nIs) (sc := defScope sIs) (by decide +kernel))
            (fun _ _ _ _ _ => pg_tup rfl (pgs_cons (pg_name (i := 2) scIs.nd rfl (Or.inl rfl)) (pgs_cons (pg_name (i := 3) scIs.nd rfl (Or.inl rfl)) pgs_nil))) (fun _ _ _ _ _ => pts_nil)
            (fun _ _ _ _ _ => pe_cal G hr (by rfl) (pa_cons (pv 2) (pa_cons (pv 3) pa_nil)))) pa_nil))))))) pss_nil) (pss_one (ps_ret (pe_and (pe_cmpR op_eq (pe_callB call_isi (by rfl) B.isinstance (by decide +kernel) (pa_cons (pv 0) (pa_cons (pe_bltn (v := .ty "bool") (by rfl) B.bool (by decide +kernel) rfl) pa_nil))) (pe_callB call_isi (by rfl) B.isinstance (by decide +kernel) (pa_cons (pv 1) (pa_cons (pe_bltn (v := .ty "bool") (by rfl) B.bool (by decide +kernel) rfl) pa_nil))) (nomark _)) (pe_one (pe_cmpR op_eq (pv 0) (pv 1) (nomark _)))))), ?_⟩
    rcases he with ⟨rfl, lf⟩ | ⟨a, b, xs, ys, rfl, rfl, ⟨ha, hb⟩ | ⟨ha, hb⟩, hlen, hle, hall⟩
    · refine ⟨_, rfl, (by show 2 ≤ sizeLine; decide), fun a na => ?_⟩
      obtain ⟨t, ty, k1, k2, k3, sc⟩ := leaf_kit (K := K) (H := upd H a (.tup [.ty "tuple", .ty "list"])) lf
      refine ⟨_, a, _, t, _, _, rfl, upd_same, pTL, ty, kTL k1 k2, _, rfl, ?_⟩
      refine iteF ?_
      refine ⟨_, rfl, _, _, t, _, false, rfl, .ty _, ty, k3, _, rfl, _, _, t, _, false, rfl, .ty _, ty, k3, rfl, _, rfl, ?_⟩
      refine iteT ⟨_, rfl, _, rfl, sc, ?_⟩
      rw [decide_eq_true (rfl : x = x)]
      exact q _ (same_upd na)

    · have la : SqL K H a xs := SqL.of ha
      have lb : SqL K H b ys := SqL.of hb
      refine ⟨_, rfl, (by show 2 ≤ sizeLine; decide), fun c nc => ?_⟩
      have s1 := same_upd (o := .tup [.ty "tuple", .ty "list"]) nc
      refine ⟨_, c, _, (.type "list"), _, _, rfl, upd_same, pTL, .base (.lst (s1 _ _ hb)), kTL (b := false) (c := true) (kit_ty (by decide +kernel)) (kit_ty (by decide +kernel)), true, rfl, ?_⟩
      refine iteT ?_
      refine ⟨_, rfl, _, _, (.type "list"), _, false, rfl, .ty _, .base (.lst (s1 _ _ ha)), kit_ty (by decide +kernel), _, rfl, _, _, (.type "list"), _, false, rfl, .ty _, .base (.lst (s1 _ _ hb)), kit_ty (by decide +kernel), rfl, _, rfl, ?_⟩
      refine iteF ⟨_, rfl, (by show 2 ≤ sizeLine; decide), fun c2 nc2 => ?_⟩
      have s2 := s1.trans (same_upd (o := .tup [.ty "tuple", .ty "list"]) nc2)
      refine ⟨_, c2, _, (.type "list"), _, _, rfl, upd_same, pTL, .base (.lst (s2 _ _ ha)), kTL (b := false) (c := true) (kit_ty (by decide +kernel)) (kit_ty (by decide +kernel)), true, rfl, ?_⟩
      refine iteF ?_
      refine ⟨_, rfl, _, _, rfl, .inl ⟨_, SqL.of (s2 _ _ ha), rfl⟩, _, rfl, _, _, rfl, .inl ⟨_, SqL.of (s2 _ _ hb), rfl⟩, rfl, _, rfl, ?_⟩
      rw [hlen]
      refine (if_pos (decide_eq_true rfl)).mpr ?_
      refine ⟨_, rfl, _, rfl, a, b, xs, ys, rfl, .inl ⟨SqL.of (s2 _ _ ha), SqL.of (s2 _ _ hb), fun D nD => ?_⟩⟩
      refine lc_it (walk_zip (n := xs.length) (by omega)) (fun i H' => Same H H' ∧ H' D = some (.lst ((List.replicate i true).map V.bl))) ⟨s2.trans (same_upd nD), upd_same⟩ (fun i H' _ ⟨s, _⟩ => ⟨SqL.of (s _ _ ha), SqL.of (s _ _ hb)⟩) ?_ ?_
      · rintro i v H1 H2 hi ⟨s3, eD⟩ ⟨T, u1, u2, rfl, nT, rfl, e1, e2⟩
        have sT := s3.trans (same_upd (o := .tup [u1, u2]) nT)
        refine ⟨T, _, rfl, SqT.of upd_same, rfl, _, _, rfl, _, _, rfl, rfl, rfl, ?_⟩
        refine ⟨_, rfl, _, rfl, u1, u2, rfl, (hall i u1 u2 e1 e2).same sT, fun H3 s4 => ?_⟩
        have eD3 := s4 _ _ (same_upd (o := .tup [u1, u2]) nT _ _ eD)
        refine ⟨_, eD3, ?_, ?_, ?_⟩
        · rw [List.length_map, List.length_replicate]
          exact Nat.lt_of_lt_of_le (show i < 1000000 by omega) (sl100 (Nat.le_refl _))
        · exact same_put (sT.trans s4) (s2.free nD)
        · rw [upd_same, List.replicate_succ', List.map_append]
          rfl
      · rintro H1 ⟨s3, eD⟩
        refine ⟨_, _, rfl, SqL.of eD, ?_⟩
        rw [show (List.replicate xs.length true).all id = true by simp]
        exact q _ s3
    · have la : SqT K H a xs := SqT.of ha
      have lb : SqT K H b ys := SqT.of hb
      refine ⟨_, rfl, (by show 2 ≤ sizeLine; decide), fun c nc => ?_⟩
      have s1 := same_upd (o := .tup [.ty "tuple", .ty "list"]) nc
      refine ⟨_, c, _, (.type "tuple"), _, _, rfl, upd_same, pTL, .base (.tup (s1 _ _ hb)), kTL (b := true) (c := false) (kit_ty (by decide +kernel)) (kit_ty (by decide +kernel)), true, rfl, ?_⟩
      refine iteT ?_
      refine ⟨_, rfl, _, _, (.type "tuple"), _, true, rfl, .ty _, .base (.tup (s1 _ _ ha)), kit_ty (by decide +kernel), _, rfl, _, _, (.type "tuple"), _, true, rfl, .ty _, .base (.tup (s1 _ _ hb)), kit_ty (by decide +kernel), rfl, _, rfl, ?_⟩
      refine iteF ⟨_, rfl, (by show 2 ≤ sizeLine; decide), fun c2 nc2 => ?_⟩
      have s2 := s1.trans (same_upd (o := .tup [.ty "tuple", .ty "list"]) nc2)
      refine ⟨_, c2, _, (.type "tuple"), _, _, rfl, upd_same, pTL, .base (.tup (s2 _ _ ha)), kTL (b := true) (c := false) (kit_ty (by decide +kernel)) (kit_ty (by decide +kernel)), true, rfl, ?_⟩
      refine iteF ?_
      refine ⟨_, rfl, _, _, rfl, .inr ⟨_, SqT.of (s2 _ _ ha), rfl⟩, _, rfl, _, _, rfl, .inr ⟨_, SqT.of (s2 _ _ hb), rfl⟩, rfl, _, rfl, ?_⟩
      rw [hlen]
      refine (if_pos (decide_eq_true rfl)).mpr ?_
      refine ⟨_, rfl, _, rfl, a, b, xs, ys, rfl, .inr ⟨SqT.of (s2 _ _ ha), SqT.of (s2 _ _ hb), fun D nD => ?_⟩⟩
      refine lc_it (walk_zipT (n := xs.length) (by omega)) (fun i H' => Same H H' ∧ H' D = some (.lst ((List.replicate i true).map V.bl))) ⟨s2.trans (same_upd nD), upd_same⟩ (fun i H' _ ⟨s, _⟩ => ⟨SqT.of (s _ _ ha), SqT.of (s _ _ hb)⟩) ?_ ?_
      · rintro i v H1 H2 hi ⟨s3, eD⟩ ⟨T, u1, u2, rfl, nT, rfl, e1, e2⟩
        have sT := s3.trans (same_upd (o := .tup [u1, u2]) nT)
        refine ⟨T, _, rfl, SqT.of upd_same, rfl, _, _, rfl, _, _, rfl, rfl, rfl, ?_⟩
        refine ⟨_, rfl, _, rfl, u1, u2, rfl, (hall i u1 u2 e1 e2).same sT, fun H3 s4 => ?_⟩
        have eD3 := s4 _ _ (same_upd (o := .tup [u1, u2]) nT _ _ eD)
        refine ⟨_, eD3, ?_, ?_, ?_⟩
        · rw [List.length_map, List.length_replicate]
          exact Nat.lt_of_lt_of_le (show i < 1000000 by omega) (sl100 (Nat.le_refl _))
        · exact same_put (sT.trans s4) (s2.free nD)
        · rw [upd_same, List.replicate_succ', List.map_append]
          rfl
      · rintro H1 ⟨s3, eD⟩
        refine ⟨_, _, rfl, SqL.of eD, ?_⟩
        rw [show (List.replicate xs.length true).all id = true by simp]
        exact q _ s3
end
end K8
set_option Elab.async false
set_option linter.all false
set_option maxRecDepth 100000
namespace K8
open PySem PySem.Spec L2
open SX (S S_len S_cat S_inj)
section
variable {P : Program} {w : World} {K : PySem.W.Frag} {mg : Str → Option Value} {base : Heap}
abbrev sAny : Stmt := top 23
def spAny : Sp := fun vs H Q _ => ∃ (a ac : Addr) (it : V), vs = [.ref a, it] ∧ Hand H a ac ∧
  ((∃ l : Wd, it = .str (S l) ∧ l ≠ [] ∧ l.length ≤ 1000 ∧ ∀ H' c, Keep a ac H H' → (∀ b, H b = none → H' b = none) → c ∈ l → Q (.str (S [c])) H') ∨
   (∃ (p : Addr) (xs : List V), it = .ref p ∧ p ≠ a ∧ H p = some (.lst xs) ∧ xs ≠ [] ∧ xs.length ≤ 1000 ∧ ∀ H' x, Keep a ac H H' → (∀ b, H b = none → H' b = none) → x ∈ xs → Q x H'))
theorem scAny : FnScope ["_law_hand_here", "_law_items"] ["_law_hand_here", "_law_items"] (defScope sAny) := ⟨rfl, rfl, rfl, by decide +kernel, rfl, by decide +kernel, by decide +kernel⟩
theorem at_box {α : Type} {xs : List α} {r : Int} (h0 : 0 ≤ r) (h1 : r < xs.length) : ∃ x, atI xs r = some x ∧ x ∈ xs := by
  obtain ⟨j, rfl⟩ : ∃ j : Nat, r = (j : Int) := ⟨r.toNat, by omega⟩
  have hj : j < xs.length := by omega
  exact ⟨xs[j], atI_nat (List.getElem?_eq_getElem hj), List.getElem_mem hj⟩
theorem ok_any {f : Addr} {fd : FuncData} (F : Fun K "_law_any" "_law_any" sAny f fd) (B : Blt mg) (G : Cal P w K mg base "_law_draw" 1 ["_law_hand_here", "_law_many"] spDraw) : FnOk P w K mg base CX0 2 f fd ["_law_hand_here", "_law_items"] spAny := by
  refine F.ok scAny (fun vs H Q E h => ?_) (fun cdv A outer s H vs Q E hr h => ?_)
  · obtain ⟨a, ac, it, rfl, _⟩ := h
    rfl
  · obtain ⟨a, ac, it, rfl, hh, h⟩ := h
    refine ⟨_, pss_one (ps_ret (pe_ix ix_seq (pv 1) (pe_cal G hr (by rfl) (pa_cons (pv 0) (pa_cons (pe_callB call_len (by rfl) B.len PySem.boot_len (pa_cons (pv 1) pa_nil)) pa_nil))) (fun _ _ => rfl))), ?_⟩
    rcases h with ⟨l, rfl, l0, l1, q⟩ | ⟨p, xs, rfl, pa, hp, x0, x1, q⟩
    · have lp := List.length_pos_iff.mpr l0
      refine ⟨_, rfl, _, rfl, _, rfl, _, _, rfl, len_s (sl100 (by omega)), a, ac, _, rfl, hh, by omega, by omega, fun H' r k fr r0 r1 => ?_⟩
      obtain ⟨c, hc, mc⟩ := at_box (xs := l) r0 r1
      exact .inr (.inr ⟨S l, r, c, rfl, rfl, by rw [S_len]; exact sl100 (by omega), hc, q H' c k fr mc⟩)
    · have lp := List.length_pos_iff.mpr x0
      refine ⟨_, rfl, _, rfl, _, rfl, _, _, rfl, .inl ⟨_, SqL.of hp, rfl⟩, a, ac, _, rfl, hh, by omega, by omega, fun H' r k fr r0 r1 => ?_⟩
      obtain ⟨c, hc, mc⟩ := at_box (xs := xs) r0 r1
      exact .inl ⟨p, xs, r, c, rfl, rfl, SqL.of (k.keep _ _ pa hp), hc, q H' c k fr mc⟩
/-! ### _law_shortest -/
abbrev sShort : Stmt := top 29
abbrev nShort : List Str := ["_law_texts_here", "_law_text", "_law_many"]
def spShort (K : PySem.W.Frag) : Sp := fun vs H Q _ => ∃ (l : Addr) (ks : List Wd), vs = [.ref l] ∧ H l = some (.lst (txs ks)) ∧ ks.Nodup ∧ (∀ k, k ∈ ks → k.length ≤ 100) ∧ ks.length ≤ 100000 ∧
  ∀ H' p ys, Same H H' → H p = none → H' p = some (.lst (txs ys)) → ys.Perm ks → ys.Pairwise slt → Q (.ref p) H'
theorem scShort : FnScope nShort ["_law_texts_here"] (defScope sShort) := ⟨rfl, rfl, rfl, by decide +kernel, rfl, by decide +kernel, by decide +kernel⟩
theorem ok_short {f : Addr} {fd : FuncData} (F : Fun K "_law_shortest" "_law_shortest" sShort f fd) (B : Blt mg) : FnOk P w K mg base CX0 1 f fd ["_law_texts_here"] (spShort K) := by
  refine F.ok scShort (fun vs H Q E h => ?_) (fun cdv A outer s H vs Q E hr h => ?_)
  · obtain ⟨l, ks, rfl, _⟩ := h
    rfl
  · obtain ⟨l, ks, rfl, hl, nd, hk, hlen, q⟩ := h
    refine ⟨_, pss_one (ps_ret (pe_lc (own := [("_law_many", 2), ("_law_text", 1)]) (g := gTup K 2 (gCons (gName 2) (gCons (gName 1) gNil))) (tt := tYes) rfl scShort.nd
      (pi_list (pe_callB (cr_sortedIS hr.units) (by rfl) B.sorted (by decide +kernel) (pa_cons
        (pe_lc (own := [("_law_text", 1)]) (g := gName 1) (tt := tYes) (te := tTup (tCons (tCB (rLen K) _) _)) rfl scShort.nd (pi_list (pv 0)) (blkOk_by (N := nShort) (sc := defScope sShort) (by decide +kernel))
          (fun _ _ _ _ _ => pg_name (i := 1) scShort.nd rfl (Or.inl rfl)) (fun _ _ _ _ _ => pts_nil)
          (fun _ _ _ _ _ => pe_tup (pa_cons (pe_callB call_len (by rfl) B.len PySem.boot_len (pa_cons (pv 1) pa_nil)) (pa_cons (pv 1) pa_nil)))) pa_nil)))
      (blkOk_by (N := nShort) (sc := defScope sShort) (by decide +kernel))
      (fun _ _ _ _ _ => pg_tup rfl (pgs_cons (pg_name (i := 2) scShort.nd rfl (Or.inl rfl)) (pgs_cons (pg_name (i := 1) scShort.nd rfl (Or.inl rfl)) pgs_nil))) (fun _ _ _ _ _ => pts_nil)
      (fun _ _ _ _ _ => pv 1))), ?_⟩
    refine ⟨_, rfl, l, rfl, ⟨_, SqL.of hl⟩, fun D nD => ?_⟩
    have nDl : l ≠ D := ne_of_none hl nD
    refine lc_list (K := K) (a := l) (xs := txs ks) (fun i H' => Same H H' ∧ ∃ zs : List (Addr × Wd), H' D = some (.lst (zs.map fun z => V.ref z.1)) ∧ zs.map (·.2) = ks.take i ∧ ∀ z ∈ zs, H' z.1 = some (.tup [.int ((z.2.length : Nat) : Int), .str (S z.2)]))
      ⟨same_upd nD, [], upd_same, rfl, fun z h => nomatch h⟩ (fun i H' _ ⟨s, _⟩ => SqL.of (s _ _ hl)) ?_ ?_
    · rintro i x H1 hx ⟨s1, zs, hD, ez, hz⟩
      obtain ⟨t, ht, rfl⟩ := txs_get hx
      have lt := hk t (List.mem_of_getElem? ht)
      have hi := (List.getElem?_eq_some_iff.mp ht).1
      have lz : zs.length = i := by
        have := congrArg List.length ez
        rw [List.length_map, List.length_take] at this
        omega
      refine ⟨rfl, _, rfl, _, _, rfl, len_s (sl100 (by omega)), _, rfl, (by show 2 ≤ sizeLine; decide), fun y ny => ?_⟩
      have sy := same_upd (o := .tup [.int ((t.length : Nat) : Int), .str (S t)]) ny
      have yD : y ≠ D := fun z => by rw [z, hD] at ny; cases ny
      have hD' := sy _ _ hD
      refine ⟨_, hD', by rw [List.length_map, lz]; exact Nat.lt_of_lt_of_le (show _ < 1000000 by omega) (sl100 (Nat.le_refl _)), same_put (s1.trans sy) nD, zs ++ [(y, t)], by rw [upd_same, List.map_append]; rfl, by rw [List.map_append, ez, List.take_add_one, ht]; rfl, fun z mz => ?_⟩
      rcases List.mem_append.mp mz with h | h
      · exact keep_lst hD' _ _ (sy _ _ (hz z h))
      · rw [List.mem_singleton.mp h, upd_ne yD]
        exact upd_same
    · rintro H1 ⟨s1, zs, hD, ez, hz⟩
      rw [txs_len, List.take_length] at ez
      refine ⟨D, zs, rfl, SqL.of hD, fun z mz => SqT.of (hz z mz), by rw [ez]; exact nd, fun ys p perm pw np => ?_⟩
      have s2 := s1.trans (same_upd (o := .lst (ys.map fun z => V.ref z.1)) np)
      have ly : ys.length ≤ 100000 := by
        rw [perm.length_eq]
        have := congrArg List.length ez
        rw [List.length_map] at this
        omega
      refine ⟨p, rfl, ⟨_, SqL.of upd_same⟩, fun D2 nD2 => ?_⟩
      have nDp : p ≠ D2 := ne_of_none upd_same nD2
      refine lc_list (K := K) (a := p) (xs := ys.map fun z => V.ref z.1) (fun i H' => Same H H' ∧ H' p = some (.lst (ys.map fun z => V.ref z.1)) ∧ H' D2 = some (.lst (txs ((ys.map (·.2)).take i))) ∧ ∀ z ∈ ys, H' z.1 = some (.tup [.int ((z.2.length : Nat) : Int), .str (S z.2)]))
        ⟨s2.trans (same_upd nD2), by rw [upd_ne nDp, upd_same], upd_same, fun z mz => keep_new nD2 _ _ (keep_new np _ _ (hz z (perm.mem_iff.mp mz)))⟩ (fun i H' _ ⟨_, h, _⟩ => SqL.of h) ?_ ?_
      · rintro i x H2 hx ⟨s3, h3, hD2, hz2⟩
        rw [List.getElem?_map] at hx
        cases e : ys[i]? with
        | none => rw [e] at hx; cases hx
        | some z =>
          rw [e] at hx
          cases hx
          have hi := (List.getElem?_eq_some_iff.mp e).1
          refine ⟨z.1, _, rfl, SqT.of (hz2 z (List.mem_of_getElem? e)), rfl, _, _, rfl, _, _, rfl, rfl, rfl, _, rfl, _, hD2, ?_, same_put s3 (s2.free nD2), by rw [upd_ne nDp]; exact h3, ?_, fun z mz => keep_lst hD2 _ _ (hz2 z mz)⟩
          · rw [txs_len, List.length_take, List.length_map]
            exact Nat.lt_of_lt_of_le (show _ < 1000000 by omega) (sl100 (Nat.le_refl _))
          · rw [upd_same, List.take_add_one, List.getElem?_map, e]
            unfold txs
            rw [List.map_append]
            rfl
      · rintro H2 ⟨s3, h3, hD2, hz2⟩
        rw [List.length_map, show ys.length = (ys.map (·.2)).length by rw [List.length_map], List.take_length] at hD2
        exact q _ _ _ s3 (s2.free nD2) hD2 (by rw [← ez]; exact perm.map _) pw
end
end K8
set_option Elab.async false
set_option linter.all false
set_option maxRecDepth 100000
namespace K8
open PySem PySem.Spec L2
open SX (S S_len S_cat S_inj)
/-! ### joined texts -/
theorem joinL0 : ∀ ps : List Wd, TL.joinL [] ps = ps.flatten
  | [] => rfl
  | [x] => by simp [TL.joinL]
  | x :: y :: r => by
    show x ++ ([] ++ TL.joinL [] (y :: r)) = _
    rw [joinL0 (y :: r)]
    simp
theorem join0 (ps : List Wd) : Txt.join ("" : Str) (ps.map S) = S ps.flatten := by
  have := SX.join_S [] ps
  rw [joinL0] at this
  exact this
theorem txs_S (ps : List Wd) : txs ps = (ps.map S).map V.str := by
  unfold txs
  rw [List.map_map]
  rfl
theorem sum_S (ps : List Wd) : ((ps.map S).map (·.length)).sum + (ps.map S).length * ("" : Str).length = ps.flatten.length := by
  rw [show ("" : Str).length = 0 from rfl, Nat.mul_zero, Nat.add_zero, List.length_flatten, List.map_map]
  exact congrArg List.sum (List.map_congr_left fun x _ => S_len x)
theorem flat_ones : ∀ own : Wd, (own.map fun c => [c]).flatten = own
  | [] => rfl
  | c :: r => by
    show [c] ++ (r.map fun c => [c]).flatten = c :: r
    rw [flat_ones r]
    rfl
/-! ### texts of some letters -/
def rowL (own : Wd) : Nat → List Wd
  | 0 => [[]]
  | i + 1 => (rowL own i).flatMap fun t => own.map fun c => t ++ [c]
theorem rowL_mem (own : Wd) : ∀ (i : Nat) (t : Wd), t ∈ rowL own i ↔ t.length = i ∧ ∀ c, c ∈ t → c ∈ own
  | 0, t => by
    show t ∈ [[]] ↔ _
    rw [List.mem_singleton]
    constructor
    · rintro rfl
      exact ⟨rfl, fun c h => nomatch h⟩
    · rintro ⟨h, _⟩
      exact List.eq_nil_of_length_eq_zero h
  | i + 1, t => by
    show t ∈ (rowL own i).flatMap (fun t => own.map fun c => t ++ [c]) ↔ _
    rw [List.mem_flatMap]
    constructor
    · rintro ⟨u, hu, h⟩
      obtain ⟨c, hc, rfl⟩ := List.mem_map.mp h
      obtain ⟨h1, h2⟩ := (rowL_mem own i u).mp hu
      refine ⟨by rw [List.length_append, h1]; rfl, fun x hx => ?_⟩
      rcases List.mem_append.mp hx with h | h
      · exact h2 x h
      · rw [List.mem_singleton.mp h]; exact hc
    · rintro ⟨h1, h2⟩
      obtain ⟨u, c, rfl⟩ := snoc_of (xs := t) (by intro z; rw [z] at h1; cases h1)
      rw [List.length_append, List.length_singleton] at h1
      exact ⟨u, (rowL_mem own i u).mpr ⟨by omega, fun x hx => h2 x (List.mem_append_left _ hx)⟩, List.mem_map.mpr ⟨c, h2 c (List.mem_append_right _ (List.mem_singleton.mpr rfl)), rfl⟩⟩
theorem rowL_len (own : Wd) : ∀ i, (rowL own i).length = own.length ^ i
  | 0 => rfl
  | i + 1 => by
    show ((rowL own i).flatMap (fun t => own.map fun c => t ++ [c])).length = _
    rw [List.length_flatMap]
    have : (rowL own i).map (fun t => (own.map fun c => t ++ [c]).length) = List.replicate (rowL own i).length own.length := by
      rw [List.eq_replicate_iff]
      refine ⟨List.length_map _, fun x hx => ?_⟩
      obtain ⟨t, _, rfl⟩ := List.mem_map.mp hx
      exact List.length_map _
    rw [this, List.sum_replicate_nat, rowL_len own i, Nat.pow_succ]
theorem lt_app : ∀ {a b : Wd} (x y : Wd), a.length = b.length → a < b → a ++ x < b ++ y
  | [], [], _, _, _, h => absurd h (List.not_lt_nil _)
  | [], _ :: _, _, _, h, _ => by cases h
  | _ :: _, [], _, _, h, _ => by cases h
  | c :: a, d :: b, x, y, hl, h => by
    rw [List.cons_lt_cons_iff] at h
    show c :: (a ++ x) < d :: (b ++ y)
    rw [List.cons_lt_cons_iff]
    rcases h with h | ⟨rfl, h⟩
    · exact .inl h
    · exact .inr ⟨rfl, lt_app x y (by simpa using hl) h⟩
theorem lt_same : ∀ (a : Wd) {x y : Wd}, x < y → a ++ x < a ++ y
  | [], _, _, h => h
  | c :: a, x, y, h => by
    show c :: (a ++ x) < c :: (a ++ y)
    rw [List.cons_lt_cons_iff]
    exact .inr ⟨rfl, lt_same a h⟩
theorem one_lt {c d : Nat} (h : c < d) : ([c] : Wd) < [d] := by
  rw [List.cons_lt_cons_iff]
  exact .inl h
theorem rowL_sorted {own : Wd} (ho : own.Pairwise (· < ·)) : ∀ i, (rowL own i).Pairwise (· < ·)
  | 0 => List.pairwise_singleton _ _
  | i + 1 => by
    show ((rowL own i).flatMap (fun t => own.map fun c => t ++ [c])).Pairwise _
    rw [List.pairwise_flatMap]
    refine ⟨fun t _ => ?_, ?_⟩
    · rw [List.pairwise_map]
      exact ho.imp fun h => lt_same t (one_lt h)
    · refine List.Pairwise.imp_of_mem (fun {a b} ha hb h => ?_) (rowL_sorted ho i)
      rintro x hx y hy
      obtain ⟨c, _, rfl⟩ := List.mem_map.mp hx
      obtain ⟨d, _, rfl⟩ := List.mem_map.mp hy
      have h1 := ((rowL_mem own i a).mp ha).1
      have h2 := ((rowL_mem own i b).mp hb).1
      exact lt_app _ _ (h1.trans h2.symm) h
def foundL (own : Wd) (i : Nat) : List Wd := (List.range (i + 1)).flatMap (rowL own)
theorem foundL_succ (own : Wd) (i : Nat) : foundL own (i + 1) = foundL own i ++ rowL own (i + 1) := by
  unfold foundL
  rw [List.range_succ, List.flatMap_append]
  simp
theorem foundL_is {own : Wd} (ho : own.Pairwise (· < ·)) (most : Nat) : IsTexts own most (foundL own most) := by
  constructor
  · unfold foundL
    rw [List.pairwise_flatMap]
    refine ⟨fun i _ => List.Pairwise.imp_of_mem (fun {a b} ha hb h => ?_) (rowL_sorted ho i), ?_⟩
    · exact .inr ⟨((rowL_mem own i a).mp ha).1.trans ((rowL_mem own i b).mp hb).1.symm, h⟩
    · refine List.Pairwise.imp ?_ (List.pairwise_lt_range (n := most + 1))
      intro i j h x hx y hy
      have h1 := ((rowL_mem own i x).mp hx).1
      have h2 := ((rowL_mem own j y).mp hy).1
      exact .inl (by omega)
  · intro t
    unfold foundL
    rw [List.mem_flatMap]
    constructor
    · rintro ⟨i, hi, h⟩
      obtain ⟨h1, h2⟩ := (rowL_mem own i t).mp h
      rw [List.mem_range] at hi
      exact ⟨by omega, h2⟩
    · rintro ⟨h1, h2⟩
      exact ⟨t.length, List.mem_range.mpr (by omega), (rowL_mem own _ t).mpr ⟨rfl, h2⟩⟩
theorem foundL_len {own : Wd} {most : Nat} (h0 : own ≠ []) (h1 : own.length ^ most ≤ 1000) : ∀ i, i ≤ most → (rowL own i).length ≤ 1000 ∧ (foundL own i).length ≤ (i + 1) * 1000
  | 0, _ => ⟨by rw [rowL_len]; simp, by simp [foundL, rowL]⟩
  | i + 1, h => by
    obtain ⟨_, h3⟩ := foundL_len h0 h1 i (by omega)
    have lp := List.length_pos_iff.mpr h0
    have h2 : (rowL own (i + 1)).length ≤ 1000 := by
      rw [rowL_len]
      exact Nat.le_trans (Nat.pow_le_pow_right lp h) h1
    refine ⟨h2, ?_⟩
    rw [foundL_succ, List.length_append]
    omega
section
variable {P : Program} {w : World} {K : PySem.W.Frag} {mg : Str → Option Value} {base : Heap}
abbrev sOwn : Stmt := top 32
def spOwn : Sp := fun vs H Q _ => ∃ (t : Addr) (ps : List Wd), vs = [.ref t] ∧ H t = some (.tup (txs ps)) ∧ ps.flatten.length < 64 ∧
  ∀ H' own, Same H H' → own.Pairwise (· < ·) → (∀ c, c ∈ own ↔ ∃ p, p ∈ ps ∧ c ∈ p) → Q (.str (S own)) H'
theorem scOwn : FnScope ["_law_pieces_here"] ["_law_pieces_here"] (defScope sOwn) := ⟨rfl, rfl, rfl, by decide +kernel, rfl, by decide +kernel, by decide +kernel⟩
theorem ok_own {f : Addr} {fd : FuncData} (F : Fun K "_law_own" "_law_own" sOwn f fd) (B : Blt mg) : FnOk P w K mg base CX0 1 f fd ["_law_pieces_here"] spOwn := by
  refine F.ok scOwn (fun vs H Q E h => ?_) (fun cdv A outer s H vs Q E hr h => ?_)
  · obtain ⟨t, ps, rfl, _⟩ := h
    rfl
  · obtain ⟨t, ps, rfl, ht, h64, q⟩ := h
    refine ⟨_, pss_one (ps_ret (pe_join pe_str (pe_callB (cr_sortedSS rfl) (by rfl) B.sorted (by decide +kernel) (pa_cons (pe_callTy (cr_setS rfl) (by rfl) B.set (by decide +kernel) (pa_cons (pe_join pe_str (pv 0)) pa_nil)) pa_nil)))), ?_⟩
    refine ⟨⟨_, rfl⟩, ⟨_, rfl⟩, _, rfl, _, t, ps.map S, rfl, rfl, .inr (SqT.of (by rw [← txs_S]; exact ht)), by rw [sum_S]; omega, ?_⟩
    rw [join0]
    refine ⟨_, rfl, h64, fun p np => ⟨p, _, rfl, upd_same, h64, fun own l pw mem nl => ?_⟩⟩
    have s2 := (same_upd (o := SetTO w p (Signs ps.flatten) ps.flatten.length) np).trans (same_upd (o := .lst (own.map fun c => V.str (S [c]))) nl)
    have le : own.length ≤ ps.flatten.length := nodup_le (pw.imp fun h => Nat.ne_of_lt h) fun x h => (mem x).mp h
    have fl : (own.map fun c => [c]).flatten = own := flat_ones own
    refine ⟨_, l, (own.map fun c => [c]).map S, rfl, rfl, .inl (SqL.of (by rw [upd_same, List.map_map, List.map_map]; rfl)), by rw [sum_S, fl]; omega, ?_⟩
    rw [join0, fl]
    refine q _ own s2 pw fun c => ?_
    rw [mem, List.mem_flatten]
/-! ### _law_texts -/
abbrev sTexts : Stmt := top 31
abbrev nTexts : List Str := ["_law_own_here", "_law_most", "_law_found", "_law_row", "_law_turn", "_law_longer", "_law_text", "_law_letter"]
def spTexts : Sp := fun vs H Q _ => ∃ (own : Wd) (most : Nat), vs = [.str (S own), .int most] ∧ own.Pairwise (· < ·) ∧ own ≠ [] ∧ own.length ≤ 8 ∧ most ≤ 8 ∧ own.length ^ most ≤ 1000 ∧
  ∀ H' p ts, Same H H' → H p = none → H' p = some (.lst (txs ts)) → IsTexts own most ts → Q (.ref p) H'
theorem scTexts : FnScope nTexts ["_law_own_here", "_law_most"] (defScope sTexts) := ⟨rfl, rfl, rfl, by decide +kernel, rfl, by decide +kernel, by decide +kernel⟩
theorem ok_texts {f : Addr} {fd : FuncData} (F : Fun K "_law_texts" "_law_texts" sTexts f fd) (B : Blt mg) : FnOk P w K mg base CX0 1 f fd ["_law_own_here", "_law_most"] spTexts := by
  refine F.ok scTexts (fun vs H Q E h => ?_) (fun cdv A outer s H vs Q E hr h => ?_)
  · obtain ⟨own, most, rfl, _⟩ := h
    rfl
  · obtain ⟨own, most, rfl, ho, o0, o8, m8, mx, q⟩ := h
    refine ⟨_, pss_cons (ps_par (i := 2) (j := 3) rfl scTexts.nd rfl rfl (by decide) rfl rfl (pa_cons (pe_lst (pa_cons pe_str pa_nil)) (pa_cons (pe_lst (pa_cons pe_str pa_nil)) pa_nil)) (by rfl))
      (pss_cons (ps_for PassesOwn.never rfl (pi_range1 rfl B.range (pa_cons (pv 1) pa_nil)) (pg_name (i := 4) scTexts.nd rfl (Or.inl rfl))
        (pss_cons (ps_set (i := 5) scTexts.nd rfl (Or.inl rfl) (pe_lst pa_nil))
        (pss_cons (ps_for PassesOwn.never rfl (pi_list (pv 3)) (pg_name (i := 6) scTexts.nd rfl (Or.inr rfl))
          (pss_one (ps_expr (pe_bm PySem.F.plainAttrs_list PySem.F.slot_list_extend PySem.F.type_list_extend mt_extend (pv 5) (pa_cons
            (pe_lc (own := [("_law_letter", 7)]) (g := gName 7) (tt := tYes) rfl scTexts.nd (pi_str (pv 0)) (blkOk_by (N := nTexts) (sc := defScope sTexts) (by decide +kernel))
              (fun _ _ _ _ _ => pg_name (i := 7) scTexts.nd rfl (Or.inl rfl)) (fun _ _ _ _ _ => pts_nil)
              (fun _ _ _ _ _ => pe_op op_add_str (pv 6) (pv 7))) pa_nil)))))
        (pss_one (ps_par (i := 2) (j := 3) rfl scTexts.nd rfl rfl (by decide) rfl rfl (pa_cons (pe_op op_cat (pv 2) (pv 5)) (pa_cons (pv 5) pa_nil)) (by rfl))))))
      (pss_one (ps_ret (pv 2)))), ?_⟩
    refine ⟨(by show 1 ≤ sizeLine; decide), fun p np => ⟨(by show 1 ≤ sizeLine; decide), fun p2 np2 => ⟨_, _, rfl, ?_⟩⟩⟩
    have s0 := (same_upd (o := .lst [V.str ""]) np).trans (same_upd (o := .lst [V.str ""]) np2)
    have npp : p ≠ p2 := ne_of_none upd_same np2
    have np2' : H p2 = none := (same_upd np).free np2
    refine ⟨_, rfl, most, rfl, by omega, by omega, ?_⟩
    refine for_range (n := most) (fun i σ H' => ∃ y4 y5 y6 a b, σ = [some (.str (S own)), some (.int (most : Nat)), some (.ref a), some (.ref b), y4, y5, y6, none] ∧ Same H H' ∧ H a = none ∧ H b = none ∧ a ≠ b ∧ H' a = some (.lst (txs (foundL own i))) ∧ H' b = some (.lst (txs (rowL own i))))
      ⟨none, none, none, p, p2, rfl, s0, np, np2', npp, by rw [upd_ne npp, upd_same]; rfl, upd_same⟩ ?_ ?_
    · rintro i σ H1 hi ⟨y4, y5, y6, a, b, rfl, s1, na, nb, nab, ha, hb⟩
      have lens := foundL_len o0 mx i (by omega)
      have lens1 := foundL_len o0 mx (i + 1) (by omega)
      have im : (i + 1 + 1) * 1000 ≤ 10000 := Nat.mul_le_mul (show i + 1 + 1 ≤ 10 by omega) (Nat.le_refl 1000)
      refine ⟨Nat.zero_le _, fun l nl => ?_⟩
      have nl0 := s1.free nl
      have nal : a ≠ l := ne_of_none ha nl
      have nbl : b ≠ l := ne_of_none hb nl
      have s2 := s1.trans (same_upd (o := .lst []) nl)
      refine ⟨_, rfl, b, rfl, ⟨_, SqL.of (by rw [upd_ne nbl]; exact hb)⟩, ?_⟩
      refine for_list (K := K) (a := b) (xs := txs (rowL own i)) (fun j σ H' => ∃ y6, σ = [some (.str (S own)), some (.int (most : Nat)), some (.ref a), some (.ref b), some (.int (0 + (i : Int))), some (.ref l), y6, none] ∧ Same H H' ∧ H' a = some (.lst (txs (foundL own i))) ∧ H' b = some (.lst (txs (rowL own i))) ∧
          H' l = some (.lst (txs (((rowL own i).take j).flatMap fun t => own.map fun c => t ++ [c]))))
        ⟨y6, rfl, s2, by rw [upd_ne nal]; exact ha, by rw [upd_ne nbl]; exact hb, upd_same⟩ (fun j σ H' _ ⟨_, _, _, _, h, _⟩ => SqL.of h) ?_ ?_
      · rintro j x σ H2 hx ⟨y6, rfl, s3, ha2, hb2, hl2⟩
        obtain ⟨t, ht, rfl⟩ := txs_get hx
        have lt := ((rowL_mem own i t).mp (List.mem_of_getElem? ht)).1
        refine ⟨_, rfl, .inl ⟨rfl, _, SqL.of hl2⟩, _, rfl, _, rfl, fun D nD => ?_⟩
        have nD0 := s3.free nD
        have nDl : l ≠ D := ne_of_none hl2 nD
        have nDa : a ≠ D := ne_of_none ha2 nD
        have nDb : b ≠ D := ne_of_none hb2 nD
        refine lc_it walk_str (fun k H' => Same H H' ∧ H' a = some (.lst (txs (foundL own i))) ∧ H' b = some (.lst (txs (rowL own i))) ∧ H' l = some (.lst (txs (((rowL own i).take j).flatMap fun t => own.map fun c => t ++ [c]))) ∧ H' D = some (.lst (txs ((own.take k).map fun c => t ++ [c]))))
          ⟨s3.trans (same_upd nD), by rw [upd_ne nDa]; exact ha2, by rw [upd_ne nDb]; exact hb2, by rw [upd_ne nDl]; exact hl2, upd_same⟩ (fun _ _ _ _ => trivial) ?_ ?_
        · rintro k x H3 H4 hk ⟨s4, ha3, hb3, hl3, hD3⟩ ⟨rfl, c, hc, rfl⟩
          have hc' : own[k]? = some c := by simpa [S] using hc
          refine ⟨rfl, _, rfl, _, rfl, _, _, rfl, rfl, ?_, _, hD3, ?_, same_put s4 nD0, by rw [upd_ne nDa]; exact ha3, by rw [upd_ne nDb]; exact hb3, by rw [upd_ne nDl]; exact hl3, ?_⟩
          · rw [S_len, show (⟨#[c]⟩ : Str) = S [c] from rfl, S_len]
            exact sl100 (by simp; omega)
          · rw [txs_len, List.length_map, List.length_take]
            exact Nat.lt_of_lt_of_le (show _ < 1000000 by omega) (sl100 (Nat.le_refl _))
          · rw [upd_same, show (⟨#[c]⟩ : Str) = S [c] from rfl, S_cat, List.take_add_one, hc']
            unfold txs
            rw [List.map_append, List.map_append]
            rfl
        · rintro H3 ⟨s4, ha3, hb3, hl3, hD3⟩
          rw [cells_size, List.take_length] at hD3
          have e1 : ((rowL own i).take (j + 1)).flatMap (fun t => own.map fun c => t ++ [c]) = ((rowL own i).take j).flatMap (fun t => own.map fun c => t ++ [c]) ++ own.map fun c => t ++ [c] := by
            rw [List.take_add_one, ht, List.flatMap_append]
            simp
          refine ⟨l, D, _, _, rfl, rfl, hl3, hD3, ?_, _, rfl, same_put s4 nl0, by rw [upd_ne nal]; exact ha3, by rw [upd_ne nbl]; exact hb3, ?_⟩
          · rw [txs_len, txs_len, List.length_map]
            have h1 := flatMap_le (fun t => own.map fun c => t ++ [c]) own.length ((rowL own i).take j) (fun a _ => by rw [List.length_map]; exact Nat.le_refl _)
            have h2 : ((rowL own i).take j).length ≤ 1000 := by rw [List.length_take]; omega
            have h3 : ((rowL own i).take j).length * own.length ≤ 1000 * 8 := Nat.mul_le_mul h2 o8
            exact sl100 (Nat.le_trans (Nat.add_le_add (Nat.le_trans h1 h3) o8) (by decide))
          · rw [upd_same, e1]
            unfold txs
            rw [List.map_append]
      · rintro σ H2 ⟨y6, rfl, s3, ha2, hb2, hl2⟩
        rw [txs_len, List.take_length] at hl2
        refine ⟨_, rfl, _, rfl, a, l, _, _, rfl, rfl, ha2, hl2, ?_, fun r nr => ⟨_, rfl, _, _, rfl, ?_⟩⟩
        · rw [txs_len, txs_len, ← List.length_append]
          have : (foundL own i ++ rowL own (i + 1)).length ≤ 10000 := by rw [← foundL_succ]; omega
          exact sl100 (Nat.le_trans this (by decide))
        · have nrl : l ≠ r := ne_of_none hl2 nr
          refine ⟨_, _, _, r, l, rfl, s3.trans (same_upd nr), s3.free nr, nl0, nrl.symm, ?_, by rw [upd_ne nrl]; exact hl2⟩
          rw [upd_same, foundL_succ]
          unfold txs
          rw [List.map_append]
          rfl
    · rintro σ H1 ⟨y4, y5, y6, a, b, rfl, s1, na, nb, nab, ha, hb⟩
      exact ⟨_, rfl, q _ _ _ s1 na ha (foundL_is ho most)⟩
end
end K8
set_option Elab.async false
set_option linter.all false
set_option maxRecDepth 100000
namespace K8
open PySem PySem.Spec L2
open SX (S S_len S_cat S_inj)
/-! ### a text as a dict of its letters by place -/
def ikv (t : Wd) : List (Key × V) := (List.range t.length).map fun (i : Nat) => ((Sum.inl ((i : Nat) : Int) : Key), V.str (S [t.getD i 0]))
theorem ikv_len (t : Wd) : (ikv t).length = t.length := by unfold ikv; rw [List.length_map, List.length_range]
theorem ikv_snoc (t : Wd) (c : Nat) : ikv (t ++ [c]) = ikv t ++ [((Sum.inl ((t.length : Nat) : Int) : Key), V.str (S [c]))] := by
  unfold ikv
  rw [List.length_append, List.length_singleton, List.range_succ, List.map_append]
  congr 1
  · refine List.map_congr_left fun i hi => ?_
    rw [List.mem_range] at hi
    rw [List.getD_eq_getElem?_getD, List.getD_eq_getElem?_getD, List.getElem?_append_left hi]
  · show [((Sum.inl ((t.length : Nat) : Int) : Key), V.str (S [(t ++ [c]).getD t.length 0]))] = _
    rw [List.getD_eq_getElem?_getD, List.getElem?_append_right (Nat.le_refl _), Nat.sub_self]
    rfl
theorem val_ikv : ∀ (n : Nat) (t : Wd) (i : Nat), t.length = n → valV (ikv t) (Sum.inl (i : Int)) = (t[i]?).map fun c => V.str (S [c])
  | 0, t, i, h => by
    have : t = [] := List.eq_nil_of_length_eq_zero h
    subst this
    rfl
  | n + 1, t, i, h => by
    obtain ⟨u, c, rfl⟩ := snoc_of (xs := t) (by intro z; rw [z] at h; cases h)
    rw [List.length_append, List.length_singleton] at h
    have hu : u.length = n := by omega
    rw [ikv_snoc, valV_snoc _ _ _ _ (by rw [val_ikv n u _ hu, List.getElem?_eq_none (Nat.le_refl _)]; rfl)]
    by_cases e : i = u.length
    · subst e
      rw [if_pos rfl, List.getElem?_append_right (Nat.le_refl _), Nat.sub_self]
      rfl
    · rw [if_neg (fun z => e (by have := Sum.inl.inj z; omega)), val_ikv n u i hu]
      by_cases hi : i < u.length
      · rw [List.getElem?_append_left hi]
      · rw [List.getElem?_eq_none (by omega), List.getElem?_eq_none (by rw [List.length_append, List.length_singleton]; omega)]
theorem put_ikv {t : Wd} {i c : Nat} (h : i = t.length) : putK (ikv t) (Sum.inl (i : Int)) (V.str (S [c])) = ikv (t ++ [c]) := by
  subst h
  rw [putK_new _ (by rw [val_ikv _ t _ rfl, List.getElem?_eq_none (Nat.le_refl _)]; rfl), ikv_snoc]
theorem put_ikv2 {t : Wd} {i c : Nat} (h : t[i]? = some c) : putK (ikv t) (Sum.inl (i : Int)) (V.str (S [c])) = ikv t := by
  unfold putK
  rw [valV_any, val_ikv _ t _ rfl, h]
  refine (if_pos rfl).trans ?_
  unfold ikv
  rw [List.map_map]
  refine List.map_congr_left fun (j : Nat) _ => ?_
  show (if (Sum.inl (j : Int) : Key) = Sum.inl (i : Int) then ((Sum.inl (j : Int) : Key), V.str (S [c])) else (Sum.inl (j : Int), V.str (S [t.getD j 0]))) = _
  by_cases e : (Sum.inl (j : Int) : Key) = Sum.inl (i : Int)
  · rw [if_pos e]
    have e2 : j = i := by have := Sum.inl.inj e; omega
    rw [e2, List.getD_eq_getElem?_getD, h]
    rfl
  · rw [if_neg e]
theorem cps_at (l : Wd) (j : Nat) : (S l).cps[j]? = l[j]? := by simp [S]
/-! ### laying -/
def layM (p q : Wd) (k m : Nat) : Wd := if m ≤ p.length then p.take m else p ++ (q.take (m - p.length)).drop (p.length - k)
def layP (p q : Wd) (k : Nat) : List (Nat × Nat) := ((List.range p.length).map fun i => (i, p.getD i 0)) ++ (List.range q.length).map fun j => (k + j, q.getD j 0)
theorem layP_len (p q : Wd) (k : Nat) : (layP p q k).length = p.length + q.length := by simp [layP]
theorem getD_at {l : Wd} {i : Nat} (h : i < l.length) : l[i]? = some (l.getD i 0) := by
  rw [List.getD_eq_getElem?_getD, List.getElem?_eq_getElem h]
  rfl
theorem layP_one {p q : Wd} {k m : Nat} (h : m < p.length) : (layP p q k)[m]? = some (m, p.getD m 0) := by
  unfold layP
  rw [List.getElem?_append_left (by simpa using h), List.getElem?_map, List.getElem?_range h]
  rfl
theorem layP_two {p q : Wd} {k j : Nat} (h : j < q.length) : (layP p q k)[p.length + j]? = some (k + j, q.getD j 0) := by
  unfold layP
  rw [List.getElem?_append_right (by simp), List.length_map, List.length_range, Nat.add_sub_cancel_left, List.getElem?_map, List.getElem?_range h]
  rfl
theorem layM_one {p q : Wd} {k m : Nat} (h : m < p.length) : layM p q k m = p.take m ∧ layM p q k (m + 1) = p.take m ++ [p.getD m 0] := by
  unfold layM
  rw [if_pos (by omega), if_pos (by omega), List.take_add_one, getD_at h]
  exact ⟨rfl, rfl⟩
theorem layM_two {p q : Wd} {k j : Nat} : layM p q k (p.length + j) = p ++ (q.take j).drop (p.length - k) := by
  unfold layM
  by_cases h : j = 0
  · subst h
    rw [if_pos (by omega), Nat.add_zero, List.take_length]
    simp
  · rw [if_neg (by omega), Nat.add_sub_cancel_left]
theorem layM_in {p q : Wd} {k j : Nat} (h : k + j < p.length) : layM p q k (p.length + j) = p ∧ layM p q k (p.length + (j + 1)) = p := by
  rw [layM_two, layM_two]
  constructor
  · rw [List.drop_eq_nil_of_le (by rw [List.length_take]; omega), List.append_nil]
  · rw [List.drop_eq_nil_of_le (by rw [List.length_take]; omega), List.append_nil]
theorem layM_out {p q : Wd} {k j : Nat} (hj : j < q.length) (hk : k ≤ p.length) (h : ¬ k + j < p.length) : (layM p q k (p.length + j)).length = k + j ∧ layM p q k (p.length + (j + 1)) = layM p q k (p.length + j) ++ [q.getD j 0] := by
  rw [layM_two, layM_two]
  constructor
  · rw [List.length_append, List.length_drop, List.length_take]
    omega
  · rw [List.take_add_one, getD_at hj, List.drop_append_of_le_length (by rw [List.length_take]; omega), List.append_assoc]
    rfl
theorem lays_end {p q : Wd} {k : Nat} (hk : k ≤ p.length) (ok : ∀ j, j < q.length → k + j < p.length → p[k + j]? = q[j]?) : Lays p q k (layM p q k (p.length + q.length)) := by
  have e1 : q.take ((p.drop k).take q.length).length = (p.drop k).take q.length := by
    apply List.ext_getElem?
    intro i
    rw [List.length_take, List.length_drop]
    by_cases h : i < min q.length (p.length - k)
    · rw [List.getElem?_take_of_lt h, List.getElem?_take_of_lt (by omega), List.getElem?_drop]
      exact (ok i (by omega) (by omega)).symm
    · rw [List.getElem?_eq_none (by rw [List.length_take]; omega), List.getElem?_eq_none (by rw [List.length_take, List.length_drop]; omega)]
  refine ⟨e1, ?_⟩
  rw [layM_two, List.take_length, List.length_take, List.length_drop]
  congr 1
  by_cases h : p.length - k ≤ q.length
  · rw [Nat.min_eq_right h]
  · rw [Nat.min_eq_left (by omega), List.drop_eq_nil_of_le (by omega), List.drop_eq_nil_of_le (Nat.le_refl _)]
theorem lays_not {p q : Wd} {k j : Nat} {t : Wd} (hj : j < q.length) (h : k + j < p.length) (no : p[k + j]? ≠ q[j]?) : ¬ Lays p q k t := by
  rintro ⟨h1, _⟩
  have h2 := congrArg (fun l => l[j]?) h1
  have h3 : (q.take ((p.drop k).take q.length).length)[j]? = ((p.drop k).take q.length)[j]? := h2
  rw [List.length_take, List.length_drop, List.getElem?_take_of_lt (by omega), List.getElem?_take_of_lt (by omega), List.getElem?_drop] at h3
  exact no h3.symm
/-- at the addresses zs stand tuples -/
def PairsAt (H : Hp) (zs : List Addr) (xs : List (Nat × Nat)) : Prop := zs.length = xs.length ∧ ∀ (j : Nat) (z : Addr) (x : Nat × Nat), zs[j]? = some z → xs[j]? = some x → H z = some (.tup [.int (x.1 : Nat), .str (S [x.2])])
theorem PairsAt.keep {H H' : Hp} {zs : List Addr} {xs : List (Nat × Nat)} (t : PairsAt H zs xs) (k : ∀ b ys, H b = some (.tup ys) → H' b = some (.tup ys)) : PairsAt H' zs xs := ⟨t.1, fun j z x h1 h2 => k _ _ (t.2 j z x h1 h2)⟩
theorem PairsAt.app {H : Hp} {zs zs' : List Addr} {xs xs' : List (Nat × Nat)} (t : PairsAt H zs xs) (t' : PairsAt H zs' xs') : PairsAt H (zs ++ zs') (xs ++ xs') := by
  refine ⟨by rw [List.length_append, List.length_append, t.1, t'.1], fun j z x h1 h2 => ?_⟩
  by_cases hj : j < zs.length
  · rw [List.getElem?_append_left hj] at h1
    rw [List.getElem?_append_left (by rw [← t.1]; exact hj)] at h2
    exact t.2 j z x h1 h2
  · rw [List.getElem?_append_right (by omega)] at h1
    rw [List.getElem?_append_right (by rw [← t.1]; omega), ← t.1] at h2
    exact t'.2 _ z x h1 h2
theorem PairsAt.one {H : Hp} {z : Addr} {x : Nat × Nat} (h : H z = some (.tup [.int (x.1 : Nat), .str (S [x.2])])) : PairsAt H [z] [x] := ⟨rfl, fun j y x' h1 h2 => by
  cases j with
  | zero => cases h1; cases h2; exact h
  | succ j => simp at h1⟩
section
variable {P : Program} {w : World} {K : PySem.W.Frag} {mg : Str → Option Value} {base : Heap}
abbrev sMet : Stmt := top 33
abbrev nMet : List Str := ["_law_one", "_law_other", "_law_place", "_law_laid", "_law_at", "_law_letter", "_law_spot", "_law_sign"]
def spMet : Sp := fun vs H Q _ => ∃ (p q : Wd) (k : Nat), vs = [.str (S p), .str (S q), .int k] ∧ p.length ≤ 100 ∧ q.length ≤ 100 ∧ k ≤ p.length ∧
  ∀ H', Same H H' → (∀ t, Lays p q k t → Q (.str (S t)) H') ∧ ((∀ t, ¬ Lays p q k t) → Q .non H')
theorem scMet : FnScope nMet ["_law_one", "_law_other", "_law_place"] (defScope sMet) := ⟨rfl, rfl, rfl, by decide +kernel, rfl, by decide +kernel, by decide +kernel⟩
theorem ok_met {f : Addr} {fd : FuncData} (F : Fun K "_law_met" "_law_met" sMet f fd) (B : Blt mg) : FnOk P w K mg base CX0 1 f fd ["_law_one", "_law_other", "_law_place"] spMet := by
  refine F.ok scMet (fun vs H Q E h => ?_) (fun cdv A outer s H vs Q E hr h => ?_)
  · obtain ⟨p, q, k, rfl, _⟩ := h
    rfl
  · obtain ⟨p, q, k, rfl, hp, hq, hk, qq⟩ := h
    have hu := hu_of hr
    refine ⟨_, pss_cons (ps_set (i := 3) scMet.nd rfl (Or.inr rfl) pe_dnewK)
      (pss_cons (ps_for PassesOwn.never rfl (pi_list (pe_op op_cat (pe_listEnum rfl (by rfl) B.list (by rfl) B.enumerate (pv 0))
            (pe_lc (own := [("_law_spot", 6), ("_law_sign", 7)]) (g := gTup K 2 (gCons (gName 6) (gCons (gName 7) gNil))) (tt := tYes) rfl scMet.nd (pi_enumS (by rfl) B.enumerate (pa_cons (pv 1) pa_nil)) (blkOk_by (N := nMet) (sc := defScope sMet) (by decide +kernel))
              (fun _ _ _ _ _ => pg_tup rfl (pgs_cons (pg_name (i := 6) scMet.nd rfl (Or.inl rfl)) (pgs_cons (pg_name (i := 7) scMet.nd rfl (Or.inl rfl)) pgs_nil))) (fun _ _ _ _ _ => pts_nil)
              (fun _ _ _ _ _ => pe_tup (pa_cons (pe_op op_add (pv 2) (pv 6)) (pa_cons (pv 7) pa_nil))))))
          (pg_tup rfl (pgs_cons (pg_name (i := 4) scMet.nd rfl (Or.inl rfl)) (pgs_cons (pg_name (i := 5) scMet.nd rfl (Or.inl rfl)) pgs_nil)))
        (pss_cons (ps_if (pt_cmpR op_ne (pe_dget2 hu (pv 3) (pv 4) (pv 5) ⟨rfl, rfl, rfl, rfl⟩) (pv 5) (nomark _)) (pss_one (ps_ret pe_non)) pss_nil)
        (pss_one (ps_dput hu (pv 3) (pv 4) (pv 5) rfl))))
      (pss_one (ps_ret (pe_join pe_str (pe_lc (own := [("_law_at", 4)]) (g := gName 4) (tt := tYes) rfl scMet.nd (pi_range1 rfl B.range (pa_cons (pe_callB call_lenD (by rfl) B.len PySem.boot_len (pa_cons (pv 3) pa_nil)) pa_nil)) (blkOk_by (N := nMet) (sc := defScope sMet) (by decide +kernel))
        (fun _ _ _ _ _ => pg_name (i := 4) scMet.nd rfl (Or.inl rfl)) (fun _ _ _ _ _ => pts_nil)
        (fun _ _ _ _ _ => pe_dget hu (pv 3) (pv 4) (fun _ _ => rfl))))))), ?_⟩
    refine fun d nd => ?_
    have s0 : Same H (upd H d (.dK [])) := same_upd nd
    refine ⟨_, rfl, p, rfl, sl100 (by omega), fun H1 r1 ts s1 n1 hr1 lts hts => ?_⟩
    have s1' := s0.trans s1
    have n1' : H r1 = none := s0.free n1
    have d1 : H1 d = some (.dK (ikv [])) := s1 _ _ upd_same
    have P1 : PairsAt H1 ts ((List.range p.length).map fun i => (i, p.getD i 0)) := by
      refine ⟨by rw [lts, List.length_map, List.length_range], fun j z x h1 h2 => ?_⟩
      obtain ⟨_, c, h3, h4⟩ := hts j z h1
      have hj := (List.getElem?_eq_some_iff.mp h3).1
      rw [List.getElem?_map, List.getElem?_range hj] at h2
      cases h2
      rw [getD_at hj] at h3
      cases h3
      exact h4
    refine ⟨_, rfl, _, rfl, fun D nD => ?_⟩
    have nD0 := s1'.free nD
    have nDr : r1 ≠ D := ne_of_none hr1 nD
    have nDd : d ≠ D := ne_of_none d1 nD
    refine lc_it walk_enumS (fun j H' => Same H H' ∧ H' d = some (.dK (ikv [])) ∧ H' r1 = some (.lst (ts.map V.ref)) ∧ PairsAt H' ts ((List.range p.length).map fun i => (i, p.getD i 0)) ∧ ∃ us, H' D = some (.lst (us.map V.ref)) ∧ PairsAt H' us ((List.range j).map fun j => (k + j, q.getD j 0)))
      ⟨s1'.trans (same_upd nD), by rw [upd_ne nDd]; exact d1, by rw [upd_ne nDr]; exact hr1, P1.keep (keep_new nD), [], upd_same, rfl, fun j z x h => by simp at h⟩ (fun _ _ _ _ => trivial) ?_ ?_
    · rintro j x H2 H3 hj ⟨s2, d2, h2, P2, us, hD2, U2⟩ ⟨T, x1, x2, rfl, nT, rfl, e1, e2⟩
      cases e1
      rw [cells_size] at hj
      have e3 : x2 = .str (S [q.getD j 0]) := by
        have e4 : ((S q).cps[j]?).map (fun c => V.str ⟨#[c]⟩) = some x2 := e2
        rw [cps_at, getD_at hj] at e4
        exact (Option.some.inj e4).symm
      subst e3
      have sT := same_upd (o := .tup [V.int (j : Nat), .str (S [q.getD j 0])]) nT
      refine ⟨T, _, rfl, SqT.of upd_same, rfl, _, _, rfl, _, _, rfl, rfl, rfl, ?_⟩
      refine ⟨_, rfl, _, rfl, _, _, rfl, rfl, _, rfl, (by show 2 ≤ sizeLine; decide), fun y ny => ?_⟩
      have sY := sT.trans (same_upd (o := .tup [V.int ((k : Int) + (j : Int)), .str (S [q.getD j 0])]) ny)
      have hD3 := sY _ _ hD2
      have yD : y ≠ D := fun z => by rw [z] at ny; rw [sT _ _ hD2] at ny; cases ny
      refine ⟨_, hD3, ?_, same_put (s2.trans sY) nD0, by rw [upd_ne nDd]; exact sY _ _ d2, by rw [upd_ne nDr]; exact sY _ _ h2, (P2.keep fun b ys e => sY _ _ e).keep (keep_lst hD3), us ++ [y], by rw [upd_same, List.map_append]; rfl, ?_⟩
      · rw [refs_len, U2.1, List.length_map, List.length_range]
        exact Nat.lt_of_lt_of_le (show _ < 1000000 by omega) (sl100 (Nat.le_refl _))
      · rw [List.range_succ, List.map_append]
        refine ((U2.keep fun b ys e => sY _ _ e).keep (keep_lst hD3)).app (PairsAt.one ?_)
        rw [upd_ne yD, upd_same]
        rfl
    · rintro H2 ⟨s2, d2, h2, P2, us, hD2, U2⟩
      rw [cells_size] at U2
      have PU := P2.app U2
      refine ⟨r1, D, _, _, rfl, rfl, h2, hD2, ?_, fun r nr => ?_⟩
      · rw [refs_len, refs_len, P2.1, U2.1, List.length_map, List.length_range, List.length_map, List.length_range]
        exact sl100 (by omega)
      rw [← List.map_append]
      have lPU := PU.1
      have s3 := s2.trans (same_upd (o := .lst ((ts ++ us).map V.ref)) nr)
      have ndr : d ≠ r := ne_of_none d2 nr
      refine ⟨r, rfl, ⟨_, SqL.of upd_same⟩, for_list (K := K) (a := r) (xs := (ts ++ us).map V.ref) (fun m σ H' => ∃ y4 y5, σ = [some (.str (S p)), some (.str (S q)), some (.int (k : Nat)), some (.ref d), y4, y5, none, none] ∧ Same H H' ∧ H' r = some (.lst ((ts ++ us).map V.ref)) ∧ H' d = some (.dK (ikv (layM p q k m))) ∧
          PairsAt H' (ts ++ us) (layP p q k) ∧ ∀ j, p.length + j < m → k + j < p.length → p[k + j]? = q[j]?)
        ⟨none, none, rfl, s3, upd_same, by rw [upd_ne ndr, d2]; rfl, PU.keep (keep_new nr), fun j h => by omega⟩ (fun m σ H' _ ⟨_, _, _, _, h, _⟩ => SqL.of h) ?_ ?_⟩
      · rintro m x σ H3 hx ⟨y4, y5, rfl, s4, h4, d4, P4, ok⟩
        rw [List.getElem?_map] at hx
        cases ez : (ts ++ us)[m]? with
        | none => rw [ez] at hx; cases hx
        | some z =>
          rw [ez] at hx
          cases hx
          have hm : m < p.length + q.length := by
            have := (List.getElem?_eq_some_iff.mp ez).1
            rw [P4.1, layP_len] at this
            exact this
          have ndz : ∀ ys, H3 d ≠ some (.tup ys) := fun ys z => by rw [d4] at z; cases z
          have lM : (layM p q k m).length ≤ 300 := by
            unfold layM
            split
            · rw [List.length_take]; omega
            · rw [List.length_append, List.length_drop, List.length_take]; omega
          have ndr' : d ≠ r := ne_of d4 h4 (by intro z; cases z)
          by_cases h : m < p.length
          · have hP := layP_one (q := q) (k := k) h
            have hz := P4.2 m z _ ez hP
            obtain ⟨m1, m2⟩ := layM_one (q := q) (k := k) h
            refine ⟨z, _, rfl, SqT.of hz, rfl, _, _, rfl, _, _, rfl, rfl, ?_⟩
            have lm : (p.take m).length = m := by rw [List.length_take]; omega
            rw [m1] at d4 lM
            refine ⟨_, rfl, d, rfl, .inl ⟨_, .inl d4⟩, _, rfl, _, rfl, _, DGet.k (k := Sum.inl (m : Int)) d4, _, rfl, ?_⟩
            rw [val_ikv _ _ _ rfl, List.getElem?_eq_none (by omega)]
            refine ⟨rfl, _, rfl, ?_⟩
            rw [decide_eq_true (show (Option.map (fun c => V.str (S [c])) none).getD (V.str (S [p.getD m 0])) = V.str (S [p.getD m 0]) from rfl)]
            refine iteF ⟨_, rfl, _, rfl, _, rfl, d, _, rfl, DPut.k (k := Sum.inl (m : Int)) d4 (by rw [ikv_len]; exact Nat.lt_of_lt_of_le (show _ < 1000000 by omega) (sl100 (Nat.le_refl _))), ?_⟩
            refine ⟨_, _, rfl, same_put s4 nd, by rw [upd_ne ndr'.symm]; exact h4, ?_, P4.keep (keep_upd ndz), fun j hj => by omega⟩
            rw [upd_same, put_ikv lm.symm, m2]
          · obtain ⟨j, rfl⟩ : ∃ j, m = p.length + j := ⟨m - p.length, by omega⟩
            have hj : j < q.length := by omega
            have hP := layP_two (p := p) (k := k) hj
            have hz := P4.2 _ z _ ez hP
            refine ⟨z, _, rfl, SqT.of hz, rfl, _, _, rfl, _, _, rfl, rfl, ?_⟩
            refine ⟨_, rfl, d, rfl, .inl ⟨_, .inl d4⟩, _, rfl, _, rfl, _, DGet.k (k := Sum.inl ((k + j : Nat) : Int)) d4, _, rfl, ?_⟩
            rw [val_ikv _ _ _ rfl]
            by_cases hin : k + j < p.length
            · obtain ⟨m1, m2⟩ := layM_in (q := q) hin
              rw [m1] at d4 lM ⊢
              rw [getD_at hin]
              refine ⟨rfl, _, rfl, ?_⟩
              have ed : decide ((Option.map (fun c => V.str (S [c])) (some (p.getD (k + j) 0))).getD (V.str (S [q.getD j 0])) = V.str (S [q.getD j 0])) = decide (p.getD (k + j) 0 = q.getD j 0) := by
                show decide (V.str (S [p.getD (k + j) 0]) = V.str (S [q.getD j 0])) = _
                rw [str_dec]
                exact decide_eq_decide.mpr ⟨fun z => (List.cons.inj z).1, fun z => by rw [z]⟩
              rw [ed]
              by_cases e : p.getD (k + j) 0 = q.getD j 0
              · rw [decide_eq_true e]
                refine iteF ⟨_, rfl, _, rfl, _, rfl, d, _, rfl, DPut.k (k := Sum.inl ((k + j : Nat) : Int)) d4 (by rw [ikv_len]; exact Nat.lt_of_lt_of_le (show _ < 1000000 by omega) (sl100 (Nat.le_refl _))), ?_⟩
                refine ⟨_, _, rfl, same_put s4 nd, by rw [upd_ne ndr'.symm]; exact h4, ?_, P4.keep (keep_upd ndz), fun j' hj' hk' => ?_⟩
                · rw [upd_same, put_ikv2 (by rw [getD_at hin, e])]
                  rw [show p.length + j + 1 = p.length + (j + 1) from rfl, m2]
                · by_cases e2 : j' = j
                  · rw [e2, getD_at hin, getD_at hj, e]
                  · exact ok j' (by omega) hk'
              · rw [decide_eq_false e]
                refine iteT ((qq H3 s4).2 fun t => lays_not hj hin ?_)
                rw [getD_at hin, getD_at hj]
                exact fun z => e (Option.some.inj z)
            · obtain ⟨m1, m2⟩ := layM_out hj hk hin
              rw [List.getElem?_eq_none (by omega)]
              refine ⟨rfl, _, rfl, ?_⟩
              rw [decide_eq_true (show (Option.map (fun c => V.str (S [c])) none).getD (V.str (S [q.getD j 0])) = V.str (S [q.getD j 0]) from rfl)]
              refine iteF ⟨_, rfl, _, rfl, _, rfl, d, _, rfl, DPut.k (k := Sum.inl ((k + j : Nat) : Int)) d4 (by rw [ikv_len]; exact Nat.lt_of_lt_of_le (show _ < 1000000 by omega) (sl100 (Nat.le_refl _))), ?_⟩
              refine ⟨_, _, rfl, same_put s4 nd, by rw [upd_ne ndr'.symm]; exact h4, ?_, P4.keep (keep_upd ndz), fun j' hj' hk' => ?_⟩
              · rw [upd_same, put_ikv m1.symm]
                rw [show p.length + j + 1 = p.length + (j + 1) from rfl, m2]
              · by_cases e2 : j' = j
                · rw [e2] at hk'; exact absurd hk' hin
                · exact ok j' (by omega) hk'
      · rintro σ H3 ⟨y4, y5, rfl, s4, h4, d4, P4, ok⟩
        rw [List.length_map, lPU, show (((List.range p.length).map fun i => (i, p.getD i 0)) ++ (List.range q.length).map fun j => (k + j, q.getD j 0)).length = p.length + q.length from layP_len p q k] at d4 ok
        have la := lays_end (q := q) hk (fun j hj hk' => ok j (by omega) hk')
        obtain ⟨t, et⟩ : ∃ t, t = layM p q k (p.length + q.length) := ⟨_, rfl⟩
        rw [← et] at d4 la
        have lt : t.length ≤ 300 := by
          rw [la.2, List.length_append, List.length_drop]
          omega
        refine ⟨⟨_, rfl⟩, _, rfl, d, _, rfl, d4, (t.length : Int), by rw [ikv_len], by omega, by omega, fun D2 nD2 => ?_⟩
        have nD20 := s4.free nD2
        have nDd2 : d ≠ D2 := ne_of_none d4 nD2
        refine lc_range (lo := 0) (n := t.length) (fun i H' => Same H H' ∧ H' d = some (.dK (ikv t)) ∧ H' D2 = some (.lst (txs ((t.take i).map fun c => [c]))))
          ⟨s4.trans (same_upd nD2), by rw [upd_ne nDd2]; exact d4, upd_same⟩ ?_ ?_
        · rintro i H4 hi ⟨s5, d5, h5⟩
          rw [show ((0 : Int) + (i : Int)) = (i : Int) by omega]
          refine ⟨rfl, _, rfl, _, rfl, d, V.str (S [t.getD i 0]), rfl, ?_, _, h5, ?_, same_put s5 nD20, by rw [upd_ne nDd2]; exact d5, ?_⟩
          · have := DGet.k (k := Sum.inl (i : Int)) d5
            rw [val_ikv _ _ _ rfl, getD_at hi] at this
            exact this
          · rw [txs_len, List.length_map, List.length_take]
            exact Nat.lt_of_lt_of_le (show _ < 1000000 by omega) (sl100 (Nat.le_refl _))
          · rw [upd_same, List.take_add_one, getD_at hi]
            unfold txs
            rw [List.map_append, List.map_append]
            rfl
        · rintro H4 ⟨s5, d5, h5⟩
          rw [List.take_length, txs_S] at h5
          refine ⟨_, D2, _, rfl, rfl, .inl (SqL.of h5), by rw [sum_S, flat_ones]; omega, ?_⟩
          rw [join0, flat_ones]
          exact (qq H4 s5).1 t la
end
end K8
set_option Elab.async false
set_option linter.all false
set_option maxRecDepth 100000
namespace K8
open PySem PySem.Spec L2
open SX (S S_len S_cat S_inj)
/-- a walk over a dict that the walk's own expression has made: it stays locked -/
def iKeysF (td : TE) : TI := fun σ H R => td σ H fun x H1 => ∃ d kvs, x = .ref d ∧ H1 d = some (.dK kvs) ∧ ∀ od, R (Itk d od kvs) (upd H1 d (.frz od (.dK kvs)))
theorem pi_keysF {X : Cx} {tg e : Expr} {td : TE} (he : PE X e td) : PI X tg e (iKeysF td) := by
  refine ⟨fun pins s σ H R I h => ?_⟩
  refine thn (he.run pins s σ H _ I h) fun u s1 ⟨x, H1, I1, rx, d, kvs, ex, hd0, q0⟩ => ?_
  subst ex
  obtain rfl : u = Value.ref d := rx
  obtain ⟨od, I2⟩ := I1.lock hd0 trivial
  have hd : (upd H1 d (.frz od (.dK kvs))) d = some (.frz od (.dK kvs)) := upd_same
  have q := q0 od
  obtain ⟨hs, hgd, hx, es, ep, vs, hdt, hsz, kv, hm⟩ := I2.frzK hd
  refine iter_keys hs hgd hx hdt (pi_one (tk := s1.toks) I2 _ (turn_keys _ hdt) ⟨_, Heap.get?_push_size _ rfl, rfl, ?_⟩ q)
  rw [hsz] <;> rfl
section
variable {P : Program} {w : World} {K : PySem.W.Frag} {mg : Str → Option Value} {base : Heap}
abbrev sLMeets : Stmt := top 34
abbrev sLEnds : Stmt := top 30
abbrev sTwo : Stmt := top 35
abbrev nLMeets : List Str := ["_law_pieces_here", "_law_found", "_law_first", "_law_one", "_law_second", "_law_other", "_law_place", "_law_log"]
def spLMeets : Sp := fun vs H Q _ => ∃ (t : Addr) (ps : List Wd), vs = [.ref t] ∧ H t = some (.tup (txs ps)) ∧ Ok1 ps ∧
  ∀ H' p ms, Same H H' → H p = none → H' p = some (.lst (txs ms)) → IsMeets ps ms → Q (.ref p) H'
theorem scLMeets : FnScope nLMeets ["_law_pieces_here"] (defScope sLMeets) := ⟨rfl, rfl, rfl, by decide +kernel, rfl, by decide +kernel, by decide +kernel⟩
theorem ok_lmeets {f : Addr} {fd : FuncData} (F : Fun K "_law_meetings" "_law_meetings" sLMeets f fd) (B : Blt mg) (GM : Cal P w K mg base "_law_met" 1 ["_law_one", "_law_other", "_law_place"] spMet) (GS : Cal P w K mg base "_law_shortest" 1 ["_law_texts_here"] (spShort K)) :
    FnOk P w K mg base CX0 2 f fd ["_law_pieces_here"] spLMeets := by
  refine F.ok scLMeets (fun vs H Q E h => ?_) (fun cdv A outer s H vs Q E hr h => ?_)
  · obtain ⟨b, ps, rfl, _⟩ := h
    rfl
  · obtain ⟨t, ps, rfl, ht, ⟨hps, hn, hp8⟩, q⟩ := h
    have hu := hu_of hr
    refine ⟨_, pss_cons (ps_set (i := 1) scLMeets.nd rfl (Or.inl rfl) pe_dnewK)
      (pss_cons (ps_for PassesOwn.never rfl (pi_enumT (by rfl) B.enumerate (pa_cons (pv 0) pa_nil)) (pg_tup rfl (pgs_cons (pg_name (i := 2) scLMeets.nd rfl (Or.inl rfl)) (pgs_cons (pg_name (i := 3) scLMeets.nd rfl (Or.inl rfl)) pgs_nil)))
        (pss_one (ps_for PassesOwn.never rfl (pi_enumT (by rfl) B.enumerate (pa_cons (pv 0) pa_nil)) (pg_tup rfl (pgs_cons (pg_name (i := 4) scLMeets.nd rfl (Or.inl rfl)) (pgs_cons (pg_name (i := 5) scLMeets.nd rfl (Or.inl rfl)) pgs_nil)))
          (pss_one (ps_for PassesOwn.never rfl (pi_range1 rfl B.range (pa_cons (pe_callB call_len (by rfl) B.len PySem.boot_len (pa_cons (pv 3) pa_nil)) pa_nil)) (pg_name (i := 6) scLMeets.nd rfl (Or.inl rfl))
            (pss_cons (ps_set (i := 7) scLMeets.nd rfl (Or.inl rfl) (pe_cal GM hr (by rfl) (pa_cons (pv 3) (pa_cons (pv 5) (pa_cons (pv 6) pa_nil)))))
            (pss_one (ps_if (PW.pt (pw_and (pt_cmp (pc_notN (pv 7))) (pw_and1 (PW.pt (pw_or (pt_cmpR op_ne (pv 2) (pv 4) (nomark _)) (pw_or1 (pt_cmpR op_gt (pv 6) pe_int (nomark _))))))))
              (pss_one (ps_dput hu (pv 1) (pv 7) pe_bl rfl)) pss_nil))))))))
      (pss_one (ps_ret (pe_cal GS hr (by rfl) (pa_cons (pe_callTy (call_listD rfl) (by rfl) B.list (by decide +kernel) (pa_cons (pv 1) pa_nil)) pa_nil))))), ?_⟩
    refine fun d nd => ?_
    have s0 : Same H (upd H d (.dK [])) := same_upd nd
    refine ⟨_, rfl, t, _, rfl, sqT_s s0 (SqT.of ht), ?_⟩
    refine for_it walk_enumT (fun i σ H' => ∃ y2 y3 y4 y5 y6 y7 ks, σ = [some (.ref t), some (.ref d), y2, y3, y4, y5, y6, y7] ∧ Same H H' ∧ H' d = some (.dK (dks ks)) ∧ MetTo ps i 0 0 ks)
      ⟨none, none, none, none, none, none, [], rfl, s0, upd_same, .start ps⟩ (fun i σ H' _ ⟨_, _, _, _, _, _, _, _, s, _⟩ => sqT_s s (SqT.of ht)) ?_ ?_
    · rintro i x σ H1 H2 hi ⟨y2, y3, y4, y5, y6, y7, ks, rfl, s1, ed, M⟩ ⟨T1, x1, x2, rfl, nT, rfl, e1, e2⟩
      cases e1
      obtain ⟨p, hpi, rfl⟩ := txs_get e2
      have hi12 : i < 12 := by have := (List.getElem?_eq_some_iff.mp hpi).1; omega
      have p8 := hp8 p (List.mem_of_getElem? hpi)
      have sT := s1.trans (same_upd (o := .tup [V.int (i : Nat), .str (S p)]) nT)
      have edT : (upd H1 T1 (.tup [V.int (i : Nat), .str (S p)])) d = some (.dK (dks ks)) := by rw [upd_ne (ne_of_none ed nT)]; exact ed
      refine ⟨T1, _, rfl, SqT.of upd_same, rfl, _, _, rfl, _, _, rfl, rfl, ?_⟩
      refine ⟨_, rfl, t, _, rfl, sqT_s sT (SqT.of ht), ?_⟩
      refine for_it walk_enumT (fun j σ H' => ∃ y4 y5 y6 y7 ks, σ = [some (.ref t), some (.ref d), some (.int (i : Nat)), some (.str (S p)), y4, y5, y6, y7] ∧ Same H H' ∧ H' d = some (.dK (dks ks)) ∧ MetTo ps i j 0 ks)
        ⟨y4, y5, y6, y7, ks, rfl, sT, edT, M⟩ (fun i σ H' _ ⟨_, _, _, _, _, _, s, _⟩ => sqT_s s (SqT.of ht)) ?_ ?_
      · rintro j x σ H1 H2 hj ⟨y4, y5, y6, y7, ks, rfl, s1, ed, M⟩ ⟨T2, x1, x2, rfl, nT, rfl, e1, e2⟩
        cases e1
        obtain ⟨q', hqj, rfl⟩ := txs_get e2
        have hj12 : j < 12 := by have := (List.getElem?_eq_some_iff.mp hqj).1; omega
        have q8 := hp8 q' (List.mem_of_getElem? hqj)
        have sT := s1.trans (same_upd (o := .tup [V.int (j : Nat), .str (S q')]) nT)
        have edT : (upd H1 T2 (.tup [V.int (j : Nat), .str (S q')])) d = some (.dK (dks ks)) := by rw [upd_ne (ne_of_none ed nT)]; exact ed
        refine ⟨T2, _, rfl, SqT.of upd_same, rfl, _, _, rfl, _, _, rfl, rfl, ?_⟩
        refine ⟨_, rfl, _, _, rfl, len_s (sl100 (by omega)), (p.length : Int), rfl, by omega, by omega, ?_⟩
        refine for_range (n := p.length) (fun k σ H' => ∃ y6 y7 ks, σ = [some (.ref t), some (.ref d), some (.int (i : Nat)), some (.str (S p)), some (.int (j : Nat)), some (.str (S q')), y6, y7] ∧ Same H H' ∧ H' d = some (.dK (dks ks)) ∧ MetTo ps i j k ks)
          ⟨y6, y7, ks, rfl, sT, edT, M⟩ ?_ ?_
        · rintro k σ H3 hk ⟨y6, y7, ks, rfl, s3, d3, M⟩
          rw [show ((0 : Int) + (k : Int)) = (k : Int) by omega]
          refine ⟨_, rfl, _, rfl, _, rfl, p, q', k, rfl, by omega, by omega, by omega, fun H4 s4 => ⟨fun l hl => ?_, fun no => ?_⟩⟩
          · refine ⟨_, rfl, _, rfl, ?_⟩
            rw [nonS]
            have s5 := s3.trans s4
            have d4 := s4 _ _ d3
            have eij : decide (V.int (i : Int) = V.int (j : Int)) = decide (i = j) := decide_eq_decide.mpr ⟨fun z => by have := V.int.inj z; omega, fun z => by rw [z]⟩
            refine iteT ⟨_, rfl, _, rfl, rfl, _, rfl, ?_⟩
            rw [eij]
            have sm := M.small hps (by omega) (by omega) (by omega)
            have put : ∀ (hc2 : i ≠ j ∨ 0 < k), MetTo ps i j (k + 1) (if l ∈ ks then ks else ks ++ [l]) := fun hc2 => M.add hpi hqj hk hc2 hl
            have ep : putK (dks ks) (Sum.inr (S l)) (.bl true) = dks (if l ∈ ks then ks else ks ++ [l]) := by
              by_cases e : l ∈ ks
              · rw [if_pos e, put_dks2 e]
              · rw [if_neg e, put_dks e]
            have lk : (dks ks).length < sizeLine := by rw [dks_len]; exact Nat.lt_of_lt_of_le (show _ < 1000000 by omega) (sl100 (Nat.le_refl _))
            by_cases hij : i = j
            · rw [decide_eq_true hij]
              refine iteF ⟨_, rfl, _, _, rfl, rfl, _, rfl, ite2 (fun hc => ?_) (fun hc => ?_)⟩
              · have hk0 : 0 < k := by have := of_decide_eq_true hc; omega
                refine ⟨_, rfl, _, rfl, d, _, rfl, DPut.k (k := Sum.inr (S l)) d4 lk, ?_⟩
                exact ⟨_, _, _, rfl, same_put s5 nd, by rw [upd_same, ep], put (.inr hk0)⟩
              · have hk0 : ¬ 0 < k := fun z => hc (decide_eq_true (by omega))
                exact ⟨_, _, ks, rfl, s5, d4, M.skip hpi hqj (.inl fun z => z.elim (fun z => z hij) hk0)⟩
            · rw [decide_eq_false hij]
              refine iteT (iteT ?_)
              refine ⟨_, rfl, _, rfl, d, _, rfl, DPut.k (k := Sum.inr (S l)) d4 lk, ?_⟩
              exact ⟨_, _, _, rfl, same_put s5 nd, by rw [upd_same, ep], put (.inl hij)⟩
          · refine ⟨_, rfl, _, rfl, ?_⟩
            refine iteF (iteF ?_)
            exact ⟨_, _, ks, rfl, s3.trans s4, s4 _ _ d3, M.skip hpi hqj (.inr no)⟩
        · rintro σ H3 ⟨y6, y7, ks, rfl, s3, d3, M⟩
          exact ⟨_, _, _, _, ks, rfl, s3, d3, M.endk hpi p8⟩
      · rintro σ H3 ⟨y4, y5, y6, y7, ks, rfl, s3, d3, M⟩
        rw [txs_len] at M
        exact ⟨_, _, _, _, _, _, ks, rfl, s3, d3, M.endj⟩
    · rintro σ H3 ⟨y2, y3, y4, y5, y6, y7, ks, rfl, s3, d3, M⟩
      rw [txs_len] at M
      refine ⟨_, rfl, d, _, rfl, .inl d3, fun r nr => ?_⟩
      have s4 := s3.trans (same_upd (o := .lst ((dks ks).map fun kv => kV kv.1)) nr)
      have sm := M.small hps hps (by omega) (by omega)
      refine ⟨r, ks, rfl, by rw [upd_same]; unfold dks txs; rw [List.map_map]; rfl, M.nd, fun k hk => ?_, by omega, fun H' p ys s5 np hp perm pw => ?_⟩
      · have := meet_len ⟨hps, hn, hp8⟩ ((M.all k).mp hk)
        omega
      · refine q _ p ys (s4.trans s5) (s4.free np) hp ⟨pw, fun e => ?_⟩
        rw [perm.mem_iff]
        exact M.all e
/-! ### _law_ends -/
abbrev nLEnds : List Str := ["_law_pieces_here", "_law_log", "_law_text"]
def spLEnds (K : PySem.W.Frag) : Sp := fun vs H Q _ => ∃ (t : Addr) (ps : List Wd) (log : Wd), vs = [.ref t, .str (S log)] ∧ H t = some (.tup (txs ps)) ∧ log.length ≤ 15 ∧ Ok1 ps ∧
  ∀ H' p es, Same H H' → H p = none → H' p = some (.lst (txs es)) → IsEnds ps log es → Q (.ref p) H'
theorem scLEnds : FnScope nLEnds ["_law_pieces_here", "_law_log"] (defScope sLEnds) := ⟨rfl, rfl, rfl, by decide +kernel, rfl, by decide +kernel, by decide +kernel⟩
theorem ok_lends {f : Addr} {fd : FuncData} (F : Fun K "_law_ends" "_law_ends" sLEnds f fd) (B : Blt mg) (GA : Cal P w K mg base "_law_all_left" 2 ["_law_pieces_here", "_law_log"] (spLAll K)) (GR : Cal P w K mg base "_law_strikes" 1 ["_law_pieces_here", "_law_log"] (spLStrikes K)) (GS : Cal P w K mg base "_law_shortest" 1 ["_law_texts_here"] (spShort K)) :
    FnOk P w K mg base CX0 3 f fd ["_law_pieces_here", "_law_log"] (spLEnds K) := by
  refine F.ok scLEnds (fun vs H Q E h => ?_) (fun cdv A outer s H vs Q E hr h => ?_)
  · obtain ⟨b, ps, log, rfl, _⟩ := h
    rfl
  · obtain ⟨t, ps, log, rfl, ht, hl, ⟨hps, hn, hp8⟩, q⟩ := h
    have hr1 : Room 1 _ := hr.mono (by decide)
    refine ⟨_, pss_one (ps_ret (pe_cal GS hr1 (by rfl) (pa_cons (pe_lc (own := [("_law_text", 2)]) (g := gName 2) (tt := tTest (tOp _ (tCB (rLen K) _) _)) rfl scLEnds.nd (pi_keysF (pe_cal GA hr (by rfl) (pa_cons (pv 0) (pa_cons (pv 1) pa_nil)))) (blkOk_by (N := nLEnds) (sc := defScope sLEnds) (by decide +kernel))
        (fun _ _ _ _ _ => pg_name (i := 2) scLEnds.nd rfl (Or.inl rfl))
        (fun _ _ _ _ _ => pts_one (pt_cmpR op_eq (pe_callB call_len (by rfl) B.len PySem.boot_len (pa_cons (pe_cal GR hr1 (by rfl) (pa_cons (pv 0) (pa_cons (pv 2) pa_nil))) pa_nil)) pe_int (nomark _)))
        (fun _ _ _ _ _ => pv 2)) pa_nil))), ?_⟩
    refine ⟨_, rfl, _, rfl, t, ps, log, rfl, ht, hl, ⟨hps, hn, hp8⟩, fun H0 d s0 nd fl => ?_⟩
    obtain ⟨ks, hd, knd, kmem⟩ := fl
    refine ⟨d, _, rfl, hd, fun od D nD => ?_⟩
    have s1 : Same H (upd H0 d (.frz od (.dK (dks ks)))) := same_put s0 nd
    have nDd : d ≠ D := ne_of_none upd_same nD
    have lF : ks.length ≤ 32768 := by
      have h1 := flood_le knd (fun t h => (kmem t).mp h)
      exact Nat.le_trans h1 (Nat.le_trans (Nat.pow_le_pow_right (by decide) hl) (by decide))
    refine lc_it walk_keys (fun i H' => Same H H' ∧ H' d = some (.frz od (.dK (dks ks))) ∧ H' D = some (.lst (txs ((ks.take i).filter fun t => (strikes ps t).isEmpty))))
      ⟨s1.trans (same_upd nD), by rw [upd_ne nDd, upd_same], upd_same⟩ (fun i H' _ ⟨_, h, _⟩ => h) ?_ ?_
    · rintro i x H1 H2 hi ⟨s1', ed, eD⟩ ⟨rfl, k, v, hk, rfl⟩
      refine ⟨rfl, ?_⟩
      rw [dks_len] at hi
      obtain ⟨u, hu⟩ : ∃ t, ks[i]? = some t := ⟨_, List.getElem?_eq_getElem hi⟩
      have hk2 : (dks ks)[i]? = some (Sum.inr (S u), V.bl true) := by unfold dks; rw [List.getElem?_map, hu]; rfl
      cases hk2.symm.trans hk
      have lt : u.length ≤ 15 := Nat.le_trans (rch_len ((kmem u).mp (List.mem_of_getElem? hu))) hl
      refine ⟨_, rfl, _, rfl, t, ps, u, rfl, s1' _ _ ht, by omega, hps, fun p hp => by have := hp8 p hp; omega, fun H2 l sl nl hst => ?_⟩
      obtain ⟨zs, el2, tz⟩ := hst
      have sD := sl _ _ eD
      refine ⟨_, _, rfl, .inl ⟨_, SqL.of el2, rfl⟩, rfl, _, rfl, ?_⟩
      rw [refs_len, tz.1]
      have e2 : (ks.take (i + 1)).filter (fun t => (strikes ps t).isEmpty) = (ks.take i).filter (fun t => (strikes ps t).isEmpty) ++ (if (strikes ps u).isEmpty = true then [u] else []) := filt_take _ hu
      refine ite2 (fun h => ?_) (fun h => ?_)
      · have h0 : strikes ps u = [] := by
          have := V.int.inj (of_decide_eq_true h)
          exact List.eq_nil_of_length_eq_zero (by omega)
        refine ⟨_, rfl, _, sD, ?_, same_put (s1'.trans sl) (s1.free nD), by rw [upd_ne nDd]; exact sl _ _ ed, ?_⟩
        · rw [txs_len]
          have := List.length_filter_le (fun t => (strikes ps t).isEmpty) (ks.take i)
          rw [List.length_take] at this
          exact Nat.lt_of_lt_of_le (show _ < 1000000 by omega) (sl100 (Nat.le_refl _))
        · rw [upd_same, e2, h0]
          unfold txs
          rw [List.map_append]
          rfl
      · have h0 : ¬ (strikes ps u).isEmpty = true := fun z => h (decide_eq_true (by rw [List.isEmpty_iff.mp z]; rfl))
        refine ⟨s1'.trans sl, sl _ _ ed, ?_⟩
        rw [e2, if_neg h0, List.append_nil]
        exact sD
    · rintro H1 ⟨s1', ed, eD⟩
      rw [dks_len, List.take_length] at eD
      refine ⟨D, _, rfl, eD, knd.filter _, fun k hk => ?_, ?_, fun H' p ys s5 np hp perm pw => ?_⟩
      · have := rch_len ((kmem k).mp (List.mem_filter.mp hk).1)
        omega
      · have := List.length_filter_le (fun t => (strikes ps t).isEmpty) ks
        omega
      · refine q _ p ys (s1'.trans s5) (s1'.free np) hp ⟨pw, fun e => ?_⟩
        rw [perm.mem_iff, List.mem_filter, kmem, List.isEmpty_iff, ← irr_iff hn]
        exact Iff.rfl
/-! ### _law_two_ends -/
abbrev nTwo : List Str := ["_law_pieces_here", "_law_texts_here", "_law_log", "_law_due"]
def spTwo (K : PySem.W.Frag) : Sp := fun vs H Q _ => ∃ (t l : Addr) (ps ts : List Wd), vs = [.ref t, .ref l] ∧ H t = some (.tup (txs ps)) ∧ H l = some (.lst (txs ts)) ∧ Ok1 ps ∧ (∀ u, u ∈ ts → u.length ≤ 15) ∧
  ∀ H' v r, Same H H' → First ps ts r → RestAt H' v r → (∀ p, v = .ref p → H p = none) → Q v H'
theorem scTwo : FnScope nTwo ["_law_pieces_here", "_law_texts_here"] (defScope sTwo) := ⟨rfl, rfl, rfl, by decide +kernel, rfl, by decide +kernel, by decide +kernel⟩
theorem ok_two {f : Addr} {fd : FuncData} (F : Fun K "_law_two_ends" "_law_two_ends" sTwo f fd) (B : Blt mg) (GE : Cal P w K mg base "_law_ends" 3 ["_law_pieces_here", "_law_log"] (spLEnds K)) :
    FnOk P w K mg base CX0 4 f fd ["_law_pieces_here", "_law_texts_here"] (spTwo K) := by
  refine F.ok scTwo (fun vs H Q E h => ?_) (fun cdv A outer s H vs Q E hr h => ?_)
  · obtain ⟨b, l, ps, ts, rfl, _⟩ := h
    rfl
  · obtain ⟨t, l, ps, ms, rfl, ht, hl, o1, hlen, q⟩ := h
    refine ⟨_, pss_cons (ps_for PassesOwn.never rfl (pi_list (pv 1)) (pg_name (i := 2) scTwo.nd rfl (Or.inl rfl))
        (pss_cons (ps_set (i := 3) scTwo.nd rfl (Or.inl rfl) (pe_cal GE hr (by rfl) (pa_cons (pv 0) (pa_cons (pv 2) pa_nil))))
        (pss_one (ps_if (pt_cmpR op_gt (pe_callB call_len (by rfl) B.len PySem.boot_len (pa_cons (pv 3) pa_nil)) pe_int (nomark _))
          (pss_one (ps_ret (pe_tup (pa_cons (pv 2) (pa_cons (pe_ix ix_list (pv 3) pe_int (fun _ _ => rfl)) (pa_cons (pe_ix ix_list (pv 3) pe_int (fun _ _ => rfl)) pa_nil)))))) pss_nil))))
      (pss_one (ps_ret pe_non)), ?_⟩
    refine ⟨_, rfl, l, rfl, ⟨_, SqL.of hl⟩, ?_⟩
    refine for_list (K := K) (a := l) (xs := txs ms) (fun i σ H' => ∃ y1 y2, σ = [some (.ref t), some (.ref l), y1, y2] ∧ Same H H' ∧ ∀ u, u ∈ ms.take i → ¬ Two ps u)
      ⟨none, none, rfl, Same.refl _, fun u hu => by simp at hu⟩ (fun i σ H' _ ⟨_, _, _, h, _⟩ => SqL.of (h _ _ hl)) ?_ ?_
    · rintro i x σ H2 hx ⟨y1, y2, rfl, s2, no⟩
      obtain ⟨u, hu, rfl⟩ := txs_get hx
      refine ⟨_, rfl, _, rfl, t, ps, u, rfl, s2 _ _ ht, hlen u (List.mem_of_getElem? hu), o1, fun H3 p es s3 np hp ie => ?_⟩
      have s5 := s2.trans s3
      refine ⟨_, rfl, _, _, rfl, .inl ⟨_, SqL.of hp, rfl⟩, _, _, rfl, rfl, _, rfl, ?_⟩
      rw [txs_len]
      refine ite2 (fun h => ?_) (fun h => ?_)
      · have h1 : 1 < es.length := by have := of_decide_eq_true h; omega
        obtain ⟨e, f, r, rfl, fi⟩ := first_at no hu ie h1
        refine ⟨_, rfl, _, rfl, p, _, _, _, rfl, rfl, SqL.of hp, atI_nat (j := 0) rfl, _, rfl, p, _, _, _, rfl, rfl, SqL.of hp, atI_nat (j := 1) rfl, (by show 3 ≤ sizeLine; decide), fun z nz => ?_⟩
        exact q _ _ _ (s5.trans (same_upd nz)) fi ⟨z, rfl, upd_same⟩ (fun p e => by cases e; exact s5.free nz)
      · refine ⟨_, _, rfl, s5, take_no no hu (ie.short ?_)⟩
        have : ¬ (1 : Int) < ((es.length : Nat) : Int) := fun z => h (decide_eq_true z)
        omega
    · rintro σ H2 ⟨y1, y2, rfl, s2, no⟩
      rw [txs_len, List.take_length] at no
      exact q _ _ none s2 no rfl (fun p e => nomatch e)
end
end K8
set_option Elab.async false
set_option linter.all false
set_option maxRecDepth 100000
namespace K8
open PySem PySem.Spec L2
open SX (S S_len S_cat S_inj)
def ownsA : List Wd := [[97, 98], [97, 98, 99], [97, 98], [98, 97], [104, 99], [97], [98, 100, 102], [97, 98]]
def ownsB : List Wd := [[97, 98], [97, 98, 99], [103, 104]]
def L6 : Wd := [97, 98, 99, 100, 102, 104]
theorem ownsA_ok : ∀ l ∈ ownsA, l ≠ [] ∧ l.length ≤ 3 ∧ ∀ c ∈ l, c ∈ L6 := by decide
theorem ownsB_ok : ∀ l ∈ ownsB, l ≠ [] ∧ l.length ≤ 3 ∧ ∀ c ∈ l, c ∈ L8 := by decide
/-- drawn pieces: their letters among A -/
structure Drawn (A : Wd) (ps : List Wd) : Prop where
  ne : ps ≠ []
  le : ps.length ≤ 12
  nd : ps.Nodup
  each : ∀ p, p ∈ ps → p ≠ [] ∧ p.length ≤ 8 ∧ ∀ c, c ∈ p → c ∈ A
section
variable {P : Program} {w : World} {K : PySem.W.Frag} {mg : Str → Option Value} {base : Heap}
abbrev sPieces : Stmt := top 25
abbrev sGPieces : Stmt := top 36
abbrev nPieces : List Str := ["_law_hand_here", "_law_own_here", "_law_many", "_law_size", "_law_found", "_law_turn", "_law_piece", "_law_at"]
def spPieces (A : Wd) : Sp := fun vs H Q _ => ∃ (a ac : Addr), vs = [.ref a] ∧ Hand H a ac ∧ ∀ H' t ps, Keep a ac H H' → H t = none → H' t = some (.tup (txs ps)) → Drawn A ps → Q (.ref t) H'
theorem scPieces : FnScope nPieces ["_law_hand_here"] (defScope sPieces) := ⟨rfl, rfl, rfl, by decide +kernel, rfl, by decide +kernel, by decide +kernel⟩
theorem mem_txs {ks : List Wd} {x : V} (h : x ∈ txs ks) : ∃ k, k ∈ ks ∧ x = .str (S k) := by
  obtain ⟨k, h1, h2⟩ := List.mem_map.mp h
  exact ⟨k, h1, h2.symm⟩
theorem ok_pieces {f : Addr} {fd : FuncData} (F : Fun K "_law_pieces" "_law_pieces" sPieces f fd) (B : Blt mg) (GD : Cal P w K mg base "_law_draw" 1 ["_law_hand_here", "_law_many"] spDraw) (GA : Cal P w K mg base "_law_any" 2 ["_law_hand_here", "_law_items"] spAny) :
    FnOk P w K mg base CX0 3 f fd ["_law_hand_here"] (spPieces L6) := by
  refine F.ok scPieces (fun vs H Q E h => ?_) (fun cdv A outer s H vs Q E hr h => ?_)
  · obtain ⟨a, ac, rfl, _⟩ := h
    rfl
  · obtain ⟨a, ac, rfl, hh, q⟩ := h
    have hr1 : Room 1 _ := hr.mono (by decide)
    have tail : ∃ t, PSs (cxOf CX0 P w K mg base nPieces "_law_pieces" (defScope sPieces) f cdv A outer s H E).nox ((defBody sPieces).drop 3) t ∧
        ∀ (H1 : Hp) (own : Wd) (M Z : Int) (o : Addr), own ∈ ownsA → 1 ≤ M → M ≤ 12 → 1 ≤ Z → Z ≤ 8 → Keep a ac H H1 → H o = none → o ≠ a → o ≠ ac → H1 o = some (.lst []) →
          t { nx := fun _ H' => Q .non H', rt := Q } [some (.ref a), some (.str (S own)), some (.int M), some (.int Z), some (.ref o), none, none, none] H1 := by
      refine ⟨_, pss_cons (ps_for PassesOwn.never rfl (pi_range1 rfl B.range (pa_cons (pe_op op_mul pe_int (pv 2)) pa_nil)) (pg_name (i := 5) scPieces.nd rfl (Or.inl rfl))
          (pss_cons (ps_set (i := 6) scPieces.nd rfl (Or.inl rfl) (pe_join pe_str (pe_lc (own := [("_law_at", 7)]) (g := gName 7) (tt := tYes) rfl scPieces.nd (pi_range1 rfl B.range (pa_cons (pe_op op_add pe_int (pe_cal GD hr1 (by rfl) (pa_cons (pv 0) (pa_cons (pv 3) pa_nil)))) pa_nil)) (blkOk_by (N := nPieces) (sc := defScope sPieces) (by decide +kernel))
              (fun _ _ _ _ _ => pg_name (i := 7) scPieces.nd rfl (Or.inl rfl)) (fun _ _ _ _ _ => pts_nil)
              (fun _ _ _ _ _ => pe_cal GA hr (by rfl) (pa_cons (pv 0) (pa_cons (pv 1) pa_nil))))))
          (pss_one (ps_if (PW.pt (pw_and (pt_cmpR op_notIn_seq (pv 6) (pv 4) rfl) (pw_and (pt_cmpR op_lt (pe_callB call_len (by rfl) B.len PySem.boot_len (pa_cons (pv 4) pa_nil)) (pv 2) (nomark _))
              (pw_and1 (PW.pt (pw_or (pt_cmpR op_gt (pe_callB call_len (by rfl) B.len PySem.boot_len (pa_cons (pv 6) pa_nil)) pe_int (nomark _)) (pw_or1 (pt_cmpR op_eq (pe_cal GD hr1 (by rfl) (pa_cons (pv 0) (pa_cons pe_int pa_nil))) pe_int (nomark _)))))))))
            (pss_one (ps_expr (pe_bm PySem.F.plainAttrs_list PySem.F.slot_list_append PySem.F.type_list_append mt_append (pv 4) (pa_cons (pv 6) pa_nil)))) pss_nil))))
        (pss_one (ps_ret (pe_ifExp (pt_cmpR op_gt (pe_callB call_len (by rfl) B.len PySem.boot_len (pa_cons (pv 4) pa_nil)) pe_int (nomark _)) (pe_callTy call_tuple_of (by rfl) B.tuple (by decide +kernel) (pa_cons (pv 4) pa_nil)) (pe_tup (pa_cons (pe_slice sl_str (pv 1) po_none (po_some pe_int)) pa_nil))))), fun H1 own M Z o mo M1 M2 Z1 Z2 k1 no oa oc ho => ?_⟩
      obtain ⟨own0, own3, ownL⟩ := ownsA_ok own mo
      refine ⟨_, rfl, 4, M, rfl, rfl, .inl (by show -(2 ^ 64 : Int) < 4 ∧ (4 : Int) < 2 ^ 64; decide), 4 * M, rfl, by omega, by omega, ?_⟩
      refine for_range (n := (4 * M).toNat) (fun i σ H' => ∃ y5 y6 ps, σ = [some (.ref a), some (.str (S own)), some (.int M), some (.int Z), some (.ref o), y5, y6, none] ∧ Keep a ac H H' ∧ H' o = some (.lst (txs ps)) ∧ (ps ≠ [] → Drawn L6 ps))
        ⟨none, none, [], rfl, k1, ho, fun z => absurd rfl z⟩ ?_ ?_
      · rintro i σ H2 hi ⟨y5, y6, ps, rfl, k2, ho2, dr⟩
        have lps : ps.length ≤ 12 := by
          by_cases e : ps = []
          · rw [e]; exact Nat.zero_le _
          · exact (dr e).le
        refine ⟨⟨_, rfl⟩, _, rfl, _, rfl, a, ac, Z, rfl, k2.hand, by omega, by omega, fun H3 r k3 fr3 r0 r1 => ?_⟩
        have k3' := k2.trans k3
        have ho3 := k3.keep _ _ oa ho2
        refine ⟨1, r, rfl, rfl, 1 + r, rfl, by omega, by omega, fun D nD => ?_⟩
        have nD0 := k3'.free nD
        have nDa := (k3.hand.ne nD).1
        have nDc := (k3.hand.ne nD).2
        have nDo : o ≠ D := ne_of_none ho3 nD
        refine lc_range (lo := 0) (n := (1 + r).toNat) (fun j H' => Keep a ac H H' ∧ H' o = some (.lst (txs ps)) ∧ ∃ u : Wd, u.length = j ∧ (∀ c, c ∈ u → c ∈ own) ∧ H' D = some (.lst (txs (u.map fun c => [c]))))
          ⟨k3'.new nD, by rw [upd_ne nDo]; exact ho3, [], rfl, fun c h => (nomatch h), upd_same⟩ ?_ ?_
        · rintro j H4 hj ⟨k4, ho4, u, lu, mu, hD4⟩
          refine ⟨rfl, _, rfl, _, rfl, a, ac, _, rfl, k4.hand, .inl ⟨own, rfl, own0, by omega, fun H5 c k5 fr5 hc => ?_⟩⟩
          have hD5 := k5.keep _ _ nDa hD4
          refine ⟨_, hD5, ?_, (k4.trans k5).put nD0 nDa nDc, by rw [upd_ne nDo]; exact k5.keep _ _ oa ho4, u ++ [c], by rw [List.length_append, lu]; rfl, fun x hx => ?_, ?_⟩
          · rw [txs_len, List.length_map, lu]
            exact Nat.lt_of_lt_of_le (show _ < 1000000 by omega) (sl100 (Nat.le_refl _))
          · rcases List.mem_append.mp hx with h | h
            · exact mu x h
            · rw [List.mem_singleton.mp h]; exact hc
          · rw [upd_same]
            unfold txs
            rw [List.map_append, List.map_append]
            rfl
        · rintro H4 ⟨k4, ho4, u, lu, mu, hD4⟩
          rw [txs_S] at hD4
          refine ⟨_, D, _, rfl, rfl, .inl (SqL.of hD4), by rw [sum_S, flat_ones]; omega, ?_⟩
          rw [join0, flat_ones]
          refine ⟨_, rfl, _, rfl, o, _, rfl, .inl (SqL.of ho4), rfl, txs_flat _, _, rfl, ?_⟩
          rw [in_txs]
          by_cases hin : u ∈ ps
          · rw [decide_eq_true hin]
            exact iteF (iteF ⟨_, _, ps, rfl, k4, ho4, dr⟩)
          · rw [decide_eq_false hin]
            refine iteT ⟨_, rfl, _, _, rfl, .inl ⟨_, SqL.of ho4, rfl⟩, _, rfl, _, _, rfl, rfl, _, rfl, ?_⟩
            rw [txs_len]
            have app : ∀ H5, Keep a ac H H5 → H5 o = some (.lst (txs ps)) → ps.length + 1 ≤ 12 → Keep a ac H (upd H5 o (.lst (txs (ps ++ [u])))) ∧ (upd H5 o (.lst (txs (ps ++ [u])))) o = some (.lst (txs (ps ++ [u]))) ∧ (ps ++ [u] ≠ [] → Drawn L6 (ps ++ [u])) := fun H5 k5 ho5 l5 => by
              refine ⟨k5.put no oa oc, upd_same, fun _ => ⟨by simp, by rw [List.length_append]; exact l5, ?_, fun p hp => ?_⟩⟩
              · by_cases e : ps = []
                · rw [e]; simp
                · exact List.nodup_append.mpr ⟨(dr e).nd, by simp, fun x hx y hy e2 => hin (by rw [List.mem_singleton.mp hy] at e2; exact e2 ▸ hx)⟩
              · rcases List.mem_append.mp hp with h | h
                · exact (dr (List.ne_nil_of_mem h)).each p h
                · rw [List.mem_singleton.mp h]
                  refine ⟨fun z => ?_, by omega, fun c hc => ownL c (mu c hc)⟩
                  rw [z] at lu
                  have : (1 + r).toNat = 0 := lu.symm
                  omega
            have st : ∀ H5, Keep a ac H H5 → H5 o = some (.lst (txs ps)) → ps.length + 1 ≤ 12 → tyV K "list" (.ref o) H5 ∧ H5 o = some (.lst (txs ps)) ∧ (txs ps).length < sizeLine ∧ (txs ps) ++ [V.str (S u)] = txs (ps ++ [u]) := fun H5 k5 ho5 l5 => by
              refine ⟨.inl ⟨rfl, _, SqL.of ho5⟩, ho5, ?_, ?_⟩
              · rw [txs_len]
                exact Nat.lt_of_lt_of_le (show _ < 1000000 by omega) (sl100 (Nat.le_refl _))
              · unfold txs
                rw [List.map_append]
                rfl
            refine ite2 (fun h1 => ?_) (fun _ => ?_)
            · have l5 : ps.length + 1 ≤ 12 := by have := of_decide_eq_true h1; omega
              refine ⟨_, rfl, _, _, rfl, len_s (sl100 (by omega)), _, _, rfl, rfl, _, rfl, ?_⟩
              refine ite2 (fun _ => ?_) (fun _ => ?_)
              · obtain ⟨a1, a2, a3, a4⟩ := st H4 k4 ho4 l5
                refine iteT ⟨_, rfl, a1, _, rfl, o, _, _, rfl, rfl, a2, a3, ?_⟩
                rw [a4]
                obtain ⟨b1, b2, b3⟩ := app H4 k4 ho4 l5
                exact ⟨_, _, _, rfl, b1, b2, b3⟩
              · refine ⟨_, rfl, a, ac, 4, rfl, k4.hand, by omega, by omega, fun H5 r5 k5 fr5 r50 r51 => ?_⟩
                have k6 := k4.trans k5
                have ho5 := k5.keep _ _ oa ho4
                refine ⟨rfl, _, rfl, ?_⟩
                refine ite2 (fun _ => ?_) (fun _ => ?_)
                · obtain ⟨a1, a2, a3, a4⟩ := st H5 k6 ho5 l5
                  refine ⟨_, rfl, a1, _, rfl, o, _, _, rfl, rfl, a2, a3, ?_⟩
                  rw [a4]
                  obtain ⟨b1, b2, b3⟩ := app H5 k6 ho5 l5
                  exact ⟨_, _, _, rfl, b1, b2, b3⟩
                · exact ⟨_, _, ps, rfl, k6, ho5, dr⟩
            · exact iteF ⟨_, _, ps, rfl, k4, ho4, dr⟩
      · rintro σ H2 ⟨y5, y6, ps, rfl, k2, ho2, dr⟩
        refine ⟨_, rfl, _, _, rfl, .inl ⟨_, SqL.of ho2, rfl⟩, _, _, rfl, rfl, _, rfl, ?_⟩
        rw [txs_len]
        refine ite2 (fun h => ?_) (fun h => ?_)
        · have h0 : ps ≠ [] := fun z => by
            have := of_decide_eq_true h
            rw [z] at this
            exact absurd this (by decide)
          refine ⟨_, rfl, o, _, rfl, .inl ⟨SqL.of ho2, fun t nt => ?_⟩⟩
          exact q _ t ps (k2.new nt) (k2.free nt) upd_same (dr h0)
        · refine ⟨_, rfl, 2, rfl, _, rfl, by rw [S_len]; exact sl100 (by omega), (by show 1 ≤ sizeLine; decide), fun t nt => ?_⟩
          refine q _ t [own.take 2] (k2.new nt) (k2.free nt) ?_ ⟨by simp, by simp, by simp, fun p hp => ?_⟩
          · rw [upd_same, show (2 : Int) = ((2 : Nat) : Int) from rfl, cut_take]
            rfl
          · rw [List.mem_singleton.mp hp]
            refine ⟨fun z => ?_, by rw [List.length_take]; omega, fun c hc => ownL c (List.mem_of_mem_take hc)⟩
            have lp := List.length_pos_iff.mpr own0
            have e0 : (own.take 2).length = 0 := congrArg List.length z
            rw [List.length_take] at e0
            omega
    obtain ⟨t, ht, kt⟩ := tail
    refine ⟨_, pss_cons (ps_set (i := 1) scPieces.nd rfl (Or.inr rfl) (pe_cal GA hr (by rfl) (pa_cons (pv 0) (pa_cons (pe_lst (pa_cons pe_str (pa_cons pe_str (pa_cons pe_str (pa_cons pe_str (pa_cons pe_str (pa_cons pe_str (pa_cons pe_str (pa_cons pe_str pa_nil))))))))) pa_nil))))
      (pss_cons (ps_par3 (i := 2) (j := 3) (l := 4) rfl scPieces.nd rfl rfl rfl (by decide) (by decide) (by decide) rfl rfl rfl (pa_cons (pe_op op_add pe_int (pe_cal GD hr1 (by rfl) (pa_cons (pv 0) (pa_cons pe_int pa_nil)))) (pa_cons (pe_cal GA hr (by rfl) (pa_cons (pv 0) (pa_cons (pe_lst (pa_cons pe_int (pa_cons pe_int (pa_cons pe_int (pa_cons pe_int pa_nil))))) pa_nil))) (pa_cons (pe_lst pa_nil) pa_nil))) (by rfl))
      (pss_cons (ps_if (pt_cmpR op_eq (pe_cal GD hr1 (by rfl) (pa_cons (pv 0) (pa_cons pe_int pa_nil))) pe_int (nomark _))
        (pss_one (ps_asg (pe_tup (pa_cons pe_int (pa_cons pe_int pa_nil))) (pg_tup rfl (pgs_cons (pg_name (i := 2) scPieces.nd rfl (Or.inl rfl)) (pgs_cons (pg_name (i := 3) scPieces.nd rfl (Or.inl rfl)) pgs_nil))))) pss_nil) ht)), ?_⟩
    refine ⟨_, rfl, (by show 8 ≤ sizeLine; decide), fun l1 n1 => ?_⟩
    have k1 : Keep a ac H _ := (Keep.refl hh).new (o := .lst (txs ownsA)) n1
    refine ⟨a, ac, _, rfl, k1.hand, .inr ⟨l1, txs ownsA, rfl, (hh.ne n1).1, upd_same, by simp [ownsA], by simp [ownsA], fun H2 x k2 fr2 mx => ?_⟩⟩
    obtain ⟨own, mo, rfl⟩ := mem_txs mx
    have k2' := k1.trans k2
    refine ⟨_, rfl, a, ac, 5, rfl, k2.hand, by omega, by omega, fun H3 r k3 fr3 r0 r1 => ⟨1, r, rfl, rfl, ?_⟩⟩
    have k3' := k2'.trans k3
    refine ⟨_, rfl, (by show 4 ≤ sizeLine; decide), fun l2 n2 => ?_⟩
    have k4 := k3'.new (o := .lst [.int 3, .int 2, .int 4, .int 3]) n2
    refine ⟨a, ac, _, rfl, k4.hand, .inr ⟨l2, [.int 3, .int 2, .int 4, .int 3], rfl, (k3.hand.ne n2).1, upd_same, by simp, by simp, fun H5 x k5 fr5 mx5 => ?_⟩⟩
    obtain ⟨Z, rfl, Z1, Z2⟩ : ∃ Z : Int, x = .int Z ∧ 1 ≤ Z ∧ Z ≤ 8 := by
      simp only [List.mem_cons, List.not_mem_nil, or_false] at mx5
      rcases mx5 with rfl | rfl | rfl | rfl
      · exact ⟨3, rfl, by decide, by decide⟩
      · exact ⟨2, rfl, by decide, by decide⟩
      · exact ⟨4, rfl, by decide, by decide⟩
      · exact ⟨3, rfl, by decide, by decide⟩
    have k5' := k4.trans k5
    refine ⟨Nat.zero_le _, fun o no => ⟨_, _, _, rfl, ?_⟩⟩
    have oa := (k5.hand.ne no).1
    have oc := (k5.hand.ne no).2
    have no0 := k5'.free no
    have k6 := k5'.new (o := .lst []) no
    refine ⟨_, rfl, a, ac, 20, rfl, k6.hand, by omega, by omega, fun H7 r7 k7 fr7 r70 r71 => ⟨rfl, _, rfl, ?_⟩⟩
    have k7' := k6.trans k7
    have ho7 := k7.keep _ _ oa upd_same
    refine ite2 (fun _ => ?_) (fun _ => ?_)
    · refine ⟨(by show 2 ≤ sizeLine; decide), fun l3 n3 => ⟨l3, _, rfl, SqT.of upd_same, rfl, _, _, rfl, _, _, rfl, rfl, ?_⟩⟩
      exact kt _ own 12 8 o mo (by decide) (by decide) (by decide) (by decide) (k7'.new n3) no0 oa oc (by rw [upd_ne (ne_of_none ho7 n3)]; exact ho7)
    · exact kt H7 own (1 + r) Z o mo (by omega) (by omega) Z1 Z2 k7' no0 oa oc ho7
end
end K8
set_option Elab.async false
set_option linter.all false
set_option maxRecDepth 100000
namespace K8
open PySem PySem.Spec L2
open SX (S S_len S_cat S_inj)
section
variable {P : Program} {w : World} {K : PySem.W.Frag} {mg : Str → Option Value} {base : Heap}
abbrev nGP : List Str := ["_law_hand_here", "_law_own_here", "_law_found", "_law_turn", "_law_piece", "_law_at"]
theorem scGP : FnScope nGP ["_law_hand_here"] (defScope sGPieces) := ⟨rfl, rfl, rfl, by decide +kernel, rfl, by decide +kernel, by decide +kernel⟩
theorem ok_gpieces {f : Addr} {fd : FuncData} (F : Fun K "_law_great_pieces" "_law_great_pieces" sGPieces f fd) (B : Blt mg) (GD : Cal P w K mg base "_law_draw" 1 ["_law_hand_here", "_law_many"] spDraw) (GA : Cal P w K mg base "_law_any" 2 ["_law_hand_here", "_law_items"] spAny) :
    FnOk P w K mg base CX0 3 f fd ["_law_hand_here"] (spPieces L8) := by
  refine F.ok scGP (fun vs H Q E h => ?_) (fun cdv A outer s H vs Q E hr h => ?_)
  · obtain ⟨a, ac, rfl, _⟩ := h
    rfl
  · obtain ⟨a, ac, rfl, hh, q⟩ := h
    have hr1 : Room 1 _ := hr.mono (by decide)
    refine ⟨_, pss_cons (ps_asg (pe_tup (pa_cons (pe_cal GA hr (by rfl) (pa_cons (pv 0) (pa_cons (pe_lst (pa_cons pe_str (pa_cons pe_str (pa_cons pe_str pa_nil)))) pa_nil))) (pa_cons (pe_lst pa_nil) pa_nil))) (pg_tup rfl (pgs_cons (pg_name (i := 1) scGP.nd rfl (Or.inr rfl)) (pgs_cons (pg_name (i := 2) scGP.nd rfl (Or.inl rfl)) pgs_nil))))
      (pss_cons (ps_for PassesOwn.never rfl (pi_range1 rfl B.range (pa_cons (pe_op op_add pe_int (pe_cal GD hr1 (by rfl) (pa_cons (pv 0) (pa_cons pe_int pa_nil)))) pa_nil)) (pg_name (i := 3) scGP.nd rfl (Or.inl rfl))
          (pss_cons (ps_set (i := 4) scGP.nd rfl (Or.inl rfl) (pe_join pe_str (pe_lc (own := [("_law_at", 5)]) (g := gName 5) (tt := tYes) rfl scGP.nd (pi_range1 rfl B.range (pa_cons (pe_op op_add pe_int (pe_cal GD hr1 (by rfl) (pa_cons (pv 0) (pa_cons pe_int pa_nil)))) pa_nil)) (blkOk_by (N := nGP) (sc := defScope sGPieces) (by decide +kernel))
              (fun _ _ _ _ _ => pg_name (i := 5) scGP.nd rfl (Or.inl rfl)) (fun _ _ _ _ _ => pts_nil)
              (fun _ _ _ _ _ => pe_cal GA hr (by rfl) (pa_cons (pv 0) (pa_cons (pv 1) pa_nil))))))
          (pss_one (ps_if (pt_cmpR op_notIn_seq (pv 4) (pv 2) rfl)
            (pss_one (ps_expr (pe_bm PySem.F.plainAttrs_list PySem.F.slot_list_append PySem.F.type_list_append mt_append (pv 2) (pa_cons (pv 4) pa_nil)))) pss_nil))))
        (pss_one (ps_ret (pe_callTy call_tuple_of (by rfl) B.tuple (by decide +kernel) (pa_cons (pv 2) pa_nil))))), ?_⟩
    refine ⟨_, rfl, (by show 3 ≤ sizeLine; decide), fun l1 n1 => ?_⟩
    have k1 : Keep a ac H _ := (Keep.refl hh).new (o := .lst (txs ownsB)) n1
    refine ⟨a, ac, _, rfl, k1.hand, .inr ⟨l1, txs ownsB, rfl, (hh.ne n1).1, upd_same, by simp [ownsB], by simp [ownsB], fun H2 x k2 fr2 mx => ?_⟩⟩
    obtain ⟨own, mo, rfl⟩ := mem_txs mx
    obtain ⟨own0, own3, ownL⟩ := ownsB_ok own mo
    have k2' := k1.trans k2
    refine ⟨Nat.zero_le _, fun o no => ⟨(by show 2 ≤ sizeLine; decide), fun tp ntp => ?_⟩⟩
    have oa := (k2.hand.ne no).1
    have oc := (k2.hand.ne no).2
    have no0 := k2'.free no
    have k3 := k2'.new (o := .lst []) no
    have k4 := k3.new (o := .tup [V.str (S own), .ref o]) ntp
    have ho4 : (upd (upd H2 o (.lst [])) tp (.tup [V.str (S own), .ref o])) o = some (.lst []) := by rw [upd_ne (ne_of_none upd_same ntp), upd_same]
    refine ⟨tp, _, rfl, SqT.of upd_same, rfl, _, _, rfl, _, _, rfl, rfl, ?_⟩
    refine ⟨_, rfl, a, ac, 7, rfl, k4.hand, by omega, by omega, fun H5 R k5 fr5 R0 R1 => ?_⟩
    have k5' := k4.trans k5
    refine ⟨6, R, rfl, rfl, 6 + R, rfl, by omega, by omega, ?_⟩
    refine for_range (n := (6 + R).toNat) (fun i σ H' => ∃ y3 y4 ps, σ = [some (.ref a), some (.str (S own)), some (.ref o), y3, y4, none] ∧ Keep a ac H H' ∧ H' o = some (.lst (txs ps)) ∧ ps.length ≤ i ∧ (0 < i → ps ≠ []) ∧ ps.Nodup ∧ ∀ p, p ∈ ps → p ≠ [] ∧ p.length ≤ 8 ∧ ∀ c, c ∈ p → c ∈ L8)
        ⟨none, none, [], rfl, k5', k5.keep _ _ oa ho4, Nat.le_refl _, fun h => absurd h (Nat.lt_irrefl _), List.nodup_nil, fun p h => nomatch h⟩ ?_ ?_
    · rintro i σ H2 hi ⟨y3, y4, ps, rfl, k2, ho2, li, ne, nd, each⟩
      refine ⟨⟨_, rfl⟩, _, rfl, a, ac, 4, rfl, k2.hand, by omega, by omega, fun H3 r k3 fr3 r0 r1 => ?_⟩
      have k3' := k2.trans k3
      have ho3 := k3.keep _ _ oa ho2
      refine ⟨5, r, rfl, rfl, 5 + r, rfl, by omega, by omega, fun D nD => ?_⟩
      have nD0 := k3'.free nD
      have nDa := (k3.hand.ne nD).1
      have nDc := (k3.hand.ne nD).2
      have nDo : o ≠ D := ne_of_none ho3 nD
      refine lc_range (lo := 0) (n := (5 + r).toNat) (fun j H' => Keep a ac H H' ∧ H' o = some (.lst (txs ps)) ∧ ∃ u : Wd, u.length = j ∧ (∀ c, c ∈ u → c ∈ own) ∧ H' D = some (.lst (txs (u.map fun c => [c]))))
        ⟨k3'.new nD, by rw [upd_ne nDo]; exact ho3, [], rfl, fun c h => (nomatch h), upd_same⟩ ?_ ?_
      · rintro j H4 hj ⟨k4, ho4, u, lu, mu, hD4⟩
        refine ⟨rfl, _, rfl, _, rfl, a, ac, _, rfl, k4.hand, .inl ⟨own, rfl, own0, by omega, fun H5 c k5 fr5 hc => ?_⟩⟩
        have hD5 := k5.keep _ _ nDa hD4
        refine ⟨_, hD5, ?_, (k4.trans k5).put nD0 nDa nDc, by rw [upd_ne nDo]; exact k5.keep _ _ oa ho4, u ++ [c], by rw [List.length_append, lu]; rfl, fun x hx => ?_, ?_⟩
        · rw [txs_len, List.length_map, lu]
          exact Nat.lt_of_lt_of_le (show _ < 1000000 by omega) (sl100 (Nat.le_refl _))
        · rcases List.mem_append.mp hx with h | h
          · exact mu x h
          · rw [List.mem_singleton.mp h]; exact hc
        · rw [upd_same]
          unfold txs
          rw [List.map_append, List.map_append]
          rfl
      · rintro H4 ⟨k4, ho4, u, lu, mu, hD4⟩
        rw [txs_S] at hD4
        refine ⟨_, D, _, rfl, rfl, .inl (SqL.of hD4), by rw [sum_S, flat_ones]; omega, ?_⟩
        rw [join0, flat_ones]
        refine ⟨_, rfl, _, rfl, o, _, rfl, .inl (SqL.of ho4), rfl, txs_flat _, _, rfl, ?_⟩
        rw [in_txs]
        by_cases hin : u ∈ ps
        · rw [decide_eq_true hin]
          exact iteF ⟨_, _, ps, rfl, k4, ho4, by omega, fun _ => List.ne_nil_of_mem hin, nd, each⟩
        · rw [decide_eq_false hin]
          refine iteT ⟨_, rfl, .inl ⟨rfl, _, SqL.of ho4⟩, _, rfl, o, _, _, rfl, rfl, ho4, ?_, ?_⟩
          · rw [txs_len]
            exact Nat.lt_of_lt_of_le (show _ < 1000000 by omega) (sl100 (Nat.le_refl _))
          · refine ⟨_, _, ps ++ [u], rfl, k4.put no0 oa oc, ?_, by rw [List.length_append]; exact Nat.succ_le_succ li, fun _ => by simp, ?_, fun p hp => ?_⟩
            · rw [upd_same]
              unfold txs
              rw [List.map_append]
              rfl
            · exact List.nodup_append.mpr ⟨nd, by simp, fun x hx y hy e2 => hin (by rw [List.mem_singleton.mp hy] at e2; exact e2 ▸ hx)⟩
            · rcases List.mem_append.mp hp with h | h
              · exact each p h
              · rw [List.mem_singleton.mp h]
                refine ⟨fun z => ?_, by omega, fun c hc => ownL c (mu c hc)⟩
                rw [z] at lu
                have : (5 + r).toNat = 0 := lu.symm
                omega
    · rintro σ H2 ⟨y3, y4, ps, rfl, k2, ho2, li, ne, nd, each⟩
      refine ⟨_, rfl, o, _, rfl, .inl ⟨SqL.of ho2, fun t nt => ?_⟩⟩
      exact q _ t ps (k2.new nt) (k2.free nt) upd_same ⟨ne (by omega), by omega, nd, each⟩
end
end K8
set_option Elab.async false
set_option linter.all false
set_option maxRecDepth 100000
namespace K8
open PySem PySem.Spec L2
open SX (S S_len S_cat S_inj)
open LamX (ExtN Tabs TabB TabS)
/-! ### keeping -/
theorem Tabs.but {T : List (Addr × Str)} {H H' : Hp} {a : Addr} {xs : List V} (t : Tabs T H) (ha : H a = some (.lst xs)) (k : ∀ b o, b ≠ a → H b = some o → H' b = some o) : Tabs T H' := fun p hp => by
  obtain ⟨ps, h1, h2, h3⟩ := t p hp
  refine ⟨ps, k _ _ (ne_of h1 ha (by intro z; cases z)) h1, h2, fun pos cv h => ?_⟩
  obtain ⟨c, h4, h5⟩ := h3 pos cv h
  exact ⟨c, h4, k _ _ (ne_of h5 ha (by intro z; cases z)) h5⟩
theorem Tabs.keep {T : List (Addr × Str)} {H H' : Hp} {a ac : Addr} (t : Tabs T H) (h : Hand H a ac) (k : Keep a ac H H') : Tabs T H' := by
  obtain ⟨cs, i, d, e, n, _, h2, _⟩ := h
  exact Tabs.but t h2 k.keep
theorem Hand.extN {H H' : Hp} {a ac : Addr} (h : Hand H a ac) (e : ExtN H H') : Hand H' a ac := by
  obtain ⟨cs, i, d, e', n, h1, h2, h3⟩ := h
  exact ⟨cs, i, d, e', n, h1, e _ _ h2 (fun _ z => nomatch z), e _ _ h3 (fun _ z => nomatch z)⟩
theorem NewN.ne {H : Hp} {p b : Addr} {o : HO} (h : NewN H p) (hb : H b = some o) (hn : ∀ ps, o ≠ .tbl ps) : p ≠ b := fun z => by
  rw [← z] at hb
  obtain ⟨ps, e⟩ := h _ hb
  exact hn ps e
theorem NewN.nh {H : Hp} {p a ac : Addr} (h : NewN H p) (hh : Hand H a ac) : p ≠ a ∧ p ≠ ac := by
  obtain ⟨cs, i, d, e', n, h1, h2, h3⟩ := hh
  exact ⟨h.ne h2 (fun _ z => nomatch z), h.ne h3 (fun _ z => nomatch z)⟩
theorem RestAt.extN {H H' : Hp} {v : V} {r : Option (Wd × Wd × Wd)} (h : RestAt H v r) (e : ExtN H H') : RestAt H' v r := by
  match r, h with
  | none, h => exact h
  | some (a, b, c), ⟨p, h1, h2⟩ => exact ⟨p, h1, e _ _ h2 (fun _ z => nomatch z)⟩
theorem leafS (z : Str) : Leaf (.str z) := .inr ⟨z, rfl⟩
theorem txs_leaf {H : Hp} {ks : List Wd} {n i : Nat} {x y : V} (h1 : (txs ks)[i]? = some x) (h2 : (txs ks)[i]? = some y) : Eqd H n x y := by
  cases h1.symm.trans h2
  obtain ⟨k, _, rfl⟩ := txs_get h1
  cases n with
  | zero => exact ⟨rfl, leafS _⟩
  | succ n => exact .inl ⟨rfl, leafS _⟩
theorem txs_eqd {H : Hp} {p p' : Addr} {ms : List Wd} (h : H p = some (.lst (txs ms))) (h' : H p' = some (.lst (txs ms))) (hl : ms.length ≤ 100000) : Eqd H 1 (.ref p) (.ref p') :=
  .inr ⟨p, p', _, _, rfl, rfl, .inl ⟨h, h'⟩, rfl, by rw [txs_len]; exact hl, fun i x y h1 h2 => txs_leaf h1 h2⟩
theorem rest_eqd {H : Hp} {l l' : Addr} {v v' : V} {r : Option (Wd × Wd × Wd)} (h : RestAt H v r) (h' : RestAt H v' r) (hl : H l = some (.lst [v])) (hl' : H l' = some (.lst [v'])) : Eqd H 2 (.ref l) (.ref l') := by
  refine .inr ⟨l, l', _, _, rfl, rfl, .inl ⟨hl, hl'⟩, rfl, (by show 1 ≤ 100000; decide), fun i x y h1 h2 => ?_⟩
  cases i with
  | succ i => simp at h1
  | zero =>
    cases h1
    cases h2
    match r, h, h' with
    | none, h, h' =>
      have e1 : v = .non := h
      have e2 : v' = .non := h'
      rw [e1, e2]
      exact .inl ⟨rfl, .inl rfl⟩
    | some (a, b, c), ⟨p, h1, h2⟩, ⟨p', h3, h4⟩ =>
      exact .inr ⟨p, p', _, _, h1, h3, .inr ⟨h2, h4⟩, rfl, (by show 3 ≤ 100000; decide), fun i x y e1 e2 => txs_leaf (ks := [a, b, c]) e1 e2⟩
/-- there are not many meetings -/
def layT (p q : Wd) (k : Nat) : Wd := p ++ q.drop ((p.drop k).take q.length).length
def allM (ps : List Wd) : List Wd := ps.flatMap fun p => ps.flatMap fun q => (List.range 8).map fun k => layT p q k
theorem meets_le {ps ms : List Wd} (o : Ok1 ps) (h : IsMeets ps ms) : ms.length ≤ 100000 := by
  have nd : ms.Nodup := h.1.imp fun {a b} (h : slt a b) => fun (e : a = b) => slt_irr a (by have h' := h; rw [← e] at h'; exact h')
  have le := nodup_le nd (ys := allM ps) fun t ht => by
    obtain ⟨i, j, p, q, k, h1, h2, h3, _, _, h6⟩ := (h.2 t).mp ht
    have mp := List.mem_of_getElem? h1
    have mq := List.mem_of_getElem? h2
    have := o.2.2 p mp
    exact List.mem_flatMap.mpr ⟨p, mp, List.mem_flatMap.mpr ⟨q, mq, List.mem_map.mpr ⟨k, List.mem_range.mpr (by omega), h6.symm⟩⟩⟩
  have b1 : ∀ p, p ∈ ps → (ps.flatMap fun q => (List.range 8).map fun k => layT p q k).length ≤ 96 := fun p _ => by
    have := flatMap_le (fun q => (List.range 8).map fun k => layT p q k) 8 ps (fun a _ => by rw [List.length_map, List.length_range]; exact Nat.le_refl 8)
    have l := o.1
    omega
  have b2 : (allM ps).length ≤ ps.length * 96 := flatMap_le _ 96 ps b1
  have l := o.1
  omega
section
variable {P : Program} {w : World} {K : PySem.W.Frag} {mg : Str → Option Value} {base : Heap}
/-- Book(..) -/
structure MkB (P : Program) (w : World) (K : PySem.W.Frag) (mg : Str → Option Value) (base : Heap) (C : Addr) : Prop where
  ex : ∃ f fd, Mk K C f ∧ FnOk P w K mg base CX0 3 f fd ["self", "pieces"] (spInit C) ∧ Binds K fd ["self", "pieces"] []
theorem pe_mk {X : Cx} {C : Addr} {x : Str} {p pos : Pos} {e : Expr} {es : List Expr} {t : TA} (G : MkB X.prog X.w X.K X.mg X.base C) (hr : Room 4 X.A) (hg : Gl X x) (hm : X.mg x = some (.ref C))
    (ha : PA X (e :: es) t) (hdb : (x == ("__debug__" : Str)) = false := by decide) (he : starEach (e :: es) X.env = (false, eval e X.env) :: starEach es X.env := by rfl) (hpl : (backTo pos (starEach es X.env)).any (·.1) = false := by rfl) :
    PE X (.Call (.Name x p) (e :: es) [] pos) (tMake C (spInit C) [] E0 t) := by
  obtain ⟨f, fd, h1, h2, h3⟩ := G.ex
  exact pe_make h1 h2 hr hg hm h3 .nil pass0 ha hdb he hpl
/-- the new book behind its making -/
theorem book_made {C x dx t : Addr} {H H1 : Hp} {ps : List Wd} (nx : H x = none) (ndx : H dx = none) (ht : H t = some (.tup (txs ps))) (k : ∀ b o, b ≠ x → (upd (upd H dx (.own x)) x (.ins C dx [])) b = some o → H1 b = some o) (hx : H1 x = some (.ins C dx [("pieces", .ref t)])) :
    Same H H1 ∧ BookAt C H1 x ps := by
  have s : Same H H1 := fun b o e => by
    have h1 : b ≠ x := ne_of_none e nx
    have h2 : b ≠ dx := ne_of_none e ndx
    refine k b o h1 ?_
    rw [upd_ne h1, upd_ne h2]
    exact e
  exact ⟨s, dx, t, hx, s _ _ ht⟩
abbrev sGM : Stmt := top 37
abbrev nGM : List Str := ["_law_hand_here", "_law_pieces_here", "_law_book", "_law_due"]
def spGM (P1 P2 : Addr) : Sp := fun vs H Q _ => ∃ (a ac : Addr), vs = [.ref a] ∧ Hand H a ac ∧ Tabs (TT P1 P2) H ∧ ∀ H', Hand H' a ac → Tabs (TT P1 P2) H' → Q (.bl true) H'
theorem scGM : FnScope nGM ["_law_hand_here"] (defScope sGM) := ⟨rfl, rfl, rfl, by decide +kernel, rfl, by decide +kernel, by decide +kernel⟩
theorem good8 {ps : List Wd} (d : Drawn L8 ps) : GoodPs ps ∧ Ok1 ps := by
  have l := List.length_pos_iff.mpr d.ne
  refine ⟨⟨d.nd, l, d.le, fun p hp => ?_⟩, d.le, fun p hp => (d.each p hp).1, fun p hp => (d.each p hp).2.1⟩
  obtain ⟨h1, h2, h3⟩ := d.each p hp
  exact ⟨h3, List.length_pos_iff.mpr h1, h2⟩
theorem ok_gm {f C P1 P2 : Addr} {fd : FuncData} (F : Fun K "_law_great_meetings" "_law_great_meetings" sGM f fd) (T : BkT K mg C) (GB : MkB P w K mg base C) (GP : Cal P w K mg base "_law_great_pieces" 3 ["_law_hand_here"] (spPieces L8)) (GL : Cal P w K mg base "_law_meetings" 2 ["_law_pieces_here"] spLMeets)
    (GM : Cal P w K mg base "meetings" 2 ["book"] (spMeets P1 P2 C)) (GR : Cal P w K mg base "one_rest" 3 ["book"] (spRest P1 P2 C)) (GT : Cal P w K mg base "_law_two_ends" 4 ["_law_pieces_here", "_law_texts_here"] (spTwo K))
    (GI1 : Cal P w K mg base "_law_is" 2 ["_law_told", "_law_due"] (spIs 1)) (GI2 : Cal P w K mg base "_law_is" 3 ["_law_told", "_law_due"] (spIs 2)) :
    FnOk P w K mg base CX0 5 f fd ["_law_hand_here"] (spGM P1 P2) := by
  refine F.ok scGM (fun vs H Q E h => ?_) (fun cdv A outer s H vs Q E hr h => ?_)
  · obtain ⟨a, ac, rfl, _⟩ := h
    rfl
  · obtain ⟨a, ac, rfl, hh, hT, q⟩ := h
    refine ⟨_, pss_cons (ps_set (i := 1) scGM.nd rfl (Or.inl rfl) (pe_cal GP (hr.mono (by decide)) (by rfl) (pa_cons (pv 0) pa_nil)))
      (pss_cons (ps_par (i := 2) (j := 3) rfl scGM.nd rfl rfl (by decide) rfl rfl (pa_cons (pe_mk GB hr (by rfl) T.mgC (pa_cons (pv 1) pa_nil)) (pa_cons (pe_cal GL (hr.mono (by decide)) (by rfl) (pa_cons (pv 1) pa_nil)) pa_nil)) (by rfl))
      (pss_one (ps_ret (pe_and (pe_cal GI1 (hr.mono (by decide)) (by rfl) (pa_cons (pe_cal GM (hr.mono (by decide)) (by rfl) (pa_cons (pv 2) pa_nil)) (pa_cons (pv 3) pa_nil)))
        (pe_one (pe_cal GI2 (hr.mono (by decide)) (by rfl) (pa_cons (pe_lst (pa_cons (pe_cal GR (hr.mono (by decide)) (by rfl) (pa_cons (pv 2) pa_nil)) pa_nil)) (pa_cons (pe_lst (pa_cons (pe_cal GT hr (by rfl) (pa_cons (pv 1) (pa_cons (pv 3) pa_nil))) pa_nil)) pa_nil)))))))), ?_⟩
    refine ⟨_, rfl, a, ac, rfl, hh, fun H1 t ps k1 nt ht dr => ?_⟩
    obtain ⟨gp, o1⟩ := good8 dr
    have T1 := Tabs.keep hT hh k1
    refine ⟨_, rfl, fun x dx nx ndx nex => ?_⟩
    have ht' : (upd (upd H1 dx (.own x)) x (.ins C dx [])) t = some (.tup (txs ps)) := by
      rw [upd_ne (ne_of_none ht nx), upd_ne (ne_of_none ht ndx)]
      exact ht
    refine ⟨x, dx, t, ps, rfl, upd_same, ht', gp, fun H2 k2 hx => ⟨rfl, ?_⟩⟩
    obtain ⟨s2, bk⟩ := book_made nx ndx ht k2 hx
    refine ⟨_, rfl, t, ps, rfl, s2 _ _ ht, o1, fun H3 p ms s3 np hp im => ⟨_, _, rfl, ?_⟩⟩
    have h3 : Hand H3 a ac := (k1.hand.same s2).same s3
    have T3 : Tabs (TT P1 P2) H3 := (T1.ext s2).ext s3
    refine ⟨_, rfl, x, ps, rfl, bk.same s3, o1, T3, fun H4 p' ms' e4 T4 n4 hp' im' => ?_⟩
    obtain rfl := im.uniq im'
    have hp4 := e4 _ _ hp (fun _ z => nomatch z)
    refine ⟨_, rfl, .ref p', .ref p, rfl, txs_eqd hp' hp4 (meets_le o1 im), fun H5 s5 => ⟨true, rfl, iteT ?_⟩⟩
    have e5 : ExtN H3 H5 := e4.trans (extN_of s5)
    have T5 : Tabs (TT P1 P2) H5 := T4.ext s5
    refine ⟨_, rfl, x, ps, rfl, (bk.same s3).extN e5, o1, T5, fun H6 v ms' r e6 T6 im' fi rv => ?_⟩
    obtain rfl := im.uniq im'
    refine ⟨(by show 1 ≤ sizeLine; decide), fun l1 nl1 => ?_⟩
    have e7 : ExtN H3 (upd H6 l1 (.lst [v])) := (e5.trans e6).trans (extN_of (same_upd nl1))
    have T7 : Tabs (TT P1 P2) (upd H6 l1 (.lst [v])) := T6.ext (same_upd nl1)
    refine ⟨_, rfl, _, rfl, t, p, ps, ms, rfl, e7 _ _ (s3 _ _ (s2 _ _ ht)) (fun _ z => nomatch z), e7 _ _ hp (fun _ z => nomatch z), o1, fun u hu => meet_len o1 ((im.2 u).mp hu), fun H8 v' r' s8 fi' rv' _ => ?_⟩
    obtain rfl := fi.uniq fi'
    refine ⟨(by show 1 ≤ sizeLine; decide), fun l2 nl2 => ?_⟩
    have s9 : Same (upd H6 l1 (.lst [v])) (upd H8 l2 (.lst [v'])) := s8.trans (same_upd nl2)
    refine ⟨.ref l1, .ref l2, rfl, rest_eqd (rv.extN ((extN_of (same_upd nl1)).trans (extN_of s9))) (rv'.extN (extN_of (same_upd nl2))) (s9 _ _ upd_same) upd_same, fun H10 s10 => ?_⟩
    exact q H10 (h3.extN (e7.trans (extN_of (s9.trans s10)))) (T7.ext (s9.trans s10))
end
end K8
set_option Elab.async false
set_option linter.all false
set_option maxRecDepth 100000
set_option maxHeartbeats 4000000
namespace K8
open PySem PySem.Spec L2
open SX (S S_len S_cat S_inj)
open LamX (ExtN Tabs TabB TabS)
/-- the pieces of a turn -/
structure Fin6 (ps : List Wd) : Prop where
  nd : ps.Nodup
  ne : ps ≠ []
  le : ps.length ≤ 12
  each : ∀ p, p ∈ ps → p ≠ [] ∧ p.length ≤ 4 ∧ ∀ c, c ∈ p → c ∈ L6
theorem L6_8 : ∀ c ∈ L6, c ∈ L8 := by decide
theorem flat_le (k : Nat) : ∀ ps : List Wd, (∀ p, p ∈ ps → p.length ≤ k) → ps.flatten.length ≤ ps.length * k
  | [], _ => by simp
  | p :: r, h => by
    rw [List.flatten_cons, List.length_append, List.length_cons, Nat.succ_mul]
    have := flat_le k r (fun q hq => h q (List.mem_cons_of_mem _ hq))
    have := h p (List.mem_cons_self ..)
    omega
theorem Fin6.good {ps : List Wd} (d : Fin6 ps) : GoodPs ps ∧ Ok1 ps ∧ ps.flatten.length < 64 := by
  have l := List.length_pos_iff.mpr d.ne
  refine ⟨⟨d.nd, l, d.le, fun p hp => ?_⟩, ⟨d.le, fun p hp => (d.each p hp).1, fun p hp => by have := (d.each p hp).2.1; omega⟩, ?_⟩
  · obtain ⟨h1, h2, h3⟩ := d.each p hp
    exact ⟨fun c hc => L6_8 c (h3 c hc), List.length_pos_iff.mpr h1, by omega⟩
  · have := flat_le 4 ps fun p hp => (d.each p hp).2.1
    have := d.le
    omega
def mostL : List Nat := [0, 8, 6, 4, 3, 3, 2, 2, 2]
theorem mostL_ok : ∀ n, n < 7 → 0 < n → mostL.getD n 0 ≤ 8 ∧ n ^ mostL.getD n 0 ≤ 1000 := by decide
theorem own_facts {ps : List Wd} {own : Wd} (d : Fin6 ps) (pw : own.Pairwise (· < ·)) (mem : ∀ c, c ∈ own ↔ ∃ p, p ∈ ps ∧ c ∈ p) : own ≠ [] ∧ own.length ≤ 6 := by
  constructor
  · cases e : ps with
    | nil => exact absurd e d.ne
    | cons p r =>
      have mp : p ∈ ps := by rw [e]; exact List.mem_cons_self ..
      have hp := (d.each p mp).1
      cases e2 : p with
      | nil => exact absurd e2 hp
      | cons c q => exact List.ne_nil_of_mem ((mem c).mpr ⟨p, mp, by rw [e2]; exact List.mem_cons_self ..⟩)
  · refine nodup_le (ys := L6) (pw.imp fun h => Nat.ne_of_lt h) fun c hc => ?_
    obtain ⟨p, hp, h⟩ := (mem c).mp hc
    exact (d.each p hp).2.2 c h
theorem own_eq {ps : List Wd} {own own' : Wd} (pw : own.Pairwise (· < ·)) (mem : ∀ c, c ∈ own ↔ ∃ p, p ∈ ps ∧ c ∈ p) (pw' : own'.Pairwise (· < ·)) (mem' : ∀ c, c ∈ own' ↔ ∃ p, p ∈ ps ∧ c ∈ p) : own = own' :=
  sorted_unique (r := (· < ·)) Nat.lt_irrefl (fun _ _ _ => Nat.lt_trans) pw pw' fun c => (mem c).trans (mem' c).symm
def forBody : Stmt → List Stmt
  | .For (body := b) .. => b
  | _ => []
section
variable {P : Program} {w : World} {K : PySem.W.Frag} {mg : Str → Option Value} {base : Heap}
abbrev sLaw : Stmt := top 38
abbrev bLaw : List Stmt := forBody ((defBody sLaw).getD 2 (.Pass ⟨0, 0, 0, 0⟩))
abbrev nLaw : List Str := ["_law_script", "_law_hand_here", "_law_turn", "_law_pieces_here", "_law_kind", "_law_more", "_law_book", "_law_due", "_law_told", "_law_first", "_law_answer", "_law_most", "_law_short", "_law_piece", "_law_letter"]
theorem scLaw : FnScope nLaw ["_law_script"] (defScope sLaw) := ⟨rfl, rfl, rfl, by decide +kernel, rfl, by decide +kernel, by decide +kernel⟩
/-- the slots -/
abbrev sg (v0 : V) (a : Addr) (y2 y3 y4 y5 y6 y7 y8 y9 y10 y11 y12 : Option V) : L2.St := [some v0, some (.ref a), y2, y3, y4, y5, y6, y7, y8, y9, y10, y11, y12, none, none]
/-- what a turn leaves -/
def Turn6 (T : List (Addr × Str)) (v0 : V) (a ac : Addr) (σ : L2.St) (H : Hp) : Prop := (∃ y2 y3 y4 y5 y6 y7 y8 y9 y10 y11 y12, σ = sg v0 a y2 y3 y4 y5 y6 y7 y8 y9 y10 y11 y12) ∧ Hand H a ac ∧ Tabs T H
/-- the callees of the law -/
structure Callees (P : Program) (w : World) (K : PySem.W.Frag) (mg : Str → Option Value) (base : Heap) (C P1 P2 : Addr) : Prop where
  hand : Cal P w K mg base "_law_hand" 1 ["_law_script"] (spHand K)
  draw : Cal P w K mg base "_law_draw" 1 ["_law_hand_here", "_law_many"] spDraw
  great : Cal P w K mg base "_law_great_meetings" 5 ["_law_hand_here"] (spGM P1 P2)
  pieces : Cal P w K mg base "_law_pieces" 3 ["_law_hand_here"] (spPieces L6)
  own : Cal P w K mg base "_law_own" 1 ["_law_pieces_here"] spOwn
  book : MkB P w K mg base C
  lmeets : Cal P w K mg base "_law_meetings" 2 ["_law_pieces_here"] spLMeets
  meets : Cal P w K mg base "meetings" 2 ["book"] (spMeets P1 P2 C)
  is1 : Cal P w K mg base "_law_is" 2 ["_law_told", "_law_due"] (spIs 1)
  is2 : Cal P w K mg base "_law_is" 3 ["_law_told", "_law_due"] (spIs 2)
  two : Cal P w K mg base "_law_two_ends" 4 ["_law_pieces_here", "_law_texts_here"] (spTwo K)
  rest : Cal P w K mg base "one_rest" 3 ["book"] (spRest P1 P2 C)
  texts : Cal P w K mg base "_law_texts" 1 ["_law_own_here", "_law_most"] spTexts
theorem nonR (p : Addr) : (!decide (V.ref p = V.non)) = true := by
  rw [decide_eq_false (fun h => nomatch h)]
  rfl
theorem strOk_S {l : Wd} (h : ∀ c, c ∈ l → c ∈ L6) : PyData.strOk (S l) = true := by
  have hL : ∀ c ∈ L6, c < 0x110000 := by decide
  unfold PyData.strOk
  rw [Array.all_eq_true']
  intro c hc
  exact decide_eq_true (hL c (h c (by simpa [S] using hc)))
theorem shaped3 {l e f : Wd} (h1 : ∀ c, c ∈ l → c ∈ L6) (h2 : ∀ c, c ∈ e → c ∈ L6) (h3 : ∀ c, c ∈ f → c ∈ L6) : SeqAt.shaped (.tuple [.str (S l), .str (S e), .str (S f)]) = true := by
  have e0 : PyData.canLay0 (.tuple [.str (S l), .str (S e), .str (S f)]) = true := by
    show (PyData.strOk (S l) && (PyData.strOk (S e) && (PyData.strOk (S f) && true))) = true
    rw [strOk_S h1, strOk_S h2, strOk_S h3]
    rfl
  show (PyData.canLay0 (.tuple [.str (S l), .str (S e), .str (S f)]) && decide (PyData.depth (.tuple [.str (S l), .str (S e), .str (S f)]) ≤ 64)) = true
  rw [e0]
  rfl
theorem segC {f C P1 P2 : Addr} {cdv : Value} {A : Around} {outer : List Env} {s : Shared} {H0 : Hp} {E : XK} (B : Blt mg) (T : BkT K mg C) (G : Callees P w K mg base C P1 P2) (hr : Room 5 (A.deeper (PyProof.Rows.envOfC "law" (defScope sLaw) s.heap.objs.size f cdv))) :
    ∃ t, PSs (cxOf CX0 P w K mg base nLaw "law" (defScope sLaw) f cdv A outer s H0 E).nox (bLaw.drop 10) t ∧
      ∀ (D : Ends) (H : Hp) (v0 : V) (a ac tp b p : Addr) (ps ms : List Wd) y2 y4 y5 y8 y9 y10 y11 y12, Hand H a ac → Tabs (TT P1 P2) H → H tp = some (.tup (txs ps)) → BookAt C H b ps → H p = some (.lst (txs ms)) → IsMeets ps ms → Fin6 ps →
        (∀ σ' H', Turn6 (TT P1 P2) v0 a ac σ' H' → D.nx σ' H') → t D (sg v0 a y2 (some (.ref tp)) y4 y5 (some (.ref b)) (some (.ref p)) y8 y9 y10 y11 y12) H := by
  refine ⟨_, pss_cons (ps_par (i := 9) (j := 10) rfl scLaw.nd rfl rfl (by decide) rfl rfl (pa_cons (pe_cal G.two (hr.mono (by decide)) (by rfl) (pa_cons (pv 3) (pa_cons (pv 7) pa_nil))) (pa_cons (pe_cal G.rest (hr.mono (by decide)) (by rfl) (pa_cons (pv 6) pa_nil)) pa_nil)) (by rfl))
    (pss_cons (ps_if (pt_not (pt_val (pe_cal G.is2 (hr.mono (by decide)) (by rfl) (pa_cons (pe_lst (pa_cons (pv 10) pa_nil)) (pa_cons (pe_lst (pa_cons (pv 9) pa_nil)) pa_nil))))) (pss_one (ps_ret pe_bl)) pss_nil)
    (pss_cons (ps_set (i := 11) scLaw.nd rfl (Or.inl rfl) (pe_ix ix_list (pe_lst (pa_cons pe_int (pa_cons pe_int (pa_cons pe_int (pa_cons pe_int (pa_cons pe_int (pa_cons pe_int (pa_cons pe_int (pa_cons pe_int (pa_cons pe_int pa_nil)))))))))) (pe_callB call_len (by rfl) B.len PySem.boot_len (pa_cons (pe_cal G.own (hr.mono (by decide)) (by rfl) (pa_cons (pv 3) pa_nil)) pa_nil)) (fun _ _ => rfl)))
    (pss_cons (ps_set (i := 12) scLaw.nd rfl (Or.inl rfl) (pe_cal G.two (hr.mono (by decide)) (by rfl) (pa_cons (pv 3) (pa_cons (pe_cal G.texts (hr.mono (by decide)) (by rfl) (pa_cons (pe_cal G.own (hr.mono (by decide)) (by rfl) (pa_cons (pv 3) pa_nil)) (pa_cons (pv 11) pa_nil))) pa_nil))))
    (pss_cons (ps_if (PW.pt (pw_and (pt_cmp (pc_notN (pv 9))) (pw_and (pt_cmpR op_le (pe_callB call_len (by rfl) B.len PySem.boot_len (pa_cons (pe_ix ix_tup (pv 9) pe_int (fun _ _ => rfl)) pa_nil)) (pv 11) (nomark _)) (pw_and1 (pt_cmpR (op_neD hr.units) (pv 12) (pv 9) (nomark _)))))) (pss_one (ps_ret pe_bl)) pss_nil)
    (pss_one (ps_if (PW.pt (pw_and (pt_cmp (pc_notN (pv 12))) (pw_and1 (PW.pt (pw_or (pt_cmp (pc_isN (pv 9))) (pw_or1 (pt_cmpR op_gt (pe_callB call_len (by rfl) B.len PySem.boot_len (pa_cons (pe_ix ix_tup (pv 9) pe_int (fun _ _ => rfl)) pa_nil)) (pv 11) (nomark _)))))))) (pss_one (ps_ret pe_bl)) pss_nil)))))), ?_⟩
  intro D H v0 a ac tp b p ps ms y2 y4 y5 y8 y9 y10 y11 y12 hh hT ht hb hp im fin hnx
  obtain ⟨gp, o1, fl64⟩ := fin.good
  refine ⟨_, rfl, _, rfl, tp, p, ps, ms, rfl, ht, hp, o1, fun u hu => meet_len o1 ((im.2 u).mp hu), fun H1 v r s1 fi rv _ => ?_⟩
  refine ⟨_, rfl, b, ps, rfl, hb.same s1, o1, hT.ext s1, fun H2 v' ms' r' e2 T2 im' fi' rv' => ⟨_, _, rfl, ?_⟩⟩
  obtain rfl := im.uniq im'
  obtain rfl := fi.uniq fi'
  refine ⟨_, rfl, (by show 1 ≤ sizeLine; decide), fun l1 n1 => ?_⟩
  have s3 := same_upd (o := .lst [v']) n1
  refine ⟨_, rfl, (by show 1 ≤ sizeLine; decide), fun l2 n2 => ?_⟩
  have s4 := s3.trans (same_upd (o := .lst [v]) n2)
  have e4 := extN_of s4
  refine ⟨.ref l1, .ref l2, rfl, rest_eqd (rv'.extN e4) ((rv.extN e2).extN e4) (same_upd n2 _ _ upd_same) upd_same, fun H5 s5 => ⟨true, rfl, iteF ?_⟩⟩
  have s6 := s4.trans s5
  have rv5 := (rv.extN e2).extN (extN_of s6)
  have hh5 := ((hh.same s1).extN e2).same s6
  have T5 := T2.ext s6
  have ht5 := s6 _ _ (e2 _ _ (s1 _ _ ht) (fun _ z => nomatch z))
  refine ⟨(by show 9 ≤ sizeLine; decide), fun l3 n3 => ?_⟩
  have s7 := same_upd (o := .lst (mostL.map fun n => V.int (n : Nat))) n3
  refine ⟨_, rfl, tp, ps, rfl, s7 _ _ ht5, fl64, fun H8 own s8 pw mem => ?_⟩
  obtain ⟨own0, own6⟩ := own_facts fin pw mem
  have lp := List.length_pos_iff.mpr own0
  obtain ⟨m8, mx⟩ := mostL_ok own.length (by omega) lp
  have hmost : (mostL.map fun n => V.int (n : Nat))[own.length]? = some (V.int ((mostL.getD own.length 0 : Nat) : Int)) := by
    rw [List.getElem?_map, List.getD_eq_getElem?_getD, List.getElem?_eq_getElem (show own.length < mostL.length by show own.length < 9; omega)]
    rfl
  refine ⟨_, _, rfl, len_s (sl100 (by omega)), l3, _, _, _, rfl, rfl, SqL.of (s8 _ _ upd_same), atI_nat hmost, ?_⟩
  have s9 := s7.trans s8
  refine ⟨_, rfl, _, rfl, tp, ps, rfl, s9 _ _ ht5, fl64, fun H10 own' s10 pw' mem' => ?_⟩
  obtain rfl := own_eq pw mem pw' mem'
  have s11 := s9.trans s10
  refine ⟨_, rfl, own, mostL.getD own.length 0, rfl, pw, own0, by omega, m8, mx, fun H12 l4 ts s12 n4 hts it => ?_⟩
  have s13 := s11.trans s12
  refine ⟨tp, l4, ps, ts, rfl, s13 _ _ ht5, hts, o1, fun u hu => by have := ((it.2 u).mp hu).1; omega, fun H14 v2 qr s14 fq rq _ => ?_⟩
  have s15 := s13.trans s14
  have rv15 := rv5.extN (extN_of s15)
  have fin2 : ∀ σ', (∃ y2 y3 y4 y5 y6 y7 y8 y9 y10 y11 y12, σ' = sg v0 a y2 y3 y4 y5 y6 y7 y8 y9 y10 y11 y12) → D.nx σ' H14 := fun σ' h => hnx σ' H14 ⟨h, hh5.same s15, T5.ext s15⟩
  obtain ⟨kA, kB⟩ := short_is_first o1.2.1 mem im it fi fq
  -- the last two questions
  match r, qr, fi, fq, rv15, rq, kA, kB with
  | none, none, fi, fq, rv15, rq, kA, kB =>
    have e1 : v = .non := rv15
    have e2 : v2 = .non := rq
    subst e1
    subst e2
    refine ⟨_, rfl, _, rfl, iteF (iteF ?_)⟩
    refine ⟨_, rfl, _, rfl, iteF (iteF ?_)⟩
    exact fin2 _ ⟨_, _, _, _, _, _, _, _, _, _, _, rfl⟩
  | none, some (l, e, f), fi, fq, rv15, rq, kA, kB =>
    obtain ⟨l', e', f', z, _⟩ := kB l e f rfl
    cases z
  | some (l, e, f), none, fi, fq, rv15, rq, kA, kB =>
    obtain ⟨pp, rfl, hpp⟩ := rv15
    have e2 : v2 = .non := rq
    subst e2
    have no : ¬ l.length ≤ mostL.getD own.length 0 := fun z => by cases kA l e f rfl z
    have ll : l.length ≤ 15 := meet_len o1 ((im.2 l).mp (by obtain ⟨pre, post, r, e1, _⟩ := fi; rw [e1]; simp))
    refine ⟨_, rfl, _, rfl, ?_⟩
    rw [nonR]
    refine iteT ⟨_, rfl, pp, _, _, _, rfl, rfl, SqT.of hpp, atI_nat (j := 0) rfl, _, _, rfl, len_s (sl100 (by omega)), _, rfl, _, _, rfl, rfl, _, rfl, ?_⟩
    rw [decide_eq_false (by omega)]
    refine iteF (iteF ?_)
    refine ⟨_, rfl, _, rfl, iteF (iteF ?_)⟩
    exact fin2 _ ⟨_, _, _, _, _, _, _, _, _, _, _, rfl⟩
  | some (l, e, f), some (l2, e2, f2), fi, fq, rv15, rq, kA, kB =>
    obtain ⟨l', e', f', z, lm⟩ := kB l2 e2 f2 rfl
    cases z
    have z := kA l e f rfl lm
    cases z
    obtain ⟨pp, rfl, hpp⟩ := rv15
    obtain ⟨pq, rfl, hpq⟩ := rq
    refine ⟨_, rfl, _, rfl, ?_⟩
    rw [nonR]
    refine iteT ⟨_, rfl, pp, _, _, _, rfl, rfl, SqT.of hpp, atI_nat (j := 0) rfl, _, _, rfl, len_s (sl100 (by omega)), _, rfl, _, _, rfl, rfl, _, rfl, ?_⟩
    rw [decide_eq_true (by omega)]
    have sh : SeqAt.shaped (.tuple [.str (S l), .str (S e), .str (S f)]) = true := by
      obtain ⟨pre, post, rr, e1, _, ie⟩ := fi
      have hl : ∀ c, c ∈ l → c ∈ L6 := fun c hc => by
        obtain ⟨p', hp', h⟩ := ((im.2 l).mp (by rw [e1]; simp)).own c hc
        exact (fin.each p' hp').2.2 c h
      exact shaped3 hl (fun c hc => hl c (((ie.2 e).mp (by simp)).1.sub.subset hc)) (fun c hc => hl c (((ie.2 f).mp (by simp)).1.sub.subset hc))
    refine iteT ⟨_, rfl, _, rfl, .tuple [.str (S l), .str (S e), .str (S f)], .tuple [.str (S l), .str (S e), .str (S f)], .tup (SqT.of hpq) (.cons (.str _) (.cons (.str _) (.cons (.str _) .nil))), .tup (SqT.of hpp) (.cons (.str _) (.cons (.str _) (.cons (.str _) .nil))), sh, sh, _, rfl, ?_⟩
    have ev : PyData.eqv (.tuple [.str (S l), .str (S e), .str (S f)]) (.tuple [.str (S l), .str (S e), .str (S f)]) = true := by
      show ((S l == S l) && ((S e == S e) && ((S f == S f) && true))) = true
      rw [SX.S_beq_eq, SX.S_beq_eq, SX.S_beq_eq, decide_eq_true rfl, decide_eq_true rfl, decide_eq_true rfl]
      rfl
    rw [ev]
    refine iteF ?_
    refine ⟨_, rfl, _, rfl, ?_⟩
    rw [nonR]
    refine iteT ⟨_, rfl, _, rfl, iteF ?_⟩
    refine ⟨_, rfl, pp, _, _, _, rfl, rfl, SqT.of hpp, atI_nat (j := 0) rfl, _, _, rfl, len_s (sl100 (by omega)), _, rfl, _, _, rfl, rfl, _, rfl, ?_⟩
    rw [decide_eq_false (by omega)]
    refine iteF ?_
    exact fin2 _ ⟨_, _, _, _, _, _, _, _, _, _, _, rfl⟩
end
end K8
set_option Elab.async false
set_option linter.all false
set_option maxRecDepth 100000
set_option maxHeartbeats 4000000
namespace K8
open PySem PySem.Spec L2
open SX (S S_len S_cat S_inj)
open LamX (ExtN Tabs TabB TabS)
section
variable {P : Program} {w : World} {K : PySem.W.Frag} {mg : Str → Option Value} {base : Heap}
theorem segB {f C P1 P2 : Addr} {cdv : Value} {A : Around} {outer : List Env} {s : Shared} {H0 : Hp} {E : XK} (B : Blt mg) (T : BkT K mg C) (G : Callees P w K mg base C P1 P2) (hr : Room 5 (A.deeper (PyProof.Rows.envOfC "law" (defScope sLaw) s.heap.objs.size f cdv))) :
    ∃ t, PSs (cxOf CX0 P w K mg base nLaw "law" (defScope sLaw) f cdv A outer s H0 E).nox (bLaw.drop 5) t ∧
      ∀ (D : Ends) (H : Hp) (v0 : V) (a ac tp : Addr) (ps : List Wd) y2 y4 y5 y6 y7 y8 y9 y10 y11 y12, Hand H a ac → Tabs (TT P1 P2) H → H tp = some (.tup (txs ps)) → Fin6 ps →
        (∀ σ' H', Turn6 (TT P1 P2) v0 a ac σ' H' → D.nx σ' H') → t D (sg v0 a y2 (some (.ref tp)) y4 y5 y6 y7 y8 y9 y10 y11 y12) H := by
  obtain ⟨tC, hC, kC⟩ := segC (s := s) (H0 := H0) (E := E) (outer := outer) B T G hr
  refine ⟨_, pss_cons (ps_par (i := 6) (j := 7) rfl scLaw.nd rfl rfl (by decide) rfl rfl (pa_cons (pe_mk G.book (hr.mono (by decide)) (by rfl) T.mgC (pa_cons (pv 3) pa_nil)) (pa_cons (pe_cal G.lmeets (hr.mono (by decide)) (by rfl) (pa_cons (pv 3) pa_nil)) pa_nil)) (by rfl))
    (pss_cons (ps_set (i := 8) scLaw.nd rfl (Or.inl rfl) (pe_cal G.meets (hr.mono (by decide)) (by rfl) (pa_cons (pv 6) pa_nil)))
    (pss_cons (ps_if (pt_not (pt_val (pe_cal G.is1 (hr.mono (by decide)) (by rfl) (pa_cons (pv 8) (pa_cons (pv 7) pa_nil))))) (pss_one (ps_ret pe_bl)) pss_nil)
    (pss_cons (ps_expr (pe_bm PySem.F.plainAttrs_list PySem.F.slot_list_append PySem.F.type_list_append mt_append (pv 8) (pa_cons pe_non pa_nil)))
    (pss_cons (ps_if (pt_not (pt_val (pe_cal G.is1 (hr.mono (by decide)) (by rfl) (pa_cons (pe_cal G.meets (hr.mono (by decide)) (by rfl) (pa_cons (pv 6) pa_nil)) (pa_cons (pv 7) pa_nil))))) (pss_one (ps_ret pe_bl)) pss_nil) hC)))), ?_⟩
  intro D H v0 a ac tp ps y2 y4 y5 y6 y7 y8 y9 y10 y11 y12 hh hT ht fin hnx
  obtain ⟨gp, o1, fl64⟩ := fin.good
  refine ⟨_, rfl, fun x dx nx ndx nex => ?_⟩
  have ht' : (upd (upd H dx (.own x)) x (.ins C dx [])) tp = some (.tup (txs ps)) := by
    rw [upd_ne (ne_of_none ht nx), upd_ne (ne_of_none ht ndx)]
    exact ht
  refine ⟨x, dx, tp, ps, rfl, upd_same, ht', gp, fun H2 k2 hx => ⟨rfl, ?_⟩⟩
  obtain ⟨s2, bk⟩ := book_made nx ndx ht k2 hx
  refine ⟨_, rfl, tp, ps, rfl, s2 _ _ ht, o1, fun H3 p ms s3 np hp im => ⟨_, _, rfl, ?_⟩⟩
  have h3 : Hand H3 a ac := (hh.same s2).same s3
  have T3 : Tabs (TT P1 P2) H3 := (hT.ext s2).ext s3
  have bk3 := bk.same s3
  have ht3 := s3 _ _ (s2 _ _ ht)
  refine ⟨_, rfl, x, ps, rfl, bk3, o1, T3, fun H4 p' ms' e4 T4 n4 hp' im' => ?_⟩
  obtain rfl := im.uniq im'
  have hp4 := e4 _ _ hp (fun _ z => nomatch z)
  have lms := meets_le o1 im
  refine ⟨_, rfl, _, rfl, .ref p', .ref p, rfl, txs_eqd hp' hp4 lms, fun H5 s5 => ⟨true, rfl, iteF ?_⟩⟩
  have hp5 := s5 _ _ hp'
  refine ⟨_, rfl, .inl ⟨rfl, _, SqL.of hp5⟩, p', _, _, rfl, rfl, hp5, ?_, ?_⟩
  · rw [txs_len]
    exact Nat.lt_of_lt_of_le (show _ < 1000000 by omega) (sl100 (Nat.le_refl _))
  have e6 : ExtN H3 (upd H5 p' (.lst (txs ms ++ [.non]))) := extN_put (e4.trans (extN_of s5)) n4
  have T6 : Tabs (TT P1 P2) (upd H5 p' (.lst (txs ms ++ [.non]))) := Tabs.but (T4.ext s5) hp5 fun b o nb e => by rw [upd_ne nb]; exact e
  refine ⟨_, rfl, x, ps, rfl, bk3.extN e6, o1, T6, fun H7 p2 ms2 e7 T7 n7 hp2 im2 => ?_⟩
  obtain rfl := im.uniq im2
  have e8 := e6.trans e7
  refine ⟨_, rfl, .ref p2, .ref p, rfl, txs_eqd hp2 (e8 _ _ hp (fun _ z => nomatch z)) lms, fun H9 s9 => ⟨true, rfl, iteF ?_⟩⟩
  have e10 := e8.trans (extN_of s9)
  exact kC D H9 v0 a ac tp x p ps ms y2 y4 y5 _ y9 y10 y11 y12 (h3.extN e10) (T7.ext s9) (e10 _ _ ht3 (fun _ z => nomatch z)) (bk3.extN e10) (e10 _ _ hp (fun _ z => nomatch z)) im fin hnx
theorem seg4 {f C P1 P2 : Addr} {cdv : Value} {A : Around} {outer : List Env} {s : Shared} {H0 : Hp} {E : XK} (B : Blt mg) (T : BkT K mg C) (G : Callees P w K mg base C P1 P2) (hr : Room 5 (A.deeper (PyProof.Rows.envOfC "law" (defScope sLaw) s.heap.objs.size f cdv))) :
    ∃ t, PSs (cxOf CX0 P w K mg base nLaw "law" (defScope sLaw) f cdv A outer s H0 E).nox (bLaw.drop 4) t ∧
      ∀ (D : Ends) (H : Hp) (v0 : V) (a ac tp : Addr) (ps : List Wd) (kd : Int) y2 y5 y6 y7 y8 y9 y10 y11 y12, Hand H a ac → Tabs (TT P1 P2) H → H tp = some (.tup (txs ps)) → Fin6 ps → ps.length ≤ 6 →
        (∀ σ' H', Turn6 (TT P1 P2) v0 a ac σ' H' → D.nx σ' H') → t D (sg v0 a y2 (some (.ref tp)) (some (.int kd)) y5 y6 y7 y8 y9 y10 y11 y12) H := by
  obtain ⟨tB, hB, kB⟩ := segB (s := s) (H0 := H0) (E := E) (outer := outer) B T G hr
  refine ⟨_, pss_cons (ps_if (pt_cmpR op_eq (pv 4) pe_int (nomark _))
      (pss_one (ps_set (i := 3) scLaw.nd rfl (Or.inr rfl) (pe_op op_catA (pv 3) (pe_callTy call_tuple_of (by rfl) B.tuple (by decide +kernel) (pa_cons
        (pe_lc (own := [("_law_letter", 14)]) (g := gName 14) (tt := tTest (tOp (rIn K true) _ _)) rfl scLaw.nd (pi_str (pe_cal G.own (hr.mono (by decide)) (by rfl) (pa_cons (pv 3) pa_nil))) (blkOk_by (N := nLaw) (sc := defScope sLaw) (by decide +kernel))
          (fun _ _ _ _ _ => pg_name (i := 14) scLaw.nd rfl (Or.inl rfl))
          (fun _ _ _ _ _ => pts_one (pt_cmpR op_notIn_seq (pv 14) (pv 3) rfl))
          (fun _ _ _ _ _ => pv 14)) pa_nil))))) pss_nil) hB, ?_⟩
  intro D H v0 a ac tp ps kd y2 y5 y6 y7 y8 y9 y10 y11 y12 hh hT ht fin l6 hnx
  obtain ⟨gp, o1, fl64⟩ := fin.good
  refine ⟨_, rfl, rfl, _, rfl, ite2 (fun _ => ?_) (fun _ => ?_)⟩
  · refine ⟨_, rfl, _, rfl, tp, ps, rfl, ht, fl64, fun H1 own s1 pw mem => ⟨_, rfl, fun D1 nD => ?_⟩⟩
    obtain ⟨own0, own6⟩ := own_facts fin pw mem
    refine lc_it walk_str (fun i H' => Same H H' ∧ H' D1 = some (.lst (txs (((own.take i).filter fun c => !decide ([c] ∈ ps)).map fun c => [c]))))
      ⟨s1.trans (same_upd nD), upd_same⟩ (fun _ _ _ _ => trivial) ?_ ?_
    · rintro i x H2 H3 hi ⟨s2, hD⟩ ⟨rfl, c, hc, rfl⟩
      have hc' : own[i]? = some c := by rw [cps_at] at hc; exact hc
      have e1 : (own.take (i + 1)).filter (fun c => !decide ([c] ∈ ps)) = (own.take i).filter (fun c => !decide ([c] ∈ ps)) ++ (if (!decide ([c] ∈ ps)) = true then [c] else []) := filt_take _ hc'
      refine ⟨rfl, _, rfl, _, rfl, tp, _, rfl, .inr (SqT.of (s2 _ _ ht)), rfl, txs_flat _, _, rfl, ?_⟩
      rw [show (⟨#[c]⟩ : Str) = S [c] from rfl, in_txs]
      refine ite2 (fun h => ?_) (fun h => ?_)
      · have h2 : (!decide ([c] ∈ ps)) = true := h
        refine ⟨_, rfl, _, hD, ?_, same_put s2 (s1.free nD), ?_⟩
        · rw [txs_len, List.length_map]
          have := List.length_filter_le (fun c => !decide ([c] ∈ ps)) (own.take i)
          rw [List.length_take] at this
          exact Nat.lt_of_lt_of_le (show _ < 1000000 by omega) (sl100 (Nat.le_refl _))
        · rw [upd_same, e1, if_pos h2]
          unfold txs
          rw [List.map_append, List.map_append]
          rfl
      · have h2 : ¬ (!decide ([c] ∈ ps)) = true := h
        refine ⟨s2, ?_⟩
        rw [e1, if_neg h2, List.append_nil]
        exact hD
    · rintro H2 ⟨s2, hD⟩
      rw [cells_size, List.take_length] at hD
      refine ⟨D1, _, rfl, .inl ⟨SqL.of hD, fun t2 nt2 => ?_⟩⟩
      have s3 := s2.trans (same_upd (o := .tup (txs ((own.filter fun c => !decide ([c] ∈ ps)).map fun c => [c]))) nt2)
      have lf : (own.filter fun c => !decide ([c] ∈ ps)).length ≤ 6 := by
        have := List.length_filter_le (fun c => !decide ([c] ∈ ps)) own
        omega
      refine ⟨tp, t2, _, _, rfl, rfl, SqT.of (s3 _ _ ht), SqT.of upd_same, ?_, fun z => ?_, fun _ z => ?_, fun _ _ t3 nt3 => ?_⟩
      · rw [txs_len, txs_len, List.length_map]
        exact sl100 (by omega)
      · exact absurd (List.map_eq_nil_iff.mp z) fin.ne
      · exact kB D _ v0 a ac tp ps y2 _ y5 y6 y7 y8 y9 y10 y11 y12 (hh.same s3) (hT.ext s3) (s3 _ _ ht) fin hnx
      · have s4 := s3.trans (same_upd (o := .tup (txs ps ++ txs ((own.filter fun c => !decide ([c] ∈ ps)).map fun c => [c]))) nt3)
        refine kB D _ v0 a ac t3 (ps ++ (own.filter fun c => !decide ([c] ∈ ps)).map fun c => [c]) y2 _ y5 y6 y7 y8 y9 y10 y11 y12 (hh.same s4) (hT.ext s4) ?_ ⟨?_, by simp [fin.ne], ?_, fun p hp => ?_⟩ hnx
        · rw [upd_same]
          unfold txs
          rw [List.map_append]
        · refine List.nodup_append.mpr ⟨fin.nd, ?_, fun x hx y hy e => ?_⟩
          · rw [List.nodup_iff_pairwise_ne, List.pairwise_map]
            exact (pw.filter _).imp fun h e => Nat.ne_of_lt h (List.cons.inj e).1
          · obtain ⟨c, hc, rfl⟩ := List.mem_map.mp hy
            have h2 := (List.mem_filter.mp hc).2
            rw [e] at hx
            rw [decide_eq_true hx] at h2
            cases h2
        · rw [List.length_append, List.length_map]
          omega
        · rcases List.mem_append.mp hp with h | h
          · exact fin.each p h
          · obtain ⟨c, hc, rfl⟩ := List.mem_map.mp h
            obtain ⟨p', hp', h'⟩ := (mem c).mp (List.mem_filter.mp hc).1
            refine ⟨by simp, by show 1 ≤ 4; decide, fun d hd => ?_⟩
            rw [List.mem_singleton.mp hd]
            exact (fin.each p' hp').2.2 c h'
  · exact kB D H v0 a ac tp ps y2 _ y5 y6 y7 y8 y9 y10 y11 y12 hh hT ht fin hnx
/-- the pieces of at most four letters, five at most -/
def few (ps : List Wd) : List Wd := (ps.filter fun p => decide (((p.length : Nat) : Int) < 5)).take 5
theorem few_ok {ps : List Wd} (d : Drawn L6 ps) : (few ps).Nodup ∧ (few ps).length ≤ 5 ∧ ∀ p, p ∈ few ps → p ≠ [] ∧ p.length ≤ 4 ∧ ∀ c, c ∈ p → c ∈ L6 := by
  refine ⟨(d.nd.filter _).sublist (List.take_sublist _ _), by unfold few; rw [List.length_take]; omega, fun p hp => ?_⟩
  obtain ⟨h1, h2⟩ := List.mem_filter.mp (List.mem_of_mem_take hp)
  obtain ⟨h3, h4, h5⟩ := d.each p h1
  have := of_decide_eq_true h2
  exact ⟨h3, by omega, h5⟩
/-- at most five of at most four letters -/
structure Few (ps : List Wd) : Prop where
  nd : ps.Nodup
  le : ps.length ≤ 5
  each : ∀ p, p ∈ ps → p ≠ [] ∧ p.length ≤ 4 ∧ ∀ c, c ∈ p → c ∈ L6
theorem Few.fin {ps : List Wd} (f : Few ps) (h : ps ≠ []) : Fin6 ps := ⟨f.nd, h, by have := f.le; omega, f.each⟩
theorem Few.app {ps : List Wd} {m : Wd} (f : Few ps) (hm : m ≠ [] ∧ m.length ≤ 4 ∧ ∀ c, c ∈ m → c ∈ L6) (h : m ∉ ps) : Fin6 (ps ++ [m]) := by
  refine ⟨List.nodup_append.mpr ⟨f.nd, by simp, fun x hx y hy e => h (by rw [List.mem_singleton.mp hy] at e; exact e ▸ hx)⟩, by simp, by rw [List.length_append, List.length_singleton]; have := f.le; omega, fun p hp => ?_⟩
  rcases List.mem_append.mp hp with h | h
  · exact f.each p h
  · rw [List.mem_singleton.mp h]; exact hm
theorem seg3 {f C P1 P2 : Addr} {cdv : Value} {A : Around} {outer : List Env} {s : Shared} {H0 : Hp} {E : XK} (B : Blt mg) (T : BkT K mg C) (G : Callees P w K mg base C P1 P2) (hr : Room 5 (A.deeper (PyProof.Rows.envOfC "law" (defScope sLaw) s.heap.objs.size f cdv))) :
    ∃ t, PSs (cxOf CX0 P w K mg base nLaw "law" (defScope sLaw) f cdv A outer s H0 E).nox (bLaw.drop 3) t ∧
      ∀ (D : Ends) (H : Hp) (v0 : V) (a ac tp : Addr) (ps : List Wd) (kd : Int) (m : Wd) y2 y6 y7 y8 y9 y10 y11 y12, Hand H a ac → Tabs (TT P1 P2) H → H tp = some (.tup (txs ps)) → Few ps → m ≠ [] ∧ m.length ≤ 4 ∧ (∀ c, c ∈ m → c ∈ L6) →
        (∀ σ' H', Turn6 (TT P1 P2) v0 a ac σ' H' → D.nx σ' H') → t D (sg v0 a y2 (some (.ref tp)) (some (.int kd)) (some (.str (S m))) y6 y7 y8 y9 y10 y11 y12) H := by
  obtain ⟨t4, h4, k4⟩ := seg4 (s := s) (H0 := H0) (E := E) (outer := outer) B T G hr
  refine ⟨_, pss_cons (ps_if (PW.pt (pw_or (pt_cmpR op_eq (pe_callB call_len (by rfl) B.len PySem.boot_len (pa_cons (pv 3) pa_nil)) pe_int (nomark _)) (pw_or1 (PW.pt (pw_and (pt_cmpR op_eq (pv 4) pe_int (nomark _)) (pw_and1 (pt_cmpR op_notIn_seq (pv 5) (pv 3) rfl)))))))
      (pss_one (ps_set (i := 3) scLaw.nd rfl (Or.inr rfl) (pe_op op_catA (pv 3) (pe_tup (pa_cons (pv 5) pa_nil))))) pss_nil) h4, ?_⟩
  intro D H v0 a ac tp ps kd m y2 y6 y7 y8 y9 y10 y11 y12 hh hT ht few hm hnx
  have fl := few.le
  refine ⟨_, rfl, _, _, rfl, .inr ⟨_, SqT.of ht, rfl⟩, rfl, _, rfl, ?_⟩
  rw [txs_len]
  by_cases hps : ps = []
  · subst hps
    refine iteT (iteT ?_)
    refine ⟨_, rfl, _, rfl, (by show 1 ≤ sizeLine; decide), fun b nb => ?_⟩
    have s1 := same_upd (o := .tup [V.str (S m)]) nb
    refine ⟨tp, b, _, _, rfl, rfl, SqT.of (s1 _ _ ht), SqT.of upd_same, (by show 0 + 1 ≤ sizeLine; decide), fun _ => ?_, fun z => absurd rfl z, fun z => absurd rfl z⟩
    exact k4 D _ v0 a ac b [m] kd y2 _ y6 y7 y8 y9 y10 y11 y12 (hh.same s1) (hT.ext s1) upd_same (few.app hm (by simp)) (by show 1 ≤ 6; decide) hnx
  · have lp := List.length_pos_iff.mpr hps
    rw [show decide (V.int ((ps.length : Nat) : Int) = V.int 0) = false from decide_eq_false fun z => by have := V.int.inj z; omega]
    refine iteF ⟨_, rfl, rfl, _, rfl, ite2 (fun _ => ?_) (fun _ => ?_)⟩
    · refine ⟨_, rfl, _, rfl, tp, _, rfl, .inr (SqT.of ht), rfl, txs_flat _, _, rfl, ?_⟩
      rw [in_txs]
      by_cases hin : m ∈ ps
      · rw [decide_eq_true hin]
        exact iteF (k4 D H v0 a ac tp ps kd y2 _ y6 y7 y8 y9 y10 y11 y12 hh hT ht (few.fin hps) (by omega) hnx)
      · rw [decide_eq_false hin]
        refine iteT ⟨_, rfl, _, rfl, (by show 1 ≤ sizeLine; decide), fun b nb => ?_⟩
        have s1 := same_upd (o := .tup [V.str (S m)]) nb
        refine ⟨tp, b, _, _, rfl, rfl, SqT.of (s1 _ _ ht), SqT.of upd_same, ?_, fun z => absurd (List.map_eq_nil_iff.mp z) hps, fun _ z => (nomatch z), fun _ _ t3 nt3 => ?_⟩
        · rw [txs_len]
          exact sl100 (by show ps.length + 1 ≤ 1000000; omega)
        · have s2 := s1.trans (same_upd (o := .tup (txs ps ++ [V.str (S m)])) nt3)
          refine k4 D _ v0 a ac t3 (ps ++ [m]) kd y2 _ y6 y7 y8 y9 y10 y11 y12 (hh.same s2) (hT.ext s2) ?_ (few.app hm hin) (by rw [List.length_append, List.length_singleton]; omega) hnx
          rw [upd_same]
          unfold txs
          rw [List.map_append]
          rfl
    · exact iteF (k4 D H v0 a ac tp ps kd y2 _ y6 y7 y8 y9 y10 y11 y12 hh hT ht (few.fin hps) (by omega) hnx)
theorem seg2 {f C P1 P2 : Addr} {cdv : Value} {A : Around} {outer : List Env} {s : Shared} {H0 : Hp} {E : XK} (B : Blt mg) (T : BkT K mg C) (G : Callees P w K mg base C P1 P2) (hr : Room 5 (A.deeper (PyProof.Rows.envOfC "law" (defScope sLaw) s.heap.objs.size f cdv))) :
    ∃ t, PSs (cxOf CX0 P w K mg base nLaw "law" (defScope sLaw) f cdv A outer s H0 E).nox (bLaw.drop 2) t ∧
      ∀ (D : Ends) (H : Hp) (v0 : V) (a ac tp : Addr) (ps : List Wd) (kd : Int) y2 y5 y6 y7 y8 y9 y10 y11 y12, Hand H a ac → Tabs (TT P1 P2) H → H tp = some (.tup (txs ps)) → Few ps →
        (∀ σ' H', Turn6 (TT P1 P2) v0 a ac σ' H' → D.nx σ' H') → t D (sg v0 a y2 (some (.ref tp)) (some (.int kd)) y5 y6 y7 y8 y9 y10 y11 y12) H := by
  obtain ⟨t3, h3, k3⟩ := seg3 (s := s) (H0 := H0) (E := E) (outer := outer) B T G hr
  refine ⟨_, pss_cons (ps_set (i := 5) scLaw.nd rfl (Or.inl rfl) (pe_ifExp (pt_cmpR op_gt (pe_callB call_len (by rfl) B.len PySem.boot_len (pa_cons (pv 3) pa_nil)) pe_int (nomark _)) (pe_revS (pe_ix ix_tup (pv 3) pe_int (fun _ _ => rfl))) pe_str)) h3, ?_⟩
  intro D H v0 a ac tp ps kd y2 y5 y6 y7 y8 y9 y10 y11 y12 hh hT ht few hnx
  refine ⟨_, rfl, _, _, rfl, .inr ⟨_, SqT.of ht, rfl⟩, _, _, rfl, rfl, _, rfl, ?_⟩
  rw [txs_len]
  refine ite2 (fun h => ?_) (fun h => ?_)
  · have lp : 0 < ps.length := by have := of_decide_eq_true h; omega
    have hp : ps[0]? = some ps[0] := List.getElem?_eq_getElem lp
    obtain ⟨m1, m2, m3⟩ := few.each ps[0] (List.getElem_mem lp)
    refine ⟨_, rfl, tp, _, _, _, rfl, rfl, SqT.of ht, atI_nat (j := 0) (get_txs hp), _, rfl, sl100 (by omega), ?_⟩
    exact k3 D H v0 a ac tp ps kd ps[0].reverse y2 y6 y7 y8 y9 y10 y11 y12 hh hT ht few ⟨fun z => m1 (List.reverse_eq_nil_iff.mp z), by rw [List.length_reverse]; exact m2, fun c hc => m3 c (List.mem_reverse.mp hc)⟩ hnx
  · exact k3 D H v0 a ac tp ps kd [97, 98] y2 y6 y7 y8 y9 y10 y11 y12 hh hT ht few ⟨by simp, by decide, by decide⟩ hnx
theorem seg0 {f C P1 P2 : Addr} {cdv : Value} {A : Around} {outer : List Env} {s : Shared} {H0 : Hp} {E : XK} (B : Blt mg) (T : BkT K mg C) (G : Callees P w K mg base C P1 P2) (hr : Room 5 (A.deeper (PyProof.Rows.envOfC "law" (defScope sLaw) s.heap.objs.size f cdv))) :
    ∃ t, PSs (cxOf CX0 P w K mg base nLaw "law" (defScope sLaw) f cdv A outer s H0 E).nox bLaw t ∧
      ∀ (D : Ends) (H : Hp) (v0 : V) (a ac : Addr) y2 y3 y4 y5 y6 y7 y8 y9 y10 y11 y12, Hand H a ac → Tabs (TT P1 P2) H →
        (∀ σ' H', Turn6 (TT P1 P2) v0 a ac σ' H' → D.nx σ' H') → t D (sg v0 a y2 y3 y4 y5 y6 y7 y8 y9 y10 y11 y12) H := by
  obtain ⟨t2, h2, k2'⟩ := seg2 (s := s) (H0 := H0) (E := E) (outer := outer) B T G hr
  refine ⟨_, pss_cons (ps_asg (pe_tup (pa_cons (pe_cal G.pieces (hr.mono (by decide)) (by rfl) (pa_cons (pv 1) pa_nil)) (pa_cons (pe_cal G.draw (hr.mono (by decide)) (by rfl) (pa_cons (pv 1) (pa_cons pe_int pa_nil))) pa_nil))) (pg_tup rfl (pgs_cons (pg_name (i := 3) scLaw.nd rfl (Or.inr rfl)) (pgs_cons (pg_name (i := 4) scLaw.nd rfl (Or.inl rfl)) pgs_nil))))
    (pss_cons (ps_set (i := 3) scLaw.nd rfl (Or.inr rfl) (pe_slice sl_tupA (pe_callTy call_tuple_of (by rfl) B.tuple (by decide +kernel) (pa_cons
        (pe_lc (own := [("_law_piece", 13)]) (g := gName 13) (tt := tTest (tOp _ (tCB (rLen K) _) _)) rfl scLaw.nd (pi_tup (pv 3)) (blkOk_by (N := nLaw) (sc := defScope sLaw) (by decide +kernel))
          (fun _ _ _ _ _ => pg_name (i := 13) scLaw.nd rfl (Or.inl rfl))
          (fun _ _ _ _ _ => pts_one (pt_cmpR op_lt (pe_callB call_len (by rfl) B.len PySem.boot_len (pa_cons (pv 13) pa_nil)) pe_int (nomark _)))
          (fun _ _ _ _ _ => pv 13)) pa_nil)) po_none (po_some pe_int)))
    h2), ?_⟩
  intro D H v0 a ac y2 y3 y4 y5 y6 y7 y8 y9 y10 y11 y12 hh hT hnx
  refine ⟨_, rfl, a, ac, rfl, hh, fun H1 t ps k1 nt ht dr => ?_⟩
  have T1 := Tabs.keep hT hh k1
  refine ⟨_, rfl, a, ac, 6, rfl, k1.hand, by omega, by omega, fun H2 kd k2 fr2 r0 r1 => ?_⟩
  have T2 := Tabs.keep T1 k1.hand k2
  have ta : t ≠ a := (hh.ne nt).1
  have ht2 := k2.keep _ _ ta ht
  refine ⟨(by show 2 ≤ sizeLine; decide), fun tq ntq => ?_⟩
  have s3 := same_upd (o := .tup [.ref t, .int kd]) ntq
  refine ⟨tq, _, rfl, SqT.of upd_same, rfl, _, _, rfl, _, _, rfl, rfl, ?_⟩
  have hh3 := k2.hand.same s3
  have T3 := T2.ext s3
  have ht3 := s3 _ _ ht2
  refine ⟨_, rfl, t, rfl, ⟨_, SqT.of ht3⟩, fun D1 nD => ?_⟩
  have lps := dr.le
  refine lc_tup (K := K) (a := t) (xs := txs ps) (fun i H' => Same (upd H2 tq (.tup [.ref t, .int kd])) H' ∧ H' D1 = some (.lst (txs ((ps.take i).filter fun p => decide (((p.length : Nat) : Int) < 5)))))
    ⟨same_upd nD, upd_same⟩ (fun i H' _ ⟨s, _⟩ => SqT.of (s _ _ ht3)) ?_ ?_
  · rintro i x H4 hx ⟨s4, hD⟩
    obtain ⟨p, hp, rfl⟩ := txs_get hx
    have p8 := (dr.each p (List.mem_of_getElem? hp)).2.1
    have e1 : (ps.take (i + 1)).filter (fun p => decide (((p.length : Nat) : Int) < 5)) = (ps.take i).filter (fun p => decide (((p.length : Nat) : Int) < 5)) ++ (if (decide (((p.length : Nat) : Int) < 5)) = true then [p] else []) := filt_take _ hp
    refine ⟨rfl, _, rfl, _, _, rfl, len_s (sl100 (by omega)), _, _, rfl, rfl, _, rfl, ?_⟩
    refine ite2 (fun h => ?_) (fun h => ?_)
    · refine ⟨_, rfl, _, hD, ?_, same_put s4 nD, ?_⟩
      · rw [txs_len]
        have := List.length_filter_le (fun p : Wd => decide (((p.length : Nat) : Int) < 5)) (ps.take i)
        rw [List.length_take] at this
        exact Nat.lt_of_lt_of_le (show _ < 1000000 by omega) (sl100 (Nat.le_refl _))
      · rw [upd_same, e1, if_pos h]
        unfold txs
        rw [List.map_append]
        rfl
    · refine ⟨s4, ?_⟩
      rw [e1, if_neg h, List.append_nil]
      exact hD
  · rintro H4 ⟨s4, hD⟩
    rw [txs_len, List.take_length] at hD
    refine ⟨D1, _, rfl, .inl ⟨SqL.of hD, fun t2a nt2 => ?_⟩⟩
    have s5 := s4.trans (same_upd (o := .tup (txs (ps.filter fun p => decide (((p.length : Nat) : Int) < 5)))) nt2)
    obtain ⟨f1, f2, f3⟩ := few_ok dr
    have e5 : HT.sIx (txs (ps.filter fun p => decide (((p.length : Nat) : Int) < 5))).length 0 none = 0 := HT.sIx_none _ _
    refine ⟨5, rfl, t2a, _, rfl, SqT.of upd_same, fun z => ?_, fun _ t3 nt3 => ?_⟩
    · have z2 := z.2
      rw [show (5 : Int) = ((5 : Nat) : Int) from rfl, HT.sIx_nat] at z2
      have e9 : (ps.filter fun p => decide (((p.length : Nat) : Int) < 5)).length ≤ 5 := by
        have e8 := txs_len (ps.filter fun p => decide (((p.length : Nat) : Int) < 5))
        exact Nat.le_trans (Nat.le_of_eq (e8.symm.trans z2.symm)) (Nat.min_le_left _ _)
      have ef : few ps = ps.filter fun p => decide (((p.length : Nat) : Int) < 5) := List.take_of_length_le e9
      exact k2' D _ v0 a ac t2a (few ps) kd y2 y5 y6 y7 y8 y9 y10 y11 y12 (hh3.same s5) (T3.ext s5) (by rw [upd_same, ef]) ⟨f1, f2, f3⟩ hnx
    · have s6 := s5.trans (same_upd (o := .tup (cutV (txs (ps.filter fun p => decide (((p.length : Nat) : Int) < 5))) none (some 5))) nt3)
      refine k2' D _ v0 a ac t3 (few ps) kd y2 y5 y6 y7 y8 y9 y10 y11 y12 (hh3.same s6) (T3.ext s6) ?_ ⟨f1, f2, f3⟩ hnx
      rw [upd_same, show (5 : Int) = ((5 : Nat) : Int) from rfl, cutV_txs]
      rfl

/-! ### the law -/
def spLaw (P1 P2 : Addr) (K : PySem.W.Frag) : Sp := fun vs H Q _ => ∃ (l : Addr) (ns : List Int), vs = [.ref l] ∧ SqL K H l (ns.map V.int) ∧ ns.length ≤ 63 ∧ Tabs (TT P1 P2) H ∧ ∀ H', Q (.bl true) H'
theorem ok_law {f C P1 P2 : Addr} {fd : FuncData} (F : Fun K "law" "law" sLaw f fd) (B : Blt mg) (T : BkT K mg C) (G : Callees P w K mg base C P1 P2) : FnOk P w K mg base CX0 6 f fd ["_law_script"] (spLaw P1 P2 K) := by
  refine F.ok scLaw (fun vs H Q E h => ?_) (fun cdv A outer s H vs Q E hr h => ?_)
  · obtain ⟨l, ns, rfl, _⟩ := h
    rfl
  · obtain ⟨l, ns, rfl, hl, hn, hT, q⟩ := h
    obtain ⟨t0, h0, k0⟩ := seg0 (s := s) (H0 := H) (E := E) (outer := outer) B T G hr
    refine ⟨_, pss_cons (ps_set (i := 1) scLaw.nd rfl (Or.inl rfl) (pe_cal G.hand (hr.mono (by decide)) (by rfl) (pa_cons (pv 0) pa_nil)))
      (pss_cons (ps_if (PW.pt (pw_and (pt_cmpR op_eq (pe_cal G.draw (hr.mono (by decide)) (by rfl) (pa_cons (pv 1) (pa_cons pe_int pa_nil))) pe_int (nomark _)) (pw_and1 (pt_not (pt_val (pe_cal G.great (hr.mono (by decide)) (by rfl) (pa_cons (pv 1) pa_nil))))))) (pss_one (ps_ret pe_bl)) pss_nil)
      (pss_cons (ps_for PassesOwn.never rfl (pi_range1 rfl B.range (pa_cons pe_int pa_nil)) (pg_name (i := 2) scLaw.nd rfl (Or.inl rfl)) h0)
      (pss_one (ps_ret pe_bl)))), ?_⟩
    refine ⟨_, rfl, l, ns, rfl, hl, hn, fun H1 a ac s1 na nac hh => ?_⟩
    have T1 := hT.ext s1
    refine ⟨_, rfl, a, ac, 6, rfl, hh, by omega, by omega, fun H2 r k2 fr r0 r1 => ?_⟩
    have T2 := Tabs.keep T1 hh k2
    have loop : ∀ (H3 : Hp), Hand H3 a ac → Tabs (TT P1 P2) H3 → ∀ {D : Ends} {g : TG}, (∀ v σ H Q, Q (σ.set 2 (some v)) H → g v σ H Q) → (∀ σ H, D.nx σ H) →
        ∃ W : Nat → Nat → L2.St → Hp → Prop, (∃ m, W 0 m (sg (.ref l) a none none none none none none none none none none none) H3) ∧ ∀ i m σ H, W i m σ H →
          ((Itr 0 2).stop i H ∧ D.nx σ H) ∨ ((Itr 0 2).go i H ∧ ∃ N : L2.St → Hp → Prop, (∀ σ' H', N σ' H' → ∃ m', m' < m ∧ W (i + 1) m' σ' H') ∧ ∀ x H', (Itr 0 2).yld i H x H' → g x σ H' fun σ2 H2 => t0 { D with nx := N, ct := N, bk := D.nx } σ2 H2) := by
      intro H3 hh3 T3 D g hg hD
      refine for_range (lo := 0) (n := 2) (fun i σ H => Turn6 (TT P1 P2) (.ref l) a ac σ H) ⟨⟨_, _, _, _, _, _, _, _, _, _, _, rfl⟩, hh3, T3⟩ ?_ (fun σ H _ => hD σ H)
      rintro i σ H hi ⟨⟨y2, y3, y4, y5, y6, y7, y8, y9, y10, y11, y12, rfl⟩, hh4, T4⟩
      refine hg _ _ _ _ ?_
      exact k0 _ H (.ref l) a ac _ y3 y4 y5 y6 y7 y8 y9 y10 y11 y12 hh4 T4 fun σ' H' h => h
    refine ⟨rfl, _, rfl, ite2 (fun _ => ?_) (fun _ => ?_)⟩
    · refine ⟨_, rfl, a, ac, rfl, k2.hand, T2, fun H3 hh3 T3 => ⟨true, rfl, iteF ?_⟩⟩
      exact ⟨2, rfl, by decide, by decide, loop H3 hh3 T3 (fun _ _ _ _ h => h) (fun _ _ => q _)⟩
    · exact ⟨2, rfl, by decide, by decide, loop H2 k2.hand T2 (fun _ _ _ _ h => h) (fun _ _ => q _)⟩
end
end K8
set_option Elab.async false
set_option linter.all false
set_option maxRecDepth 100000
set_option maxHeartbeats 4000000
namespace K8
open PySem PySem.Spec L2
open LamX (ExtN Tabs TabB TabS)
/-- a def of the text, as the top has left it -/
structure DefAt (K : PySem.W.Frag) (h : Heap) (x : Str) (st : Stmt) (f : Addr) : Prop where
  ns : PySem.W.nsIn K mainGlobals x = some (some (.ref f))
  fn : ∃ fd, Fun K x x st f fd
theorem def_at {K : PySem.W.Frag} {h : Heap} {x : Str} {st : Stmt} {f : Addr} {oc : Value} {od an : Option Addr} {osl : Array (Option Value)} {kV doc pm cdv ct : Value} (a : PySem.W.nsIn K mainGlobals x = some (some (.ref f))) (l : K.lookup f = some ⟨oc, od, .func (PySem.W.fnOf x x (defArgs st) (defBody st) (defScope st) .none kV doc pm an cdv ct), osl⟩)
    (c : PySem.W.codeIn K cdv x = true) (k : PySem.W.keepIn K (.ref f) = true) : DefAt K h x st f := ⟨a, _, fun_mk l c k⟩
structure DefC (K : PySem.W.Frag) (h : Heap) (x : Str) (st : Stmt) (f c : Addr) : Prop where
  ns : PySem.W.nsIn K mainGlobals x = some (some (.ref f))
  fn : ∃ fd, FunC K x x st f c fd
theorem def_c {K : PySem.W.Frag} {h : Heap} {x : Str} {st : Stmt} {f ca : Addr} {oc : Value} {od an : Option Addr} {osl : Array (Option Value)} {kV doc pm ct : Value} (a : PySem.W.nsIn K mainGlobals x = some (some (.ref f))) (l : K.lookup f = some ⟨oc, od, .func (PySem.W.fnOf x x (defArgs st) (defBody st) (defScope st) .none kV doc pm an (.ref ca) ct), osl⟩)
    (c : PySem.W.codeIn K (.ref ca) x = true) (k : PySem.W.keepIn K (.ref f) = true) : DefC K h x st f ca := ⟨a, _, ⟨⟨_, _, _, _, _, _, _, _, rfl, l, c⟩, k⟩⟩
theorem cal_of {P : Program} {w : World} {K : PySem.W.Frag} {mg : Str → Option Value} {base : Heap} {x : Str} {k : Nat} {ps : List Str} {sp : Sp} {f : Addr} {fd : FuncData} (o : FnOk P w K mg base CX0 k f fd ps sp) (g : mg x = some (.ref f)) (kp : PySem.W.keepIn K (.ref f) = true) (b : Binds K fd ps []) : Cal P w K mg base x k ps sp := ⟨f, fd, o, g, kp, b⟩

theorem all_mk {l : PySem.W.OpenLaw} {w : World} {K : PySem.W.Frag} {h : Heap} {mg : Str → Option Value} {fa C fI c1 c2 P1 P2 : Addr} {fIL fIP fRS fRK fAL fEA fMT fMS fOR fLH fLD fLA fLI fLP fLS fLK fLL fLO fLE fLT fLW fLM fLG fL2 fGP fGM fLW9 : Addr} {od an : Option Addr} {osl : Array (Option Value)} {oc kV doc pm cdv ct : Value} {t1 t2 t3 : Tok} (X : K.In h) (G : h.Ns mainGlobals mg) (hfa : mg "law" = some (.ref fa))
    (dIL : DefAt K h "is_log" sIsLog fIL)
    (dIP : DefAt K h "is_piece" sIsPiece fIP)
    (dRS : DefAt K h "raw_strikes" sRaw fRS)
    (dRK : DefAt K h "raw_struck" sStruck fRK)
    (dAL : DefAt K h "all_left" sAll fAL)
    (dEA : DefC K h "ends_among" sEnds fEA c1)
    (dMT : DefAt K h "meeting" sMeet fMT)
    (dMS : DefC K h "meetings" sMeets fMS c2)
    (dOR : DefAt K h "one_rest" sRest fOR)
    (dLH : DefAt K h "_law_hand" sHand fLH)
    (dLD : DefAt K h "_law_draw" sDraw fLD)
    (dLA : DefAt K h "_law_any" sAny fLA)
    (dLI : DefAt K h "_law_is" sIs fLI)
    (dLP : DefAt K h "_law_pieces" sPieces fLP)
    (dLS : DefAt K h "_law_strikes" sLStrikes fLS)
    (dLK : DefAt K h "_law_struck" sLStruck fLK)
    (dLL : DefAt K h "_law_all_left" sLAll fLL)
    (dLO : DefAt K h "_law_shortest" sShort fLO)
    (dLE : DefAt K h "_law_ends" sLEnds fLE)
    (dLT : DefAt K h "_law_texts" sTexts fLT)
    (dLW : DefAt K h "_law_own" sOwn fLW)
    (dLM : DefAt K h "_law_met" sMet fLM)
    (dLG : DefAt K h "_law_meetings" sLMeets fLG)
    (dL2 : DefAt K h "_law_two_ends" sTwo fL2)
    (dGP : DefAt K h "_law_great_pieces" sGPieces fGP)
    (dGM : DefAt K h "_law_great_meetings" sGM fGM)
    (dLW9 : DefAt K h "law" sLaw fLW9)
    (aC : PySem.W.nsIn K mainGlobals "Book" = some (some (.ref C))) (aI : PySem.W.findIn K (.ref C) "__init__" = some (some (.ref fI))) (iI : PySem.W.isFn K (.ref fI) = true) (lI : K.lookup fI = some ⟨oc, od, .func (PySem.W.fnOf "__init__" "Book.__init__" (defArgs sInit) (defBody sInit) (defScope sInit) .none kV doc pm an cdv ct), osl⟩) (cI : PySem.W.codeIn K cdv "Book.__init__" = true) (kI : PySem.W.keepIn K (.ref fI) = true)
    (pg : PySem.W.plainGet K C Str.empty = true) (hd : PySem.W.hasDictIn K C = true) (po : PySem.W.plainOver K C = true) (sa : PySem.W.findIn K (.ref C) "__setattr__" = some (some (.builtin "object.__setattr__"))) (mk : PySem.W.makesIn K C = true) (kc : PySem.W.keepIn K (.ref C) = true) (nP : PySem.W.findIn K (.ref C) "pieces" = some none)
    (gL : PySem.W.nsIn K mainGlobals "LETTERS" = some (some (.str "abcdefgh" t1))) (gM : PySem.W.nsIn K mainGlobals "MOST_PIECES" = some (some (.int 12 t2))) (gN : PySem.W.nsIn K mainGlobals "MOST_LONG" = some (some (.int 8 t3)))
    (z0 : PySem.W.nsIn K mainGlobals "len" = some none) (z1 : PySem.W.nsIn K mainGlobals "range" = some none) (z2 : PySem.W.nsIn K mainGlobals "enumerate" = some none) (z3 : PySem.W.nsIn K mainGlobals "isinstance" = some none) (z4 : PySem.W.nsIn K mainGlobals "str" = some none) (z5 : PySem.W.nsIn K mainGlobals "tuple" = some none) (z6 : PySem.W.nsIn K mainGlobals "all" = some none) (z7 : PySem.W.nsIn K mainGlobals "abs" = some none) (z8 : PySem.W.nsIn K mainGlobals "int" = some none) (z9 : PySem.W.nsIn K mainGlobals "list" = some none) (z10 : PySem.W.nsIn K mainGlobals "bool" = some none) (z11 : PySem.W.nsIn K mainGlobals "zip" = some none) (z12 : PySem.W.nsIn K mainGlobals "sorted" = some none) (z13 : PySem.W.nsIn K mainGlobals "set" = some none)
    (hne : P1 ≠ P2) : ∃ fd : FuncData, (∀ (s : Shared) (v : Value), BindsTo s fd ⟨[v], []⟩ [("_law_script", v)]) ∧ ∀ base : Heap, K.In base → base.Ns mainGlobals mg → TabB base mg c1 P1 → TabB base mg c2 P2 → FnOk l.prog w K mg base CX0 6 fa fd ["_law_script"] (spLaw P1 P2 K) := by
  have e := hfa.symm.trans (PySem.W.mg_of X G dLW9.ns)
  cases e
  have B : Blt mg := ⟨PySem.W.mg_none_of X G z0, PySem.W.mg_none_of X G z1, PySem.W.mg_none_of X G z2, PySem.W.mg_none_of X G z3, PySem.W.mg_none_of X G z4, PySem.W.mg_none_of X G z5, PySem.W.mg_none_of X G z6, PySem.W.mg_none_of X G z7, PySem.W.mg_none_of X G z8, PySem.W.mg_none_of X G z9, PySem.W.mg_none_of X G z10, PySem.W.mg_none_of X G z11, PySem.W.mg_none_of X G z12, PySem.W.mg_none_of X G z13⟩
  have N : Con mg := ⟨⟨_, PySem.W.mg_of X G gL⟩, ⟨_, PySem.W.mg_of X G gM⟩, ⟨_, PySem.W.mg_of X G gN⟩⟩
  have T : BkT K mg C := ⟨⟨pg, hd, po, sa⟩, nP, PySem.W.mg_of X G aC⟩
  have FI := fun_mk (st := sInit) lI cI kI
  have bI := FI.binds (ps := ["self", "pieces"]) fun _ _ _ _ _ _ us hl => match us, hl with | [_, _], _ => rfl
  obtain ⟨fdIL, FIL⟩ := dIL.fn
  have bIL := FIL.binds (ps := ["thing"]) fun _ _ _ _ _ _ us hl => match us, hl with | [_], _ => rfl
  have mIL := PySem.W.mg_of X G dIL.ns
  obtain ⟨fdIP, FIP⟩ := dIP.fn
  have bIP := FIP.binds (ps := ["thing"]) fun _ _ _ _ _ _ us hl => match us, hl with | [_], _ => rfl
  have mIP := PySem.W.mg_of X G dIP.ns
  obtain ⟨fdRS, FRS⟩ := dRS.fn
  have bRS := FRS.binds (ps := ["book", "log"]) fun _ _ _ _ _ _ us hl => match us, hl with | [_, _], _ => rfl
  have mRS := PySem.W.mg_of X G dRS.ns
  obtain ⟨fdRK, FRK⟩ := dRK.fn
  have bRK := FRK.binds (ps := ["book", "log", "strike"]) fun _ _ _ _ _ _ us hl => match us, hl with | [_, _, _], _ => rfl
  have mRK := PySem.W.mg_of X G dRK.ns
  obtain ⟨fdAL, FAL⟩ := dAL.fn
  have bAL := FAL.binds (ps := ["book", "log", "most"]) fun _ _ _ _ _ _ us hl => match us, hl with | [_, _, _], _ => rfl
  have mAL := PySem.W.mg_of X G dAL.ns
  obtain ⟨fdEA, FEA⟩ := dEA.fn
  have bEA := FEA.un.binds (ps := ["book", "texts"]) fun _ _ _ _ _ _ us hl => match us, hl with | [_, _], _ => rfl
  have mEA := PySem.W.mg_of X G dEA.ns
  obtain ⟨fdMT, FMT⟩ := dMT.fn
  have bMT := FMT.binds (ps := ["one", "other", "place"]) fun _ _ _ _ _ _ us hl => match us, hl with | [_, _, _], _ => rfl
  have mMT := PySem.W.mg_of X G dMT.ns
  obtain ⟨fdMS, FMS⟩ := dMS.fn
  have bMS := FMS.un.binds (ps := ["book"]) fun _ _ _ _ _ _ us hl => match us, hl with | [_], _ => rfl
  have mMS := PySem.W.mg_of X G dMS.ns
  obtain ⟨fdOR, FOR⟩ := dOR.fn
  have bOR := FOR.binds (ps := ["book"]) fun _ _ _ _ _ _ us hl => match us, hl with | [_], _ => rfl
  have mOR := PySem.W.mg_of X G dOR.ns
  obtain ⟨fdLH, FLH⟩ := dLH.fn
  have bLH := FLH.binds (ps := ["_law_script"]) fun _ _ _ _ _ _ us hl => match us, hl with | [_], _ => rfl
  have mLH := PySem.W.mg_of X G dLH.ns
  obtain ⟨fdLD, FLD⟩ := dLD.fn
  have bLD := FLD.binds (ps := ["_law_hand_here", "_law_many"]) fun _ _ _ _ _ _ us hl => match us, hl with | [_, _], _ => rfl
  have mLD := PySem.W.mg_of X G dLD.ns
  obtain ⟨fdLA, FLA⟩ := dLA.fn
  have bLA := FLA.binds (ps := ["_law_hand_here", "_law_items"]) fun _ _ _ _ _ _ us hl => match us, hl with | [_, _], _ => rfl
  have mLA := PySem.W.mg_of X G dLA.ns
  obtain ⟨fdLI, FLI⟩ := dLI.fn
  have bLI := FLI.binds (ps := ["_law_told", "_law_due"]) fun _ _ _ _ _ _ us hl => match us, hl with | [_, _], _ => rfl
  have mLI := PySem.W.mg_of X G dLI.ns
  obtain ⟨fdLP, FLP⟩ := dLP.fn
  have bLP := FLP.binds (ps := ["_law_hand_here"]) fun _ _ _ _ _ _ us hl => match us, hl with | [_], _ => rfl
  have mLP := PySem.W.mg_of X G dLP.ns
  obtain ⟨fdLS, FLS⟩ := dLS.fn
  have bLS := FLS.binds (ps := ["_law_pieces_here", "_law_log"]) fun _ _ _ _ _ _ us hl => match us, hl with | [_, _], _ => rfl
  have mLS := PySem.W.mg_of X G dLS.ns
  obtain ⟨fdLK, FLK⟩ := dLK.fn
  have bLK := FLK.binds (ps := ["_law_pieces_here", "_law_log", "_law_strike"]) fun _ _ _ _ _ _ us hl => match us, hl with | [_, _, _], _ => rfl
  have mLK := PySem.W.mg_of X G dLK.ns
  obtain ⟨fdLL, FLL⟩ := dLL.fn
  have bLL := FLL.binds (ps := ["_law_pieces_here", "_law_log"]) fun _ _ _ _ _ _ us hl => match us, hl with | [_, _], _ => rfl
  have mLL := PySem.W.mg_of X G dLL.ns
  obtain ⟨fdLO, FLO⟩ := dLO.fn
  have bLO := FLO.binds (ps := ["_law_texts_here"]) fun _ _ _ _ _ _ us hl => match us, hl with | [_], _ => rfl
  have mLO := PySem.W.mg_of X G dLO.ns
  obtain ⟨fdLE, FLE⟩ := dLE.fn
  have bLE := FLE.binds (ps := ["_law_pieces_here", "_law_log"]) fun _ _ _ _ _ _ us hl => match us, hl with | [_, _], _ => rfl
  have mLE := PySem.W.mg_of X G dLE.ns
  obtain ⟨fdLT, FLT⟩ := dLT.fn
  have bLT := FLT.binds (ps := ["_law_own_here", "_law_most"]) fun _ _ _ _ _ _ us hl => match us, hl with | [_, _], _ => rfl
  have mLT := PySem.W.mg_of X G dLT.ns
  obtain ⟨fdLW, FLW⟩ := dLW.fn
  have bLW := FLW.binds (ps := ["_law_pieces_here"]) fun _ _ _ _ _ _ us hl => match us, hl with | [_], _ => rfl
  have mLW := PySem.W.mg_of X G dLW.ns
  obtain ⟨fdLM, FLM⟩ := dLM.fn
  have bLM := FLM.binds (ps := ["_law_one", "_law_other", "_law_place"]) fun _ _ _ _ _ _ us hl => match us, hl with | [_, _, _], _ => rfl
  have mLM := PySem.W.mg_of X G dLM.ns
  obtain ⟨fdLG, FLG⟩ := dLG.fn
  have bLG := FLG.binds (ps := ["_law_pieces_here"]) fun _ _ _ _ _ _ us hl => match us, hl with | [_], _ => rfl
  have mLG := PySem.W.mg_of X G dLG.ns
  obtain ⟨fdL2, FL2⟩ := dL2.fn
  have bL2 := FL2.binds (ps := ["_law_pieces_here", "_law_texts_here"]) fun _ _ _ _ _ _ us hl => match us, hl with | [_, _], _ => rfl
  have mL2 := PySem.W.mg_of X G dL2.ns
  obtain ⟨fdGP, FGP⟩ := dGP.fn
  have bGP := FGP.binds (ps := ["_law_hand_here"]) fun _ _ _ _ _ _ us hl => match us, hl with | [_], _ => rfl
  have mGP := PySem.W.mg_of X G dGP.ns
  obtain ⟨fdGM, FGM⟩ := dGM.fn
  have bGM := FGM.binds (ps := ["_law_hand_here"]) fun _ _ _ _ _ _ us hl => match us, hl with | [_], _ => rfl
  have mGM := PySem.W.mg_of X G dGM.ns
  obtain ⟨fdLW9, FLW9⟩ := dLW9.fn
  have bLW9 := FLW9.binds (ps := ["_law_script"]) fun _ _ _ _ _ _ us hl => match us, hl with | [_], _ => rfl
  have mLW9 := PySem.W.mg_of X G dLW9.ns
  have hbind : ∀ (s : Shared) (v : Value), BindsTo s fdLW9 ⟨[v], []⟩ [("_law_script", v)] := by
    obtain ⟨oc', od', kV', doc', pm', an', cdv', ct', osl', rfl, lk, hcd⟩ := FLW9.ex
    exact fun s v => .of_eq rfl
  refine ⟨fdLW9, hbind, fun base KB NB TB1 TB2 => ?_⟩
  have GIL := cal_of (P := l.prog) (w := w) (base := base) (ok_isLog FIL B N) mIL FIL.kp bIL
  have GIP := cal_of (P := l.prog) (w := w) (base := base) (ok_isPiece FIP B N GIL) mIP FIP.kp bIP
  have GB : MkB l.prog w K mg base C := ⟨fI, _, ⟨mk, aI, iI, kc⟩, ok_init FI B N T GIP, bI⟩
  have GRS := cal_of (P := l.prog) (w := w) (base := base) (ok_raw FRS B T) mRS FRS.kp bRS
  have GRK := cal_of (P := l.prog) (w := w) (base := base) (ok_struck FRK B T) mRK FRK.kp bRK
  have GAL := cal_of (P := l.prog) (w := w) (base := base) (ok_all FAL B GRS GRK) mAL FAL.kp bAL
  have GEA := cal_of (P := l.prog) (w := w) (base := base) (ok_ends FEA B TB1 hne GRS) mEA FEA.kp bEA
  have GMT := cal_of (P := l.prog) (w := w) (base := base) (ok_meet FMT B) mMT FMT.kp bMT
  have GMS := cal_of (P := l.prog) (w := w) (base := base) (ok_meets FMS B T TB2 hne GMT) mMS FMS.kp bMS
  have GOR := cal_of (P := l.prog) (w := w) (base := base) (ok_rest FOR B GMS GEA GAL) mOR FOR.kp bOR
  have GLH := cal_of (P := l.prog) (w := w) (base := base) (ok_hand FLH B) mLH FLH.kp bLH
  have GLD := cal_of (P := l.prog) (w := w) (base := base) (ok_draw FLD B) mLD FLD.kp bLD
  have GLA := cal_of (P := l.prog) (w := w) (base := base) (ok_any FLA B GLD) mLA FLA.kp bLA
  have GI0 := cal_of (P := l.prog) (w := w) (base := base) (ok_is0 FLI B) mLI FLI.kp bLI
  have GI1 := cal_of (P := l.prog) (w := w) (base := base) (ok_isS (n := 0) FLI B GI0) mLI FLI.kp bLI
  have GI2 := cal_of (P := l.prog) (w := w) (base := base) (ok_isS (n := 1) FLI B GI1) mLI FLI.kp bLI
  have GLP := cal_of (P := l.prog) (w := w) (base := base) (ok_pieces FLP B GLD GLA) mLP FLP.kp bLP
  have GLS := cal_of (P := l.prog) (w := w) (base := base) (ok_lstrikes FLS B) mLS FLS.kp bLS
  have GLK := cal_of (P := l.prog) (w := w) (base := base) (ok_lstruck FLK B) mLK FLK.kp bLK
  have GLL := cal_of (P := l.prog) (w := w) (base := base) (ok_lall FLL B GLS GLK) mLL FLL.kp bLL
  have GLO := cal_of (P := l.prog) (w := w) (base := base) (ok_short FLO B) mLO FLO.kp bLO
  have GLE := cal_of (P := l.prog) (w := w) (base := base) (ok_lends FLE B GLL GLS GLO) mLE FLE.kp bLE
  have GLT := cal_of (P := l.prog) (w := w) (base := base) (ok_texts FLT B) mLT FLT.kp bLT
  have GLW := cal_of (P := l.prog) (w := w) (base := base) (ok_own FLW B) mLW FLW.kp bLW
  have GLM := cal_of (P := l.prog) (w := w) (base := base) (ok_met FLM B) mLM FLM.kp bLM
  have GLG := cal_of (P := l.prog) (w := w) (base := base) (ok_lmeets FLG B GLM GLO) mLG FLG.kp bLG
  have GL2 := cal_of (P := l.prog) (w := w) (base := base) (ok_two FL2 B GLE) mL2 FL2.kp bL2
  have GGP := cal_of (P := l.prog) (w := w) (base := base) (ok_gpieces FGP B GLD GLA) mGP FGP.kp bGP
  have GGM := cal_of (P := l.prog) (w := w) (base := base) (ok_gm FGM T GB GGP GLG GMS GOR GL2 GI1 GI2) mGM FGM.kp bGM
  exact ok_law FLW9 B T ⟨GLH, GLD, GGM, GLP, GLW, GB, GLG, GMS, GI1, GI2, GL2, GOR, GLT⟩

theorem law_walk {l : PySem.W.OpenLaw} {q : Program} {loose : List Str} {XP : (Str → Option Value) → Heap → Prop} {YP : World → Heap → Prop} {d : DefRec} {K : Params → PySem.W.Frag} (hn : l.most = some 63) (hdf : d.params.defaults = [])
    (hY : ∀ (w : World) (h : Heap), YP w h → (K w.params).In h)
    (F : ∀ (w : World) (mg : Str → Option Value) (fa : Addr) (h : Heap), YP w h → (K w.params).In h → h.Ns mainGlobals mg → mg d.name = some (.ref fa) →
      ∃ (c1 P1 c2 P2 : Addr) (fd : FuncData), h.get? P1 = some { cls := .none, data := .fields #[] } ∧ h.get? P2 = some { cls := .none, data := .fields #[] } ∧ (K w.params).lookup P1 = none ∧ (K w.params).lookup P2 = none ∧ PySem.W.codeHdIn (K w.params) c1 P1 = true ∧ PySem.W.codeHdIn (K w.params) c2 P2 = true ∧
        (∀ (s : Shared) (v : Value), BindsTo s fd ⟨[v], []⟩ [("_law_script", v)]) ∧ ∀ base : Heap, (K w.params).In base → base.Ns mainGlobals mg → TabB base mg c1 P1 → TabB base mg c2 P2 → FnOk l.prog w (K w.params) mg base CX0 6 fa fd ["_law_script"] (spLaw P1 P2 (K w.params))) :
    PySem.W.WalkO q loose XP YP l.row.toRowW d [] (fun f vs => PySem.call f vs) := by
  refine LamX.walk_ofTs (n := 63) (k := 6) (x := "_law_script") (K := K) (CX := fun _ => CX0) hn (by decide) hdf ⟨rfl, by decide, by decide⟩ hY (fun w mg fa h Y KX G hm => ?_) fun _ _ _ _ _ z => z
  obtain ⟨c1, P1, c2, P2, fd, h1, h2, n1, n2, e1, e2, hb, hF⟩ := F w mg fa h Y KX G hm
  have two : ∀ {Z : Addr × Addr → Prop}, Z (c1, P1) → Z (c2, P2) → ∀ p ∈ [(c1, P1), (c2, P2)], Z p := fun z1 z2 p hp => by
    rcases List.mem_cons.mp hp with rfl | hp
    · exact z1
    · rw [List.mem_singleton.mp hp]
      exact z2
  refine ⟨fd, [(c1, P1), (c2, P2)], spLaw P1 P2 (K w.params), two h1 h2, two n1 n2, two (PySem.W.codeHd_of_K KX e1) (PySem.W.codeHd_of_K KX e2), hb, fun H a ns hl _ hT hS => ?_, fun base KB NB TB => hF base KB NB (TB (c1, P1) (.head _)) (TB (c2, P2) (.tail _ (.head _)))⟩
  refine ⟨a, ns, rfl, hS, hl, fun p hp => ?_, fun _ => rfl⟩
  rcases List.mem_cons.mp hp with rfl | hp
  · exact TabS.nil (hT (c1, P1) (.head _))
  · rw [List.mem_singleton.mp hp]
    exact TabS.nil (hT (c2, P2) (.tail _ (.head _)))
theorem fin_mk {l : PySem.W.OpenLaw} {w : World} {K : PySem.W.Frag} {h : Heap} {mg : Str → Option Value} {fa c1 c2 P1 P2 : Addr} (m : ∃ fd : FuncData, (∀ (s : Shared) (v : Value), BindsTo s fd ⟨[v], []⟩ [("_law_script", v)]) ∧ ∀ base : Heap, K.In base → base.Ns mainGlobals mg → TabB base mg c1 P1 → TabB base mg c2 P2 → FnOk l.prog w K mg base CX0 6 fa fd ["_law_script"] (spLaw P1 P2 K))
    (t1 : h.get? P1 = some { cls := .none, data := .fields #[] }) (t2 : h.get? P2 = some { cls := .none, data := .fields #[] }) (n1 : K.lookup P1 = none) (n2 : K.lookup P2 = none) (e1 : PySem.W.codeHdIn K c1 P1 = true) (e2 : PySem.W.codeHdIn K c2 P2 = true) :
    ∃ (c1 P1 c2 P2 : Addr) (fd : FuncData), h.get? P1 = some { cls := .none, data := .fields #[] } ∧ h.get? P2 = some { cls := .none, data := .fields #[] } ∧ K.lookup P1 = none ∧ K.lookup P2 = none ∧ PySem.W.codeHdIn K c1 P1 = true ∧ PySem.W.codeHdIn K c2 P2 = true ∧
        (∀ (s : Shared) (v : Value), BindsTo s fd ⟨[v], []⟩ [("_law_script", v)]) ∧ ∀ base : Heap, K.In base → base.Ns mainGlobals mg → TabB base mg c1 P1 → TabB base mg c2 P2 → FnOk l.prog w K mg base CX0 6 fa fd ["_law_script"] (spLaw P1 P2 K) := by
  obtain ⟨fd, h1, h2⟩ := m
  exact ⟨c1, P1, c2, P2, fd, t1, t2, n1, n2, e1, e2, h1, h2⟩
end K8
set_option Elab.async false
set_option maxRecDepth 100000
open PySem PySem.W PyProof.Rows in
set_option maxRecDepth 100000 in
set_option maxHeartbeats 0 in
theorem PySem.Challenge.cw_struckpieces_k08_whole_one_rest_by_all_m_holds : PySem.Challenge.rw_struckpieces_k08_whole_one_rest_by_all_m.Holds := by
  w_on; o_law; k_head; (case hw => w_witness2)
  k_fill
  refine K8.law_walk (l := PySem.Challenge.rw_struckpieces_k08_whole_one_rest_by_all_m) rfl rfl (fun w h Y => PySem.W.km_in_of Y) ?F
  case F =>
    intro w mg fa h Y KX G hmg
    have tabs := PySem.W.km_tabs_of Y
    refine' K8.fin_mk (K8.all_mk (l := PySem.Challenge.rw_struckpieces_k08_whole_one_rest_by_all_m) (w := w) (P1 := 109) (P2 := 121) KX G hmg (K8.def_at ?aIL ?lIL ?cIL ?kIL) (K8.def_at ?aIP ?lIP ?cIP ?kIP) (K8.def_at ?aRS ?lRS ?cRS ?kRS) (K8.def_at ?aRK ?lRK ?cRK ?kRK) (K8.def_at ?aAL ?lAL ?cAL ?kAL) (K8.def_c ?aEA ?lEA ?cEA ?kEA) (K8.def_at ?aMT ?lMT ?cMT ?kMT) (K8.def_c ?aMS ?lMS ?cMS ?kMS) (K8.def_at ?aOR ?lOR ?cOR ?kOR) (K8.def_at ?aLH ?lLH ?cLH ?kLH) (K8.def_at ?aLD ?lLD ?cLD ?kLD) (K8.def_at ?aLA ?lLA ?cLA ?kLA) (K8.def_at ?aLI ?lLI ?cLI ?kLI) (K8.def_at ?aLP ?lLP ?cLP ?kLP) (K8.def_at ?aLS ?lLS ?cLS ?kLS) (K8.def_at ?aLK ?lLK ?cLK ?kLK) (K8.def_at ?aLL ?lLL ?cLL ?kLL) (K8.def_at ?aLO ?lLO ?cLO ?kLO) (K8.def_at ?aLE ?lLE ?cLE ?kLE) (K8.def_at ?aLT ?lLT ?cLT ?kLT) (K8.def_at ?aLW ?lLW ?cLW ?kLW) (K8.def_at ?aLM ?lLM ?cLM ?kLM) (K8.def_at ?aLG ?lLG ?cLG ?kLG) (K8.def_at ?aL2 ?lL2 ?cL2 ?kL2) (K8.def_at ?aGP ?lGP ?cGP ?kGP) (K8.def_at ?aGM ?lGM ?cGM ?kGM) (K8.def_at ?aLW9 ?lLW9 ?cLW9 ?kLW9) ?aC ?aI ?iI ?lI ?cI ?kI ?pg ?hd ?po ?sa ?mk ?kc ?nP ?gL ?gM ?gN ?z0 ?z1 ?z2 ?z3 ?z4 ?z5 ?z6 ?z7 ?z8 ?z9 ?z10 ?z11 ?z12 ?z13 (by decide)) (tabs 109 (by decide)) (tabs 121 (by decide)) ?n1 ?n2 ?e1 ?e2
    (case aIL => k_is)
    (case lIL => k_is)
    (case cIL => k_is)
    (case kIL => k_is)
    (case aIP => k_is)
    (case lIP => k_is)
    (case cIP => k_is)
    (case kIP => k_is)
    (case aRS => k_is)
    (case lRS => k_is)
    (case cRS => k_is)
    (case kRS => k_is)
    (case aRK => k_is)
    (case lRK => k_is)
    (case cRK => k_is)
    (case kRK => k_is)
    (case aAL => k_is)
    (case lAL => k_is)
    (case cAL => k_is)
    (case kAL => k_is)
    (case aEA => k_is)
    (case lEA => k_is)
    (case cEA => k_is)
    (case kEA => k_is)
    (case aMT => k_is)
    (case lMT => k_is)
    (case cMT => k_is)
    (case kMT => k_is)
    (case aMS => k_is)
    (case lMS => k_is)
    (case cMS => k_is)
    (case kMS => k_is)
    (case aOR => k_is)
    (case lOR => k_is)
    (case cOR => k_is)
    (case kOR => k_is)
    (case aLH => k_is)
    (case lLH => k_is)
    (case cLH => k_is)
    (case kLH => k_is)
    (case aLD => k_is)
    (case lLD => k_is)
    (case cLD => k_is)
    (case kLD => k_is)
    (case aLA => k_is)
    (case lLA => k_is)
    (case cLA => k_is)
    (case kLA => k_is)
    (case aLI => k_is)
    (case lLI => k_is)
    (case cLI => k_is)
    (case kLI => k_is)
    (case aLP => k_is)
    (case lLP => k_is)
    (case cLP => k_is)
    (case kLP => k_is)
    (case aLS => k_is)
    (case lLS => k_is)
    (case cLS => k_is)
    (case kLS => k_is)
    (case aLK => k_is)
    (case lLK => k_is)
    (case cLK => k_is)
    (case kLK => k_is)
    (case aLL => k_is)
    (case lLL => k_is)
    (case cLL => k_is)
    (case kLL => k_is)
    (case aLO => k_is)
    (case lLO => k_is)
    (case cLO => k_is)
    (case kLO => k_is)
    (case aLE => k_is)
    (case lLE => k_is)
    (case cLE => k_is)
    (case kLE => k_is)
    (case aLT => k_is)
    (case lLT => k_is)
    (case cLT => k_is)
    (case kLT => k_is)
    (case aLW => k_is)
    (case lLW => k_is)
    (case cLW => k_is)
    (case kLW => k_is)
    (case aLM => k_is)
    (case lLM => k_is)
    (case cLM => k_is)
    (case kLM => k_is)
    (case aLG => k_is)
    (case lLG => k_is)
    (case cLG => k_is)
    (case kLG => k_is)
    (case aL2 => k_is)
    (case lL2 => k_is)
    (case cL2 => k_is)
    (case kL2 => k_is)
    (case aGP => k_is)
    (case lGP => k_is)
    (case cGP => k_is)
    (case kGP => k_is)
    (case aGM => k_is)
    (case lGM => k_is)
    (case cGM => k_is)
    (case kGM => k_is)
    (case aLW9 => k_is)
    (case lLW9 => k_is)
    (case cLW9 => k_is)
    (case kLW9 => k_is)
    (case aC => k_is)
    (case aI => k_is)
    (case iI => k_is)
    (case lI => k_is)
    (case cI => k_is)
    (case kI => k_is)
    (case pg => k_is)
    (case hd => k_is)
    (case po => k_is)
    (case sa => k_is)
    (case mk => k_is)
    (case kc => k_is)
    (case nP => k_is)
    (case gL => k_is)
    (case gM => k_is)
    (case gN => k_is)
    (case z0 => k_is)
    (case z1 => k_is)
    (case z2 => k_is)
    (case z3 => k_is)
    (case z4 => k_is)
    (case z5 => k_is)
    (case z6 => k_is)
    (case z7 => k_is)
    (case z8 => k_is)
    (case z9 => k_is)
    (case z10 => k_is)
    (case z11 => k_is)
    (case z12 => k_is)
    (case z13 => k_is)
    (case n1 => kernel_rfl)
    (case n2 => kernel_rfl)
    (case e1 => kernel_rfl)
    (case e2 => kernel_rfl)
#print axioms PySem.Challenge.cw_struckpieces_k08_whole_one_rest_by_all_m_holds
