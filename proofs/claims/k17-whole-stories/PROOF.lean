import PyProof.Rows.All
import Wide.All
import OpenK.AllK
import Wide.FinOn
import HandS.ForMost
import HandS.IsInst
import HandS.TupAny
import HandS.NoneIn
import HandS.TryOnly
import HandS.Zip
import HandS.Deep
import HandS.Style
import HandS.SortRule
import HandS.SortInts
import HandS.Wide
import HandS.Walk
import PySem.Challenge.RW_knockpurse_k17_whole_stories
set_option Elab.async false
set_option linter.all false
set_option maxRecDepth 100000
set_option maxHeartbeats 4000000
namespace Kp
/-! ### stories: lists of stretches -/
abbrev Sty := List (Int × Int)
/-- silent at x -/
def inS (p : Int × Int) (x : Int) : Bool := decide (p.1 ≤ x) && decide (x < p.2)
def sil (s : Sty) (x : Int) : Bool := s.any fun p => inS p x
theorem inS_iff {p : Int × Int} {x : Int} : inS p x = true ↔ p.1 ≤ x ∧ x < p.2 := by
  unfold inS
  rw [Bool.and_eq_true, decide_eq_true_eq, decide_eq_true_eq]
theorem sil_iff {s : Sty} {x : Int} : sil s x = true ↔ ∃ p ∈ s, p.1 ≤ x ∧ x < p.2 := by
  unfold sil
  rw [List.any_eq_true]
  exact ⟨fun ⟨p, h, e⟩ => ⟨p, h, inS_iff.mp e⟩, fun ⟨p, h, e⟩ => ⟨p, h, inS_iff.mpr e⟩⟩
theorem sil_nil (x : Int) : sil [] x = false := rfl
theorem sil_cons (p : Int × Int) (s : Sty) (x : Int) : sil (p :: s) x = (inS p x || sil s x) := rfl
theorem sil_append (s t : Sty) (x : Int) : sil (s ++ t) x = (sil s x || sil t x) := by
  unfold sil
  rw [List.any_append]
theorem sil_perm {s t : Sty} (h : s.Perm t) (x : Int) : sil s x = sil t x := by
  rw [Bool.eq_iff_iff, sil_iff, sil_iff]
  exact ⟨fun ⟨p, m, e⟩ => ⟨p, h.mem_iff.mp m, e⟩, fun ⟨p, m, e⟩ => ⟨p, h.mem_iff.mpr m, e⟩⟩
/-- a story: each stretch is one, each begins behind the end of the one ahead (and not at it) -/
structure Rs (s : Sty) : Prop where
  ok : ∀ p ∈ s, 0 ≤ p.1 ∧ p.1 < p.2
  sep : s.Pairwise fun p q => p.2 < q.1
def Below (n : Int) (s : Sty) : Prop := ∀ p ∈ s, p.2 ≤ n
theorem Rs.nil : Rs [] := ⟨fun _ h => absurd h (by simp), .nil⟩
theorem Rs.tail {p : Int × Int} {s : Sty} (h : Rs (p :: s)) : Rs s := ⟨fun q m => h.ok q (List.mem_cons_of_mem _ m), (List.pairwise_cons.mp h.sep).2⟩
theorem Rs.head {p : Int × Int} {s : Sty} (h : Rs (p :: s)) : 0 ≤ p.1 ∧ p.1 < p.2 := h.ok p List.mem_cons_self
theorem Rs.after {p : Int × Int} {s : Sty} (h : Rs (p :: s)) : ∀ q ∈ s, p.2 < q.1 := (List.pairwise_cons.mp h.sep).1
theorem Rs.cons {p : Int × Int} {s : Sty} (h0 : 0 ≤ p.1) (h1 : p.1 < p.2) (h2 : ∀ q ∈ s, p.2 < q.1) (h : Rs s) : Rs (p :: s) :=
  ⟨fun q m => by
    rcases List.mem_cons.mp m with e | m
    · rw [e]; exact ⟨h0, h1⟩
    · exact h.ok q m, List.pairwise_cons.mpr ⟨h2, h.sep⟩⟩
theorem Rs.snoc {p : Int × Int} {s : Sty} (h0 : 0 ≤ p.1) (h1 : p.1 < p.2) (h2 : ∀ q ∈ s, q.2 < p.1) (h : Rs s) : Rs (s ++ [p]) :=
  ⟨fun q m => by
    rcases List.mem_append.mp m with m | m
    · exact h.ok q m
    · rw [List.mem_singleton.mp m]; exact ⟨h0, h1⟩, List.pairwise_append.mpr ⟨h.sep, List.pairwise_singleton _ _, fun a ha b hb => by rw [List.mem_singleton.mp hb]; exact h2 a ha⟩⟩
theorem Rs.front {s t : Sty} (h : Rs (s ++ t)) : Rs s := ⟨fun p m => h.ok p (List.mem_append_left _ m), (List.pairwise_append.mp h.sep).1⟩
theorem Rs.back {s t : Sty} (h : Rs (s ++ t)) : Rs t := ⟨fun p m => h.ok p (List.mem_append_right _ m), (List.pairwise_append.mp h.sep).2.1⟩
theorem Rs.cross {s t : Sty} (h : Rs (s ++ t)) : ∀ p ∈ s, ∀ q ∈ t, p.2 < q.1 := (List.pairwise_append.mp h.sep).2.2
theorem Rs.take {s : Sty} (h : Rs s) (n : Nat) : Rs (s.take n) := by
  rw [← List.take_append_drop n s] at h
  exact h.front
theorem Below.tail {n : Int} {p : Int × Int} {s : Sty} (h : Below n (p :: s)) : Below n s := fun q m => h q (List.mem_cons_of_mem _ m)
theorem Below.le {n m : Int} {s : Sty} (h : Below n s) (l : n ≤ m) : Below m s := fun q z => Int.le_trans (h q z) l
theorem Rs.sil_ge {p : Int × Int} {s : Sty} (h : Rs (p :: s)) {x : Int} (e : sil (p :: s) x = true) : p.1 ≤ x := by
  obtain ⟨q, m, h1, h2⟩ := sil_iff.mp e
  have hp := h.head
  rcases List.mem_cons.mp m with e | m
  · rw [e] at h1; exact h1
  · have := h.after q m
    omega
theorem Rs.sil_tail_gt {p : Int × Int} {s : Sty} (h : Rs (p :: s)) {x : Int} (e : sil s x = true) : p.2 < x := by
  obtain ⟨q, m, h1, h2⟩ := sil_iff.mp e
  have := h.after q m
  omega
theorem Rs.sil_end {p : Int × Int} {s : Sty} (h : Rs (p :: s)) : sil (p :: s) p.2 = false := by
  rw [Bool.eq_false_iff]
  intro e
  obtain ⟨q, m, h1, h2⟩ := sil_iff.mp e
  rcases List.mem_cons.mp m with e | m
  · rw [e] at h2; omega
  · have := h.after q m
    omega
theorem Rs.sil_tail {p : Int × Int} {s : Sty} (h : Rs (p :: s)) (x : Int) : sil s x = (sil (p :: s) x && decide (p.2 < x)) := by
  rw [Bool.eq_iff_iff, Bool.and_eq_true, decide_eq_true_eq]
  constructor
  · intro e
    refine ⟨?_, h.sil_tail_gt e⟩
    rw [sil_cons, e, Bool.or_true]
  · rintro ⟨e, l⟩
    rw [sil_cons, Bool.or_eq_true] at e
    rcases e with e | e
    · have := inS_iff.mp e; omega
    · exact e
/-- two stories that are silent at the same beats are one -/
theorem uniq : ∀ {s t : Sty}, Rs s → Rs t → (∀ x, sil s x = sil t x) → s = t
  | [], [], _, _, _ => rfl
  | [], q :: t, _, ht, h => by
    have e := h q.1
    rw [sil_nil, sil_cons, inS_iff.mpr ⟨Int.le_refl _, ht.head.2⟩] at e
    simp at e
  | p :: s, [], hs, _, h => by
    have e := h p.1
    rw [sil_nil, sil_cons, inS_iff.mpr ⟨Int.le_refl _, hs.head.2⟩] at e
    simp at e
  | p :: s, q :: t, hs, ht, h => by
    have a1 : sil (p :: s) p.1 = true := by rw [sil_cons, inS_iff.mpr ⟨Int.le_refl _, hs.head.2⟩, Bool.true_or]
    have a2 : sil (q :: t) q.1 = true := by rw [sil_cons, inS_iff.mpr ⟨Int.le_refl _, ht.head.2⟩, Bool.true_or]
    have b1 : q.1 ≤ p.1 := ht.sil_ge (by rw [← h]; exact a1)
    have b2 : p.1 ≤ q.1 := hs.sil_ge (by rw [h]; exact a2)
    have e1 : p.1 = q.1 := by omega
    have c1 : ¬ p.2 < q.2 := fun l => by
      have z := hs.sil_end
      rw [h, sil_cons, inS_iff.mpr ⟨by have := hs.head; omega, l⟩] at z
      simp at z
    have c2 : ¬ q.2 < p.2 := fun l => by
      have z := ht.sil_end
      rw [← h, sil_cons, inS_iff.mpr ⟨by have := ht.head; omega, l⟩] at z
      simp at z
    have e2 : p.2 = q.2 := by omega
    have e : p = q := Prod.ext e1 e2
    subst e
    rw [uniq hs.tail ht.tail fun x => by rw [hs.sil_tail, ht.sil_tail, h]]
theorem Below.sil {n : Int} {s : Sty} (h : Below n s) {x : Int} (e : sil s x = true) : x < n := by
  obtain ⟨p, m, _, h2⟩ := sil_iff.mp e
  have := h p m
  omega
theorem Rs.sil_nonneg {s : Sty} (h : Rs s) {x : Int} (e : sil s x = true) : 0 ≤ x := by
  obtain ⟨p, m, h1, h2⟩ := sil_iff.mp e
  have := h.ok p m
  omega
theorem below_of {n : Int} {s : Sty} (h : Rs s) (hs : ∀ x, sil s x = true → x < n) : Below n s := fun p m => by
  have hp := h.ok p m
  have e : sil s (p.2 - 1) = true := sil_iff.mpr ⟨p, m, by omega, by omega⟩
  have := hs _ e
  omega
/-- how many stretches there may be -/
theorem Rs.len2 : ∀ {s : Sty} {a n : Int}, Rs s → (∀ p ∈ s, a ≤ p.1) → Below n s → a ≤ n + 1 → 2 * (s.length : Int) ≤ n + 1 - a
  | [], a, n, _, _, _, h => by
    show 2 * ((0 : Nat) : Int) ≤ n + 1 - a
    omega
  | p :: s, a, n, hs, ha, hb, h => by
    have ha' := ha p List.mem_cons_self
    have hb' := hb p List.mem_cons_self
    have hp := hs.head
    have ih := Rs.len2 (s := s) (a := p.2 + 1) (n := n) hs.tail (fun q m => by have := hs.after q m; omega) hb.tail (by omega)
    rw [List.length_cons]
    omega
theorem Rs.len {s : Sty} {n : Int} (h : Rs s) (hb : Below n s) (h0 : 0 ≤ n) : 2 * (s.length : Int) ≤ n + 1 := by
  have := h.len2 (a := 0) (n := n) (fun p m => (h.ok p m).1) hb (by omega)
  omega

/-! ### joined -/
def mx (a b : Int) : Int := if b > a then b else a
theorem mx_le_l (a b : Int) : a ≤ mx a b := by unfold mx; split <;> omega
theorem mx_le_r (a b : Int) : b ≤ mx a b := by unfold mx; split <;> omega
theorem lt_mx {a b x : Int} : x < mx a b ↔ x < a ∨ x < b := by unfold mx; split <;> omega
def mn (a b : Int) : Int := if b < a then b else a
theorem lt_mn {a b x : Int} : x < mn a b ↔ x < a ∧ x < b := by unfold mn; split <;> omega
theorem mx_le {a b x : Int} : mx a b ≤ x ↔ a ≤ x ∧ b ≤ x := by unfold mx; split <;> omega
/-- one turn of joined's loop -/
def jstep (f : Sty) (p : Int × Int) : Sty := match f.getLast? with
  | none => [p]
  | some q => if p.1 ≤ q.2 then f.dropLast ++ [(q.1, mx p.2 q.2)] else f ++ [p]
def joinF (l : Sty) : Sty := l.foldl jstep []
theorem jstep_nil (p : Int × Int) : jstep [] p = [p] := rfl
theorem jstep_snoc (f : Sty) (q p : Int × Int) : jstep (f ++ [q]) p = if p.1 ≤ q.2 then f ++ [(q.1, mx p.2 q.2)] else (f ++ [q]) ++ [p] := by
  unfold jstep
  rw [List.getLast?_concat, List.dropLast_concat]
theorem snoc_cases {α : Type} (l : List α) : l = [] ∨ ∃ m x, l = m ++ [x] := by
  rcases List.eq_nil_or_concat l with h | ⟨m, x, h⟩
  · exact .inl h
  · exact .inr ⟨m, x, by rw [h, List.concat_eq_append]⟩
theorem jstep_ok {f : Sty} {p : Int × Int} (hf : Rs f) (h0 : 0 ≤ p.1) (h1 : p.1 < p.2) (hb : ∀ q ∈ f, q.1 ≤ p.1) : Rs (jstep f p) ∧ (∀ x, sil (jstep f p) x = (sil f x || inS p x)) ∧ (∀ q ∈ jstep f p, q.1 ≤ p.1) := by
  rcases snoc_cases f with e | ⟨m, q, e⟩
  · subst e
    rw [jstep_nil]
    refine ⟨Rs.cons h0 h1 (fun _ z => absurd z (by simp)) Rs.nil, fun x => ?_, fun q z => ?_⟩
    · rw [sil_cons, sil_nil, Bool.or_false, Bool.false_or]
    · rw [List.mem_singleton.mp z]
      exact Int.le_refl _
  · subst e
    rw [jstep_snoc]
    have hq : q ∈ m ++ [q] := List.mem_append_right _ (List.mem_singleton.mpr rfl)
    have okq := hf.ok q hq
    have bq := hb q hq
    have cr : ∀ r ∈ m, r.2 < q.1 := fun r z => hf.cross r z q (List.mem_singleton.mpr rfl)
    by_cases c : p.1 ≤ q.2
    · rw [if_pos c]
      refine ⟨Rs.snoc okq.1 (Int.lt_of_lt_of_le okq.2 (mx_le_r _ _)) cr hf.front, fun x => ?_, fun r z => ?_⟩
      · rw [sil_append, sil_append, Bool.or_assoc]
        congr 1
        rw [sil_cons, sil_nil, Bool.or_false, sil_cons, sil_nil, Bool.or_false, Bool.eq_iff_iff, Bool.or_eq_true, inS_iff, inS_iff, inS_iff]
        show q.1 ≤ x ∧ x < mx p.2 q.2 ↔ _
        rw [lt_mx]
        omega
      · rcases List.mem_append.mp z with z | z
        · exact hb r (List.mem_append_left _ z)
        · rw [List.mem_singleton.mp z]
          exact bq
    · rw [if_neg c]
      refine ⟨Rs.snoc h0 h1 (fun r z => ?_) hf, fun x => ?_, fun r z => ?_⟩
      · rcases List.mem_append.mp z with z | z
        · have := cr r z; omega
        · rw [List.mem_singleton.mp z]; omega
      · rw [sil_append (m ++ [q]), sil_cons, sil_nil, Bool.or_false]
      · rcases List.mem_append.mp z with z | z
        · exact hb r z
        · rw [List.mem_singleton.mp z]
          exact Int.le_refl _
theorem joinF_aux : ∀ (l f : Sty), Rs f → (∀ p ∈ l, 0 ≤ p.1 ∧ p.1 < p.2) → l.Pairwise (fun p q => p.1 ≤ q.1) → (∀ q ∈ f, ∀ p ∈ l, q.1 ≤ p.1) →
    Rs (l.foldl jstep f) ∧ ∀ x, sil (l.foldl jstep f) x = (sil f x || sil l x)
  | [], f, hf, _, _, _ => ⟨hf, fun x => by rw [sil_nil, Bool.or_false]; rfl⟩
  | p :: l, f, hf, hl, hs, hb => by
    have hp := hl p List.mem_cons_self
    obtain ⟨a, b, c⟩ := jstep_ok hf hp.1 hp.2 fun q z => hb q z p List.mem_cons_self
    obtain ⟨d, e⟩ := joinF_aux l (jstep f p) a (fun q z => hl q (List.mem_cons_of_mem _ z)) (List.pairwise_cons.mp hs).2 fun q z r y => Int.le_trans (c q z) ((List.pairwise_cons.mp hs).1 r y)
    refine ⟨d, fun x => ?_⟩
    show sil (l.foldl jstep (jstep f p)) x = _
    rw [e, b, sil_cons, Bool.or_assoc]
theorem joinF_ok {l : Sty} (hl : ∀ p ∈ l, 0 ≤ p.1 ∧ p.1 < p.2) (hs : l.Pairwise (fun p q => p.1 ≤ q.1)) : Rs (joinF l) ∧ ∀ x, sil (joinF l) x = sil l x := by
  obtain ⟨a, b⟩ := joinF_aux l [] Rs.nil hl hs fun _ z => absurd z (by simp)
  exact ⟨a, fun x => by rw [show joinF l = l.foldl jstep [] from rfl, b, sil_nil, Bool.false_or]⟩
theorem jstep_len (f : Sty) (p : Int × Int) : (jstep f p).length ≤ f.length + 1 := by
  rcases snoc_cases f with e | ⟨m, q, e⟩
  · subst e; exact Nat.le_refl _
  · subst e
    rw [jstep_snoc]
    split
    · simp
    · simp
theorem joinF_len : ∀ (l f : Sty), (l.foldl jstep f).length ≤ f.length + l.length
  | [], f => Nat.le_refl _
  | p :: l, f => by
    have a := joinF_len l (jstep f p)
    have b := jstep_len f p
    show (l.foldl jstep (jstep f p)).length ≤ f.length + (l.length + 1)
    omega
theorem joinF_snoc (l : Sty) (p : Int × Int) : joinF (l ++ [p]) = jstep (joinF l) p := by
  unfold joinF
  rw [List.foldl_append]
  rfl

/-! ### both -/
def bothP (p q : Int × Int) : Sty := if mx p.1 q.1 < mn p.2 q.2 then [(mx p.1 q.1, mn p.2 q.2)] else []
def bothR (p : Int × Int) (t : Sty) : Sty := t.flatMap (bothP p)
def bothL (s t : Sty) : Sty := s.flatMap fun p => bothR p t
theorem sil_bothP (p q : Int × Int) (x : Int) : sil (bothP p q) x = (inS p x && inS q x) := by
  unfold bothP
  rw [Bool.eq_iff_iff, Bool.and_eq_true, inS_iff, inS_iff]
  by_cases c : mx p.1 q.1 < mn p.2 q.2
  · rw [if_pos c, sil_cons, sil_nil, Bool.or_false, inS_iff]
    show mx p.1 q.1 ≤ x ∧ x < mn p.2 q.2 ↔ _
    rw [mx_le, lt_mn]
    omega
  · rw [if_neg c, sil_nil]
    constructor
    · intro h; cases h
    · intro h
      exact absurd (Int.lt_of_le_of_lt (mx_le.mpr ⟨h.1.1, h.2.1⟩) (lt_mn.mpr ⟨h.1.2, h.2.2⟩)) c
theorem sil_bothR (p : Int × Int) : ∀ (t : Sty) (x : Int), sil (bothR p t) x = (inS p x && sil t x)
  | [], x => by rw [sil_nil, Bool.and_false]; rfl
  | q :: t, x => by
    show sil (bothP p q ++ bothR p t) x = _
    rw [sil_append, sil_bothP, sil_bothR p t, sil_cons]
    cases inS p x <;> cases inS q x <;> cases sil t x <;> rfl
theorem sil_bothL : ∀ (s t : Sty) (x : Int), sil (bothL s t) x = (sil s x && sil t x)
  | [], t, x => by rw [sil_nil, Bool.false_and]; rfl
  | p :: s, t, x => by
    show sil (bothR p t ++ bothL s t) x = _
    rw [sil_append, sil_bothR, sil_bothL s t, sil_cons]
    cases inS p x <;> cases sil s x <;> cases sil t x <;> rfl
theorem bothP_ok {p q : Int × Int} (hp : 0 ≤ p.1) : ∀ r ∈ bothP p q, 0 ≤ r.1 ∧ r.1 < r.2 := fun r h => by
  unfold bothP at h
  by_cases c : mx p.1 q.1 < mn p.2 q.2
  · rw [if_pos c] at h
    rw [List.mem_singleton.mp h]
    exact ⟨Int.le_trans hp (mx_le_l _ _), c⟩
  · rw [if_neg c] at h
    cases h
theorem bothL_ok {s t : Sty} (hs : ∀ p ∈ s, 0 ≤ p.1) : ∀ r ∈ bothL s t, 0 ≤ r.1 ∧ r.1 < r.2 := fun r h => by
  obtain ⟨p, hp, h⟩ := List.mem_flatMap.mp h
  obtain ⟨q, hq, h⟩ := List.mem_flatMap.mp h
  exact bothP_ok (hs p hp) r h
theorem bothP_len (p q : Int × Int) : (bothP p q).length ≤ 1 := by
  unfold bothP
  split <;> simp
theorem bothR_len (p : Int × Int) : ∀ t : Sty, (bothR p t).length ≤ t.length
  | [] => Nat.le_refl _
  | q :: t => by
    show (bothP p q ++ bothR p t).length ≤ t.length + 1
    rw [List.length_append]
    have a := bothP_len p q
    have b := bothR_len p t
    omega
theorem bothL_len : ∀ s t : Sty, (bothL s t).length ≤ s.length * t.length
  | [], t => by show 0 ≤ _; omega
  | p :: s, t => by
    show (bothR p t ++ bothL s t).length ≤ (s.length + 1) * t.length
    rw [List.length_append, Nat.succ_mul]
    have a := bothR_len p t
    have b := bothL_len s t
    omega
theorem bothR_take {p : Int × Int} {t : Sty} {i : Nat} {q : Int × Int} (h : t[i]? = some q) : bothR p (t.take (i + 1)) = bothR p (t.take i) ++ bothP p q := by
  rw [List.take_add_one, h]
  unfold bothR
  rw [List.flatMap_append]
  simp
theorem bothL_take {s t : Sty} {i : Nat} {p : Int × Int} (h : s[i]? = some p) : bothL (s.take (i + 1)) t = bothL (s.take i) t ++ bothR p t := by
  rw [List.take_add_one, h]
  unfold bothL
  rw [List.flatMap_append]
  simp

/-! ### other_way -/
def owStep (n : Int) (st : Sty × Int) (p : Int × Int) : Sty × Int := (if st.2 < mn p.1 n then st.1 ++ [(st.2, mn p.1 n)] else st.1, p.2)
def owEnd (n : Int) (st : Sty × Int) : Sty := if st.2 < n then st.1 ++ [(st.2, n)] else st.1
def otherF (s : Sty) (n : Int) : Sty := owEnd n (s.foldl (owStep n) ([], 0))
theorem other_aux (n : Int) : ∀ (s f : Sty) (h : Int), Rs s → Below n s → Rs f → 0 ≤ h → (∀ q ∈ f, q.2 < h) → (∀ p ∈ s, h ≤ p.1) →
    Rs (owEnd n (s.foldl (owStep n) (f, h))) ∧ ∀ x, sil (owEnd n (s.foldl (owStep n) (f, h))) x = (sil f x || (decide (h ≤ x) && decide (x < n) && !sil s x))
  | [], f, h, _, _, hf, h0, hb, _ => by
    show Rs (owEnd n (f, h)) ∧ ∀ x, sil (owEnd n (f, h)) x = _
    unfold owEnd
    by_cases c : h < n
    · rw [if_pos c]
      refine ⟨Rs.snoc h0 c hb hf, fun x => ?_⟩
      show sil (f ++ [(h, n)]) x = (sil f x || (decide (h ≤ x) && decide (x < n) && !sil [] x))
      rw [sil_append, sil_cons, sil_nil, Bool.or_false, Bool.not_false, Bool.and_true]
      rfl
    · rw [if_neg c]
      refine ⟨hf, fun x => ?_⟩
      have e0 : (decide (h ≤ x) && decide (x < n)) = false := by
        rw [Bool.and_eq_false_iff, decide_eq_false_iff_not, decide_eq_false_iff_not]
        have c' : ¬ h < n := c
        omega
      rw [e0, Bool.false_and, Bool.or_false]
  | p :: s, f, h, hs, hn, hf, h0, hb, ha => by
    have hp := hs.head
    have hpn := hn p List.mem_cons_self
    have hhp := ha p List.mem_cons_self
    have em : mn p.1 n = p.1 := by unfold mn; split <;> omega
    have key : ∀ x, (decide (h ≤ x) && decide (x < n) && !sil (p :: s) x) = ((decide (h ≤ x) && decide (x < p.1)) || (decide (p.2 ≤ x) && decide (x < n) && !sil s x)) := fun x => by
      have z1 : sil s x = true → p.2 < x := fun e => hs.sil_tail_gt e
      rw [sil_cons, Bool.eq_iff_iff]
      simp only [Bool.or_eq_true, Bool.and_eq_true, decide_eq_true_eq, Bool.not_eq_true', Bool.or_eq_false_iff]
      have z2 : inS p x = false ↔ ¬ (p.1 ≤ x ∧ x < p.2) := by rw [← inS_iff, Bool.not_eq_true]
      rw [z2]
      cases e : sil s x with
      | true =>
        have := z1 e
        simp only [Bool.true_eq_false, and_false, or_false, false_iff]
        omega
      | false =>
        simp only [and_true]
        omega
    show Rs (owEnd n (s.foldl (owStep n) (owStep n (f, h) p))) ∧ ∀ x, sil (owEnd n (s.foldl (owStep n) (owStep n (f, h) p))) x = _
    unfold owStep
    rw [em]
    by_cases c : h < p.1
    · rw [if_pos c]
      obtain ⟨a, b⟩ := other_aux n s (f ++ [(h, p.1)]) p.2 hs.tail hn.tail (Rs.snoc h0 c hb hf) (by omega) (fun q z => by
        rcases List.mem_append.mp z with z | z
        · have := hb q z; omega
        · rw [List.mem_singleton.mp z]; exact hp.2) (fun q z => by have := hs.after q z; omega)
      refine ⟨a, fun x => ?_⟩
      refine (b x).trans ?_
      rw [key, sil_append, sil_cons, sil_nil, Bool.or_false, Bool.or_assoc]
      rfl
    · rw [if_neg c]
      obtain ⟨a, b⟩ := other_aux n s f p.2 hs.tail hn.tail hf (by omega) (fun q z => by have := hb q z; omega) (fun q z => by have := hs.after q z; omega)
      refine ⟨a, fun x => ?_⟩
      refine (b x).trans ?_
      rw [key]
      have e0 : (decide (h ≤ x) && decide (x < p.1)) = false := by
        rw [Bool.and_eq_false_iff, decide_eq_false_iff_not, decide_eq_false_iff_not]
        omega
      rw [e0, Bool.false_or]
theorem otherF_ok {s : Sty} {n : Int} (hs : Rs s) (hn : Below n s) : Rs (otherF s n) ∧ ∀ x, sil (otherF s n) x = (decide (0 ≤ x) && decide (x < n) && !sil s x) := by
  obtain ⟨a, b⟩ := other_aux n s [] 0 hs hn Rs.nil (Int.le_refl _) (fun _ z => absurd z (by simp)) fun p z => (hs.ok p z).1
  exact ⟨a, fun x => by rw [show otherF s n = owEnd n (s.foldl (owStep n) ([], 0)) from rfl, b, sil_nil, Bool.false_or]⟩
theorem other_len (n : Int) : ∀ (s : Sty) (st : Sty × Int), (s.foldl (owStep n) st).1.length ≤ st.1.length + s.length
  | [], st => Nat.le_refl _
  | p :: s, st => by
    have a := other_len n s (owStep n st p)
    have b : (owStep n st p).1.length ≤ st.1.length + 1 := by
      unfold owStep
      show (if st.2 < mn p.1 n then st.1 ++ [(st.2, mn p.1 n)] else st.1).length ≤ _
      split
      · simp
      · omega
    show ((s.foldl (owStep n) (owStep n st p))).1.length ≤ st.1.length + (s.length + 1)
    omega

/-! ### later_by -/
def shift (s : Sty) (k : Int) : Sty := s.map fun p => (p.1 + k, p.2 + k)
theorem shift_ok {s : Sty} {k : Int} (hs : Rs s) (h : ∀ p ∈ s, 0 ≤ p.1 + k) : Rs (shift s k) := by
  refine ⟨fun q m => ?_, ?_⟩
  · obtain ⟨p, hp, rfl⟩ := List.mem_map.mp m
    have a := hs.ok p hp
    have b := h p hp
    exact ⟨b, by show p.1 + k < p.2 + k; omega⟩
  · unfold shift
    rw [List.pairwise_map]
    exact hs.sep.imp fun {p q} l => by show p.2 + k < q.1 + k; omega
theorem shift_back (s : Sty) (k : Int) : shift (shift s k) (0 - k) = s := by
  unfold shift
  rw [List.map_map]
  have : ((fun p : Int × Int => (p.1 + (0 - k), p.2 + (0 - k))) ∘ fun p : Int × Int => (p.1 + k, p.2 + k)) = id := by
    funext p
    show (p.1 + k + (0 - k), p.2 + k + (0 - k)) = p
    rw [show p.1 + k + (0 - k) = p.1 by omega, show p.2 + k + (0 - k) = p.2 by omega]
  rw [this, List.map_id]
theorem sil_shift : ∀ (s : Sty) (k x : Int), sil (shift s k) x = sil s (x - k)
  | [], k, x => rfl
  | p :: s, k, x => by
    show sil ((p.1 + k, p.2 + k) :: shift s k) x = _
    rw [sil_cons, sil_cons, sil_shift s k x]
    congr 1
    rw [Bool.eq_iff_iff, inS_iff, inS_iff]
    show p.1 + k ≤ x ∧ x < p.2 + k ↔ _
    omega
theorem below_shift {s : Sty} {n k : Int} (h : Below n s) : Below (n + k) (shift s k) := fun q m => by
  obtain ⟨p, hp, rfl⟩ := List.mem_map.mp m
  have := h p hp
  show p.2 + k ≤ n + k
  omega

/-! ### numbers by twos -/
def bitsF (m : Nat) (k : Int) : Sty := if h : m = 0 then [] else (if m % 2 = 1 then [(k, k + 1)] else []) ++ bitsF (m / 2) (k + 1)
termination_by m
decreasing_by omega
theorem bitsF_zero (k : Int) : bitsF 0 k = [] := by
  rw [bitsF]
  rfl
theorem bitsF_pos {m : Nat} (h : 0 < m) (k : Int) : bitsF m k = (if m % 2 = 1 then [(k, k + 1)] else []) ++ bitsF (m / 2) (k + 1) := by
  rw [bitsF, dif_neg (by omega)]
theorem sil_bitsF : ∀ (m : Nat) (k x : Int), sil (bitsF m k) x = (decide (k ≤ x) && m.testBit (x - k).toNat) := fun m => by
  induction m using Nat.strongRecOn with
  | ind m ih =>
    intro k x
    by_cases h : m = 0
    · subst h
      rw [bitsF_zero, Nat.zero_testBit, Bool.and_false]
      rfl
    · rw [bitsF_pos (by omega), sil_append, ih (m / 2) (by omega)]
      have e1 : sil (if m % 2 = 1 then [(k, k + 1)] else []) x = (decide (m % 2 = 1) && decide (x = k)) := by
        by_cases c : m % 2 = 1
        · rw [if_pos c, sil_cons, sil_nil, Bool.or_false, decide_eq_true c, Bool.true_and, Bool.eq_iff_iff, inS_iff, decide_eq_true_eq]
          show k ≤ x ∧ x < k + 1 ↔ _
          omega
        · rw [if_neg c, decide_eq_false c, Bool.false_and]
          rfl
      rw [e1]
      by_cases c1 : x = k
      · subst c1
        rw [decide_eq_true (Eq.refl x), Bool.and_true, decide_eq_false (by omega : ¬ x + 1 ≤ x), Bool.false_and, Bool.or_false, decide_eq_true (Int.le_refl x), Bool.true_and, show (x - x).toNat = 0 by omega, Nat.testBit_zero]
      · rw [decide_eq_false c1, Bool.and_false, Bool.false_or]
        by_cases c2 : k ≤ x
        · rw [decide_eq_true c2, decide_eq_true (by omega : k + 1 ≤ x), Bool.true_and, Bool.true_and, show (x - k).toNat = (x - (k + 1)).toNat + 1 by omega, Nat.testBit_succ]
        · rw [decide_eq_false c2, decide_eq_false (by omega : ¬ k + 1 ≤ x), Bool.false_and, Bool.false_and]
theorem bitsF_ok : ∀ (m : Nat) (k : Int), 0 ≤ k → ∀ p ∈ bitsF m k, 0 ≤ p.1 ∧ p.1 < p.2 := fun m => by
  induction m using Nat.strongRecOn with
  | ind m ih =>
    intro k hk p hp
    by_cases h : m = 0
    · subst h
      rw [bitsF_zero] at hp
      cases hp
    · rw [bitsF_pos (by omega)] at hp
      rcases List.mem_append.mp hp with hp | hp
      · by_cases c : m % 2 = 1
        · rw [if_pos c] at hp
          rw [List.mem_singleton.mp hp]
          exact ⟨hk, by show k < k + 1; omega⟩
        · rw [if_neg c] at hp
          cases hp
      · exact ih (m / 2) (by omega) (k + 1) (by omega) p hp
theorem bitsF_len : ∀ (m : Nat) (k : Int), (bitsF m k).length ≤ m := fun m => by
  induction m using Nat.strongRecOn with
  | ind m ih =>
    intro k
    by_cases h : m = 0
    · subst h
      rw [bitsF_zero]
      exact Nat.le_refl _
    · rw [bitsF_pos (by omega), List.length_append]
      have a := ih (m / 2) (by omega) (k + 1)
      have b : (if m % 2 = 1 then [(k, k + 1)] else ([] : Sty)).length ≤ 1 := by split <;> simp
      by_cases h1 : m = 1
      · subst h1
        have : (bitsF (1 / 2) (k + 1)).length = 0 := by
          rw [show 1 / 2 = 0 from rfl, bitsF_zero]
          rfl
        omega
      · omega
/-- what a number's story is -/
structure StoryN (m : Nat) (s : Sty) : Prop where
  rs : Rs s
  sil : ∀ x, sil s x = (decide (0 ≤ x) && m.testBit x.toNat)
theorem StoryN.of_join {m : Nat} {s : Sty} (h : Rs s) (e : ∀ x, Kp.sil s x = Kp.sil (bitsF m 0) x) : StoryN m s := ⟨h, fun x => by rw [e, sil_bitsF, show x - 0 = x by omega]⟩
theorem StoryN.below {m n : Nat} {s : Sty} (h : StoryN m s) (l : m < 2 ^ n) : Below (n : Int) s := below_of h.rs fun x e => by
  rw [h.sil, Bool.and_eq_true, decide_eq_true_eq] at e
  by_cases c : x < n
  · exact c
  · have : m.testBit x.toNat = false := Nat.testBit_lt_two_pow (Nat.lt_of_lt_of_le l (Nat.pow_le_pow_right (by decide) (by omega)))
    rw [this] at e
    exact absurd e.2 (by decide)

/-! ### sums over the beats 0 .. n - 1 -/
def S (g : Nat → Int) : Nat → Int
  | 0 => 0
  | n + 1 => S g n + g n
theorem S_congr {g h : Nat → Int} : ∀ {n : Nat}, (∀ x, x < n → g x = h x) → S g n = S h n
  | 0, _ => rfl
  | n + 1, e => by
    show S g n + g n = S h n + h n
    rw [S_congr (n := n) fun x l => e x (by omega), e n (by omega)]
theorem S_add {g h : Nat → Int} : ∀ {n : Nat}, S (fun x => g x + h x) n = S g n + S h n
  | 0 => rfl
  | n + 1 => by
    show S (fun x => g x + h x) n + (g n + h n) = (S g n + g n) + (S h n + h n)
    rw [S_add]
    omega
theorem S_zero : ∀ {n : Nat}, S (fun _ => 0) n = 0
  | 0 => rfl
  | n + 1 => by
    show S (fun _ => 0) n + 0 = 0
    rw [S_zero]
    rfl
theorem S_one : ∀ {n : Nat}, S (fun _ => 1) n = n
  | 0 => rfl
  | n + 1 => by
    show S (fun _ => 1) n + 1 = ((n + 1 : Nat) : Int)
    rw [S_one]
    omega
theorem S_interval (F : Nat → Int) (a b : Nat) (hab : a ≤ b) : ∀ n : Nat, S (fun x => if a ≤ x ∧ x < b then F (x + 1) - F x else 0) n = F (min b n) - F (min a n)
  | 0 => by
    show (0 : Int) = _
    rw [Nat.min_zero, Nat.min_zero]
    omega
  | n + 1 => by
    show S _ n + (if a ≤ n ∧ n < b then F (n + 1) - F n else 0) = _
    rw [S_interval F a b hab n]
    by_cases h1 : a ≤ n
    · by_cases h2 : n < b
      · rw [if_pos ⟨h1, h2⟩, Nat.min_eq_right (by omega : n ≤ b), Nat.min_eq_right (by omega : n + 1 ≤ b), Nat.min_eq_left h1, Nat.min_eq_left (by omega : a ≤ n + 1)]
        omega
      · rw [if_neg (by omega), Nat.min_eq_left (by omega : b ≤ n), Nat.min_eq_left (by omega : b ≤ n + 1), Nat.min_eq_left h1, Nat.min_eq_left (by omega : a ≤ n + 1)]
        omega
    · rw [if_neg (by omega), Nat.min_eq_right (by omega : n ≤ a), Nat.min_eq_right (by omega : n + 1 ≤ a), Nat.min_eq_right (by omega : n ≤ b), Nat.min_eq_right (by omega : n + 1 ≤ b)]
      omega
/-- a sum over the stretches is one over the silent beats -/
theorem telesc (F : Nat → Int) : ∀ {s : Sty} {n : Nat}, Rs s → Below n s → (s.map fun p => F p.2.toNat - F p.1.toNat).sum = S (fun x => if sil s x = true then F (x + 1) - F x else 0) n
  | [], n, _, _ => by
    show (0 : Int) = _
    rw [S_congr (h := fun _ => 0) fun x _ => if_neg (by rw [sil_nil]; decide), S_zero]
  | p :: s, n, hs, hb => by
    have hp := hs.head
    have hpn := hb p List.mem_cons_self
    rw [List.map_cons, List.sum_cons, telesc F hs.tail hb.tail]
    have e := S_interval F p.1.toNat p.2.toNat (by omega) n
    rw [Nat.min_eq_left (by omega), Nat.min_eq_left (by omega)] at e
    rw [← e, ← S_add]
    refine S_congr fun x _ => ?_
    have z : inS p x = true ↔ (p.1.toNat ≤ x ∧ x < p.2.toNat) := by
      rw [inS_iff]
      omega
    have z2 : sil s x = true → p.2 < x := fun e => hs.sil_tail_gt e
    rw [sil_cons]
    by_cases c : p.1.toNat ≤ x ∧ x < p.2.toNat
    · have c2 : sil s x = false := by
        rw [Bool.eq_false_iff]
        intro q
        have := z2 q
        omega
      rw [if_pos c, c2, z.mpr c, if_neg (by decide), if_pos (by decide)]
      omega
    · have c3 : inS p x = false := by rw [Bool.eq_false_iff]; exact fun q => c (z.mp q)
      rw [if_neg c, c3, Bool.false_or]
      omega

/-! ### number_of -/
def numOf (s : Sty) : Int := (s.map fun p => (1 : Int) * 2 ^ p.2.toNat - 1 * 2 ^ p.1.toNat).sum
def B (g : Nat → Bool) : Nat → Nat
  | 0 => 0
  | n + 1 => B g n + (if g n = true then 2 ^ n else 0)
theorem B_lt (g : Nat → Bool) : ∀ n, B g n < 2 ^ n
  | 0 => Nat.zero_lt_one
  | n + 1 => by
    have ih := B_lt g n
    show B g n + (if g n = true then 2 ^ n else 0) < 2 ^ (n + 1)
    rw [Nat.pow_succ]
    split <;> omega
theorem B_bit (g : Nat → Bool) : ∀ n i, (B g n).testBit i = (decide (i < n) && g i)
  | 0, i => by
    rw [decide_eq_false (by omega), Bool.false_and]
    exact Nat.zero_testBit i
  | n + 1, i => by
    have hlt := B_lt g n
    by_cases h1 : n < i
    · rw [decide_eq_false (by omega), Bool.false_and]
      exact Nat.testBit_lt_two_pow (Nat.lt_of_lt_of_le (B_lt g (n + 1)) (Nat.pow_le_pow_right (by decide) (by omega)))
    · show (B g n + (if g n = true then 2 ^ n else 0)).testBit i = _
      by_cases h2 : i = n
      · subst h2
        rw [decide_eq_true (by omega), Bool.true_and]
        cases e : g i with
        | true => rw [if_pos rfl, Nat.add_comm, Nat.testBit_two_pow_add_eq, Nat.testBit_lt_two_pow hlt]; rfl
        | false => rw [if_neg (by decide), Nat.add_zero, Nat.testBit_lt_two_pow hlt]
      · rw [decide_eq_true (by omega : i < n + 1), Bool.true_and]
        have ih := B_bit g n i
        rw [decide_eq_true (by omega : i < n), Bool.true_and] at ih
        cases e : g n with
        | true => rw [if_pos rfl, Nat.add_comm, Nat.testBit_two_pow_add_gt (by omega), ih]
        | false => rw [if_neg (by decide), Nat.add_zero, ih]
theorem S_B (g : Nat → Bool) : ∀ n, S (fun x => if g x = true then (2 : Int) ^ x else 0) n = (B g n : Nat)
  | 0 => rfl
  | n + 1 => by
    show S _ n + (if g n = true then (2 : Int) ^ n else 0) = ((B g n + (if g n = true then 2 ^ n else 0) : Nat) : Int)
    rw [S_B g n]
    split
    · rw [Int.natCast_add, Int.natCast_pow]; rfl
    · rfl
theorem numOf_ok {s : Sty} {n : Nat} (hs : Rs s) (hb : Below n s) : ∃ m : Nat, numOf s = (m : Nat) ∧ m < 2 ^ n ∧ StoryN m s := by
  refine ⟨B (fun x => sil s x) n, ?_, B_lt _ _, hs, fun x => ?_⟩
  · rw [← S_B]
    unfold numOf
    have e := telesc (fun x => (2 : Int) ^ x) hs hb
    rw [show (s.map fun p => (1 : Int) * 2 ^ p.2.toNat - 1 * 2 ^ p.1.toNat) = s.map fun p => (2 : Int) ^ p.2.toNat - 2 ^ p.1.toNat from List.map_congr_left fun p _ => by rw [Int.one_mul, Int.one_mul], e]
    refine S_congr fun x _ => ?_
    have : (2 : Int) ^ (x + 1) - 2 ^ x = 2 ^ x := by
      rw [Int.pow_succ]
      omega
    show (if sil s x = true then (2 : Int) ^ (x + 1) - 2 ^ x else 0) = _
    rw [this]
  · rw [B_bit, Bool.eq_iff_iff]
    simp only [Bool.and_eq_true, decide_eq_true_eq]
    constructor
    · intro e
      have a := hs.sil_nonneg e
      have b := hb.sil e
      exact ⟨a, by omega, by rw [show ((x.toNat : Nat) : Int) = x by omega]; exact e⟩
    · rintro ⟨a, b, c⟩
      rw [show ((x.toNat : Nat) : Int) = x by omega] at c
      exact c
/-- number and story lead back to one another -/
theorem StoryN.uniq {m : Nat} {s t : Sty} (h : StoryN m s) (k : StoryN m t) : s = t := Kp.uniq h.rs k.rs fun x => by rw [h.sil, k.sil]

/-! ### silent_many -/
def silMany (s : Sty) (f l : Int) : Int := (s.map fun p => mx 0 (mn p.2 l - mx p.1 f)).sum
def cnt (g : Nat → Bool) (n : Nat) : Int := S (fun x => if g x = true then 1 else 0) n
theorem cnt_congr {g h : Nat → Bool} {n : Nat} (e : ∀ x, x < n → g x = h x) : cnt g n = cnt h n := S_congr fun x l => by rw [e x l]
theorem one_many {p : Int × Int} {f l : Int} {n : Nat} (h0 : 0 ≤ p.1) (hn : p.2 ≤ n) : mx 0 (mn p.2 l - mx p.1 f) = S (fun x => if (inS p x && decide (f ≤ x) && decide (x < l)) = true then 1 else 0) n := by
  have e1 : ∀ x : Nat, ((inS p x && decide (f ≤ x) && decide (x < l)) = true ↔ mx p.1 f ≤ x ∧ (x : Int) < mn p.2 l) := fun x => by
    rw [Bool.and_eq_true, Bool.and_eq_true, inS_iff, decide_eq_true_eq, decide_eq_true_eq, mx_le, lt_mn]
    omega
  have hm : 0 ≤ mx p.1 f := Int.le_trans h0 (mx_le_l _ _)
  have hn2 : mn p.2 l ≤ n := by unfold mn; split <;> omega
  by_cases c : mx p.1 f ≤ mn p.2 l
  · have e := S_interval (fun x => (x : Int)) (mx p.1 f).toNat (mn p.2 l).toNat (by omega) n
    rw [Nat.min_eq_left (by omega), Nat.min_eq_left (by omega)] at e
    rw [show mx 0 (mn p.2 l - mx p.1 f) = ((mn p.2 l).toNat : Int) - ((mx p.1 f).toNat : Int) by
      unfold mx
      show (if mn p.2 l - (if f > p.1 then f else p.1) > 0 then mn p.2 l - (if f > p.1 then f else p.1) else 0) = _
      have : (if f > p.1 then f else p.1) = mx p.1 f := rfl
      rw [this]
      split <;> omega, ← e]
    refine S_congr fun x _ => ?_
    by_cases z : mx p.1 f ≤ x ∧ (x : Int) < mn p.2 l
    · rw [if_pos (by omega), if_pos ((e1 x).mpr z)]
      omega
    · rw [if_neg (by omega), if_neg (fun q => z ((e1 x).mp q))]
  · rw [show mx 0 (mn p.2 l - mx p.1 f) = 0 by
      have : ¬ mn p.2 l - mx p.1 f > 0 := by omega
      show (if mn p.2 l - mx p.1 f > 0 then mn p.2 l - mx p.1 f else 0) = 0
      rw [if_neg this]]
    rw [S_congr (h := fun _ => 0) fun x _ => if_neg fun q => by have := (e1 x).mp q; omega, S_zero]
theorem silMany_cnt : ∀ {s : Sty} {n : Nat} {f l : Int}, Rs s → Below n s → silMany s f l = cnt (fun x => sil s x && decide (f ≤ x) && decide (x < l)) n
  | [], n, f, l, _, _ => by
    show (0 : Int) = _
    unfold cnt
    rw [S_congr (h := fun _ => 0) fun x _ => if_neg (by show ¬ (sil [] x && decide (f ≤ x) && decide ((x : Int) < l)) = true; rw [sil_nil, Bool.false_and, Bool.false_and]; decide), S_zero]
  | p :: s, n, f, l, hs, hb => by
    have hp := hs.head
    show mx 0 (mn p.2 l - mx p.1 f) + silMany s f l = _
    rw [silMany_cnt hs.tail hb.tail, one_many (n := n) hp.1 (hb p List.mem_cons_self)]
    unfold cnt
    rw [← S_add]
    refine S_congr fun x _ => ?_
    have z2 : sil s x = true → p.2 < x := fun e => hs.sil_tail_gt e
    show _ = if (sil (p :: s) x && decide (f ≤ x) && decide ((x : Int) < l)) = true then 1 else 0
    rw [sil_cons]
    show _ + (if (sil s x && decide (f ≤ x) && decide ((x : Int) < l)) = true then 1 else 0) = _
    cases c : sil s x with
    | true =>
      have a := z2 c
      have b : inS p x = false := by
        rw [Bool.eq_false_iff]
        intro q
        have := inS_iff.mp q
        omega
      rw [b]
      simp
    | false => simp
theorem cnt_all {n : Nat} {a b : Int} (h0 : 0 ≤ a) (hab : a ≤ b) (hb : b ≤ n) : cnt (fun x => decide (a ≤ x) && decide ((x : Int) < b)) n = b - a := by
  unfold cnt
  have e := S_interval (fun x => (x : Int)) a.toNat b.toNat (by omega) n
  rw [Nat.min_eq_left (by omega), Nat.min_eq_left (by omega)] at e
  rw [show b - a = (b.toNat : Int) - (a.toNat : Int) by omega, ← e]
  refine S_congr fun x _ => ?_
  show (if (decide (a ≤ x) && decide ((x : Int) < b)) = true then (1 : Int) else 0) = _
  by_cases z : a ≤ x ∧ (x : Int) < b
  · rw [if_pos (show (decide (a ≤ (x : Int)) && decide ((x : Int) < b)) = true by rw [Bool.and_eq_true, decide_eq_true_eq, decide_eq_true_eq]; exact z), if_pos (show a.toNat ≤ x ∧ x < b.toNat by omega)]
    omega
  · rw [if_neg (show ¬ (decide (a ≤ (x : Int)) && decide ((x : Int) < b)) = true by rw [Bool.and_eq_true, decide_eq_true_eq, decide_eq_true_eq]; exact z), if_neg (show ¬ (a.toNat ≤ x ∧ x < b.toNat) by omega)]
theorem cnt_none {g : Nat → Bool} {n : Nat} (h : ∀ x, x < n → g x = false) : cnt g n = 0 := by
  unfold cnt
  rw [S_congr (h := fun _ => 0) fun x l => by rw [h x l]; rfl, S_zero]
/-- all silent ones below n -/
theorem silMany_all {s : Sty} {n : Nat} {l : Int} (hs : Rs s) (hb : Below n s) (hl : n ≤ l) : silMany s 0 l = cnt (fun x => sil s x) n := by
  rw [silMany_cnt hs hb]
  refine cnt_congr fun x h => ?_
  rw [decide_eq_true (by omega : (0 : Int) ≤ x), decide_eq_true (by omega : (x : Int) < l), Bool.and_true, Bool.and_true]
/-- all of a range are silent -/
theorem silMany_full {s : Sty} {n : Nat} {a b : Int} (hs : Rs s) (hn : Below n s) (h0 : 0 ≤ a) (hab : a ≤ b) (h : ∀ x, a ≤ x → x < b → sil s x = true) : silMany s a b = b - a := by
  have hb : b ≤ n ∨ a = b := by
    by_cases c : a = b
    · exact .inr c
    · have := hn.sil (h (b - 1) (by omega) (by omega))
      exact .inl (by omega)
  rw [silMany_cnt hs hn]
  rcases hb with hb | hb
  · rw [← cnt_all (n := n) h0 hab hb]
    refine cnt_congr fun x _ => ?_
    rw [Bool.eq_iff_iff]
    simp only [Bool.and_eq_true, decide_eq_true_eq]
    constructor
    · rintro ⟨⟨_, q1⟩, q2⟩; exact ⟨q1, q2⟩
    · rintro ⟨q1, q2⟩; exact ⟨⟨h _ q1 q2, q1⟩, q2⟩
  · rw [hb, cnt_none fun x _ => ?_]
    · omega
    · rw [Bool.eq_false_iff]
      simp only [ne_eq, Bool.and_eq_true, decide_eq_true_eq]
      omega
/-- none of a range is silent -/
theorem silMany_empty {s : Sty} {n : Nat} {a b : Int} (hs : Rs s) (hn : Below n s) (h : ∀ x, a ≤ x → x < b → sil s x = false) : silMany s a b = 0 := by
  rw [silMany_cnt hs hn, cnt_none fun x _ => ?_]
  rw [Bool.eq_false_iff]
  simp only [ne_eq, Bool.and_eq_true, decide_eq_true_eq]
  rintro ⟨⟨q, q1⟩, q2⟩
  rw [h _ q1 q2] at q
  cases q
theorem cnt_split {g h u v : Nat → Bool} {n : Nat} (e : ∀ x, x < n → (if g x = true then (1 : Int) else 0) + (if h x = true then 1 else 0) = (if u x = true then 1 else 0) + (if v x = true then 1 else 0)) : cnt g n + cnt h n = cnt u n + cnt v n := by
  unfold cnt
  rw [← S_add, ← S_add]
  exact S_congr e
theorem cnt_true {n : Nat} : cnt (fun _ => true) n = n := by
  unfold cnt
  exact S_one
theorem cnt_false {n : Nat} : cnt (fun _ => false) n = 0 := S_zero
/-- marks and their count -/
def marksF (s : Sty) (n : Nat) : List Bool := (List.range n).map fun i => sil s (i : Nat)
theorem marks_count (s : Sty) : ∀ n : Nat, ((marksF s n).count true : Int) = cnt (fun x => sil s x) n
  | 0 => rfl
  | n + 1 => by
    unfold marksF
    rw [List.range_succ, List.map_append, List.count_append]
    have ih := marks_count s n
    unfold marksF at ih
    show ((_ + _ : Nat) : Int) = S _ n + _
    rw [Int.natCast_add, ih]
    unfold cnt
    congr 1
    show ((List.count true [sil s (n : Nat)] : Nat) : Int) = if sil s (n : Nat) = true then 1 else 0
    cases sil s (n : Nat) <;> rfl

/-! ### the next ones -/
def nextSound : Sty → Int → Int
  | [], b => b
  | p :: s, b => if inS p b = true then p.2 else nextSound s b
theorem nextSound_ge : ∀ (s : Sty) (b : Int), b ≤ nextSound s b
  | [], b => Int.le_refl _
  | p :: s, b => by
    unfold nextSound
    by_cases c : inS p b = true
    · rw [if_pos c]
      have := inS_iff.mp c
      omega
    · rw [if_neg c]
      exact nextSound_ge s b
theorem nextSound_all : ∀ {s : Sty} {b : Int} (x : Int), b ≤ x → x < nextSound s b → sil s x = true
  | [], b, x, h1, h2 => by
    have : x < b := h2
    omega
  | p :: s, b, x, h1, h2 => by
    unfold nextSound at h2
    rw [sil_cons]
    by_cases c : inS p b = true
    · rw [if_pos c] at h2
      have := inS_iff.mp c
      rw [inS_iff.mpr ⟨by omega, h2⟩, Bool.true_or]
    · rw [if_neg c] at h2
      rw [nextSound_all x h1 h2, Bool.or_true]
theorem nextSound_sound : ∀ {s : Sty} {b : Int}, Rs s → sil s (nextSound s b) = false
  | [], b, _ => rfl
  | p :: s, b, hs => by
    unfold nextSound
    by_cases c : inS p b = true
    · rw [if_pos c]
      exact hs.sil_end
    · rw [if_neg c, sil_cons, nextSound_sound hs.tail, Bool.or_false, Bool.eq_false_iff]
      intro q
      have q1 := inS_iff.mp q
      have g := nextSound_ge s b
      by_cases c2 : b = nextSound s b
      · rw [← c2] at q
        exact c q
      · have z := hs.sil_tail_gt (nextSound_all (s := s) b (Int.le_refl _) (by omega))
        omega
theorem nextSound_le {s : Sty} {b n : Int} (hb : Below n s) (h : b ≤ n) : nextSound s b ≤ n := by
  by_cases c : nextSound s b ≤ b
  · omega
  · have g := nextSound_ge s b
    have := hb.sil (nextSound_all (s := s) (b := b) (nextSound s b - 1) (by omega) (by omega))
    omega
def nextSilent : Sty → Int → Option Int
  | [], _ => none
  | p :: s, b => if b < p.2 then some (mx b p.1) else nextSilent s b
theorem nextSilent_some : ∀ {s : Sty} {b y : Int}, Rs s → nextSilent s b = some y → sil s y = true ∧ b ≤ y ∧ ∀ x, b ≤ x → x < y → sil s x = false
  | [], b, y, _, h => by cases h
  | p :: s, b, y, hs, h => by
    unfold nextSilent at h
    have hp := hs.head
    by_cases c : b < p.2
    · rw [if_pos c] at h
      have e : mx b p.1 = y := Option.some.inj h
      have h1 : p.1 ≤ y := by rw [← e]; exact mx_le_r _ _
      have h2 : y < p.2 := by rw [← e]; unfold mx; split <;> omega
      refine ⟨?_, by rw [← e]; exact mx_le_l _ _, fun x k1 k2 => ?_⟩
      · rw [sil_cons, inS_iff.mpr ⟨h1, h2⟩, Bool.true_or]
      · have k3 : x < p.1 := by
          rw [← e] at k2
          rcases lt_mx.mp k2 with k | k
          · omega
          · exact k
        rw [Bool.eq_false_iff]
        intro q
        have := hs.sil_ge q
        omega
    · rw [if_neg c] at h
      obtain ⟨a1, a2, a3⟩ := nextSilent_some hs.tail h
      refine ⟨by rw [sil_cons, a1, Bool.or_true], a2, fun x k1 k2 => ?_⟩
      rw [sil_cons, a3 x k1 k2, Bool.or_false, Bool.eq_false_iff]
      intro q
      have := inS_iff.mp q
      omega
theorem nextSilent_none : ∀ {s : Sty} {b : Int}, nextSilent s b = none → Below b s
  | [], b, _ => fun _ z => absurd z (by simp)
  | p :: s, b, h => by
    unfold nextSilent at h
    by_cases c : b < p.2
    · rw [if_pos c] at h
      cases h
    · rw [if_neg c] at h
      intro q z
      rcases List.mem_cons.mp z with e | z
      · rw [e]; omega
      · exact nextSilent_none h q z
theorem below_sil {s : Sty} {b : Int} (h : Below b s) {x : Int} (l : b ≤ x) : sil s x = false := by
  rw [Bool.eq_false_iff]
  intro e
  have := h.sil e
  omega
/-- healed_at -/
def healed (s : Sty) : Int := match s.getLast? with
  | none => 0
  | some p => p.2
theorem healed_le {s : Sty} {n : Int} (h : Below n s) (h0 : 0 ≤ n) : healed s ≤ n := by
  rcases snoc_cases s with e | ⟨m, q, e⟩
  · subst e; exact h0
  · subst e
    unfold healed
    rw [List.getLast?_concat]
    exact h q (List.mem_append_right _ (List.mem_singleton.mpr rfl))

/-! ### the longest -/
/-- p is a longest one of s -/
def Longest (p : Int × Int) (s : Sty) : Prop := p ∈ s ∧ ∀ q ∈ s, q.2 - q.1 ≤ p.2 - p.1

/-! ### looks: (beat, true) is "sound" -/
abbrev Lk := Int × Bool
def lkOf (p : Int × Int) : List Lk := [(p.2, true), (p.1, false), (p.2 - 1, false)]
def looksOf (s : Sty) : List Lk := s.flatMap lkOf
/-- the same in order -/
def lkIn (p : Int × Int) : List Lk := [(p.1, false), (p.2 - 1, false), (p.2, true)]
def looksIn (s : Sty) : List Lk := s.flatMap lkIn
theorem looks_len (s : Sty) : (looksOf s).length = 3 * s.length := by
  induction s with
  | nil => rfl
  | cons p s ih =>
    show (lkOf p ++ looksOf s).length = 3 * (s.length + 1)
    rw [List.length_append, ih]
    show 3 + _ = _
    omega
theorem looks_perm : ∀ s : Sty, (looksIn s).Perm (looksOf s)
  | [] => List.Perm.refl _
  | p :: s => by
    show (lkIn p ++ looksIn s).Perm (lkOf p ++ looksOf s)
    refine List.Perm.append ?_ (looks_perm s)
    show ([(p.1, false), (p.2 - 1, false)] ++ [(p.2, true)] : List Lk).Perm ([(p.2, true)] ++ [(p.1, false), (p.2 - 1, false)])
    exact List.perm_append_comm
def lkLt (a b : Lk) : Bool := if a.1 = b.1 then (!a.2 && b.2) else decide (a.1 < b.1)
def lkLe (a b : Lk) : Prop := lkLt b a = false
theorem lkLe_iff {a b : Lk} : lkLe a b ↔ a.1 < b.1 ∨ (a.1 = b.1 ∧ (a.2 = true → b.2 = true)) := by
  unfold lkLe lkLt
  by_cases e : b.1 = a.1
  · rw [if_pos e]
    cases a.2 <;> cases b.2 <;> simp <;> omega
  · rw [if_neg e, decide_eq_false_iff_not]
    omega
theorem lkLe_antisymm {a b : Lk} (h : lkLe a b) (k : lkLe b a) : a = b := by
  have h := lkLe_iff.mp h
  have k := lkLe_iff.mp k
  have e : a.1 = b.1 := by omega
  refine Prod.ext e ?_
  have h2 := (h.resolve_left (by omega)).2
  have k2 := (k.resolve_left (by omega)).2
  cases ha : a.2 <;> cases hb : b.2
  · rfl
  · exact absurd (k2 hb) (by rw [ha]; decide)
  · exact absurd (h2 ha) (by rw [hb]; decide)
  · rfl
theorem looksIn_ge : ∀ {s : Sty} {p : Int × Int}, Rs (p :: s) → ∀ l ∈ looksIn s, p.2 < l.1 := fun {s p} hs l h => by
  obtain ⟨q, hq, hl⟩ := List.mem_flatMap.mp h
  have a := hs.after q hq
  have b := hs.tail.ok q hq
  have hl' : l ∈ [((q.1, false) : Lk), (q.2 - 1, false), (q.2, true)] := hl
  rcases List.mem_cons.mp hl' with e | hl'
  · rw [e]; exact a
  · rcases List.mem_cons.mp hl' with e | hl'
    · rw [e]; show p.2 < q.2 - 1; omega
    · rw [List.mem_singleton.mp hl']; show p.2 < q.2; omega
theorem looksIn_sorted : ∀ {s : Sty}, Rs s → (looksIn s).Pairwise lkLe
  | [], _ => .nil
  | p :: s, hs => by
    show (lkIn p ++ looksIn s).Pairwise lkLe
    have hp := hs.head
    refine List.pairwise_append.mpr ⟨?_, looksIn_sorted hs.tail, fun a ha b hb => ?_⟩
    · show ([((p.1, false) : Lk), (p.2 - 1, false), (p.2, true)]).Pairwise lkLe
      refine List.pairwise_cons.mpr ⟨fun b hb => ?_, List.pairwise_cons.mpr ⟨fun b hb => ?_, List.pairwise_singleton _ _⟩⟩
      · rcases List.mem_cons.mp hb with e | hb
        · rw [e]
          refine lkLe_iff.mpr ?_
          by_cases c : p.1 = p.2 - 1
          · exact .inr ⟨c, fun z => by cases z⟩
          · exact .inl (by show p.1 < p.2 - 1; omega)
        · rw [List.mem_singleton.mp hb]
          exact lkLe_iff.mpr (.inl hp.2)
      · rw [List.mem_singleton.mp hb]
        exact lkLe_iff.mpr (.inl (by show p.2 - 1 < p.2; omega))
    · have hb2 := looksIn_ge hs b hb
      have ha2 : a.1 ≤ p.2 := by
        have ha' : a ∈ [((p.1, false) : Lk), (p.2 - 1, false), (p.2, true)] := ha
        rcases List.mem_cons.mp ha' with e | ha'
        · rw [e]; show p.1 ≤ p.2; omega
        · rcases List.mem_cons.mp ha' with e | ha'
          · rw [e]; show p.2 - 1 ≤ p.2; omega
          · rw [List.mem_singleton.mp ha']; exact Int.le_refl _
      exact lkLe_iff.mpr (.inl (by omega))
/-- sorted lists with the same things are one -/
theorem sorted_one {α : Type} {le : α → α → Prop} (anti : ∀ a b, le a b → le b a → a = b) : ∀ {l m : List α}, l.Perm m → l.Pairwise le → m.Pairwise le → l = m
  | [], m, h, _, _ => (List.Perm.eq_nil h.symm).symm
  | x :: l, [], h, _, _ => absurd h.length_eq (by simp)
  | x :: l, y :: m, h, hl, hm => by
    have e : x = y := by
      have h1 : y ∈ x :: l := h.mem_iff.mpr List.mem_cons_self
      have h2 : x ∈ y :: m := h.mem_iff.mp List.mem_cons_self
      rcases List.mem_cons.mp h1 with e | h1
      · exact e.symm
      · rcases List.mem_cons.mp h2 with e | h2
        · exact e
        · exact anti x y ((List.pairwise_cons.mp hl).1 y h1) ((List.pairwise_cons.mp hm).1 x h2)
    subst e
    rw [sorted_one anti h.cons_inv (List.pairwise_cons.mp hl).2 (List.pairwise_cons.mp hm).2]
/-- one turn of story_for's loop: what is found, whether apart; none where it is left -/
def sfStep (st : Sty × Bool) (l : Lk) : Option (Sty × Bool) := match l.2 with
  | true => match st.1.getLast? with
    | none => some (st.1, true)
    | some q => if q.2 > l.1 then none else some (st.1, true)
  | false => match st.2 with
    | true => some (st.1 ++ [(l.1, l.1 + 1)], false)
    | false => match st.1.getLast? with
      | none => none
      | some q => some (st.1.dropLast ++ [(q.1, l.1 + 1)], false)
def sfRun : List Lk → Sty × Bool → Option (Sty × Bool)
  | [], st => some st
  | l :: r, st => (sfStep st l).bind (sfRun r)
theorem sfRun_append : ∀ (l r : List Lk) (st : Sty × Bool), sfRun (l ++ r) st = (sfRun l st).bind (sfRun r)
  | [], r, st => rfl
  | x :: l, r, st => by
    show (sfStep st x).bind (sfRun (l ++ r)) = ((sfStep st x).bind (sfRun l)).bind (sfRun r)
    cases sfStep st x with
    | none => rfl
    | some z => exact sfRun_append l r z
theorem sfRun_one (f : Sty) (p : Int × Int) (h : p.1 < p.2) : sfRun (lkIn p) (f, true) = some (f ++ [p], true) := by
  show (sfStep (f, true) (p.1, false)).bind (sfRun [(p.2 - 1, false), (p.2, true)]) = _
  show (sfStep (f ++ [(p.1, p.1 + 1)], false) (p.2 - 1, false)).bind (sfRun [(p.2, true)]) = _
  have e1 : sfStep (f ++ [(p.1, p.1 + 1)], false) (p.2 - 1, false) = some (f ++ [(p.1, p.2 - 1 + 1)], false) := by
    unfold sfStep
    show (match (f ++ [(p.1, p.1 + 1)]).getLast? with
      | none => none
      | some q => some ((f ++ [(p.1, p.1 + 1)]).dropLast ++ [(q.1, p.2 - 1 + 1)], false)) = _
    rw [List.getLast?_concat, List.dropLast_concat]
  rw [e1, show p.2 - 1 + 1 = p.2 by omega]
  show (sfStep (f ++ [(p.1, p.2)], false) (p.2, true)).bind (sfRun []) = _
  have e2 : sfStep (f ++ [(p.1, p.2)], false) (p.2, true) = some (f ++ [(p.1, p.2)], true) := by
    unfold sfStep
    show (match (f ++ [(p.1, p.2)]).getLast? with
      | none => some (f ++ [(p.1, p.2)], true)
      | some q => if q.2 > p.2 then none else some (f ++ [(p.1, p.2)], true)) = _
    rw [List.getLast?_concat]
    show (if p.2 > p.2 then none else some (f ++ [(p.1, p.2)], true)) = _
    rw [if_neg (by omega)]
  rw [e2]
  rfl
theorem sfRun_looks : ∀ {s : Sty} (f : Sty), Rs s → sfRun (looksIn s) (f, true) = some (f ++ s, true)
  | [], f, _ => by rw [List.append_nil]; rfl
  | p :: s, f, hs => by
    show sfRun (lkIn p ++ looksIn s) (f, true) = _
    rw [sfRun_append, sfRun_one f p hs.head.2]
    show sfRun (looksIn s) (f ++ [p], true) = _
    rw [sfRun_looks (f ++ [p]) hs.tail, List.append_assoc]
    rfl
theorem sfRun_take {L : List Lk} {st z : Sty × Bool} (h : sfRun L st = some z) (i : Nat) : ∃ y, sfRun (L.take i) st = some y := by
  rw [← List.take_append_drop i L, sfRun_append] at h
  cases e : sfRun (L.take i) st with
  | none => rw [e] at h; cases h
  | some y => exact ⟨y, rfl⟩
theorem sfRun_next {L : List Lk} {st z : Sty × Bool} (h : sfRun L st = some z) {i : Nat} {l : Lk} {y : Sty × Bool} (hi : L[i]? = some l) (hy : sfRun (L.take i) st = some y) :
    ∃ y', sfStep y l = some y' ∧ sfRun (L.take (i + 1)) st = some y' := by
  obtain ⟨y', e⟩ := sfRun_take h (i + 1)
  have e2 := e
  rw [List.take_add_one, hi, sfRun_append, hy] at e2
  refine ⟨y', ?_, e⟩
  have e3 : (sfStep y l).bind (sfRun []) = some y' := e2
  cases q : sfStep y l with
  | none => rw [q] at e3; cases e3
  | some w => rw [q] at e3; exact e3
/-- what holds tells -/
def lkHeld (s : Sty) (l : Lk) : Bool := decide (sil s l.1 = !l.2)
theorem held_of {s : Sty} (hs : Rs s) : ∀ {t : Sty}, (∀ p ∈ t, p ∈ s) → ∀ l ∈ looksOf t, sil s l.1 = !l.2 := fun {t} ht l hl => by
  obtain ⟨p, hp, h⟩ := List.mem_flatMap.mp hl
  have hps := ht p hp
  have ok := hs.ok p hps
  have hl' : l ∈ [((p.2, true) : Lk), (p.1, false), (p.2 - 1, false)] := h
  have e1 : ∀ x, p.1 ≤ x → x < p.2 → sil s x = true := fun x a b => sil_iff.mpr ⟨p, hps, a, b⟩
  rcases List.mem_cons.mp hl' with e | hl'
  · rw [e]
    show sil s p.2 = false
    obtain ⟨a, b, rfl⟩ := List.append_of_mem hps
    rw [sil_append, Bool.or_eq_false_iff]
    refine ⟨?_, hs.back.sil_end⟩
    rw [Bool.eq_false_iff]
    intro q
    obtain ⟨r, hr, k1, k2⟩ := sil_iff.mp q
    have := hs.cross r hr p List.mem_cons_self
    omega
  · rcases List.mem_cons.mp hl' with e | hl'
    · rw [e]; exact e1 _ (Int.le_refl _) ok.2
    · rw [List.mem_singleton.mp hl']; exact e1 _ (by omega) (by show p.2 - 1 < p.2; omega)
end Kp

namespace Kp
/-! ### chosen_many -/
def chF (n : Nat) : Nat → Int
  | 0 => 1
  | t + 1 => chF n t * ((n : Int) - (t : Int)) / ((t : Int) + 1)
theorem chF_ok : ∀ n : Nat, n ≤ 8 → ∀ t : Nat, t ≤ 8 → 0 ≤ chF n t ∧ chF n t ≤ 300 ∧ (t ≤ n → chF n t ≠ 0) := by
  have h : (List.range 9).all (fun n => (List.range 9).all fun t => decide (0 ≤ chF n t) && decide (chF n t ≤ 300) && (!decide (t ≤ n) || !decide (chF n t = 0))) = true := by decide +kernel
  intro n hn t ht
  have h1 := List.all_eq_true.mp h n (List.mem_range.mpr (by omega))
  have h2 := List.all_eq_true.mp h1 t (List.mem_range.mpr (by omega))
  rw [Bool.and_eq_true, Bool.and_eq_true, Bool.or_eq_true, decide_eq_true_eq, decide_eq_true_eq] at h2
  refine ⟨h2.1.1, h2.1.2, fun l => ?_⟩
  rcases h2.2 with q | q
  · rw [decide_eq_true l] at q; cases q
  · intro e
    rw [decide_eq_true e] at q
    cases q
/-! ### beats_chosen: at (b, j) the numbers of b beats with j silent ones -/
def C : Nat → Nat → List Int
  | 0, 0 => [0]
  | 0, _ + 1 => []
  | b + 1, 0 => C b 0
  | b + 1, j + 1 => C b (j + 1) ++ (C b j).map (· + (1 : Int) * 2 ^ b)
theorem C_len : ∀ b j, (C b j).length ≤ 2 ^ b
  | 0, 0 => Nat.le_refl _
  | 0, _ + 1 => Nat.zero_le _
  | b + 1, 0 => by
    have := C_len b 0
    show (C b 0).length ≤ 2 ^ (b + 1)
    rw [Nat.pow_succ]
    omega
  | b + 1, j + 1 => by
    have a1 := C_len b (j + 1)
    have a2 := C_len b j
    show (C b (j + 1) ++ (C b j).map _).length ≤ 2 ^ (b + 1)
    rw [List.length_append, List.length_map, Nat.pow_succ]
    omega
theorem C_bd : ∀ b j, ∀ x ∈ C b j, ∃ m : Nat, x = (m : Int) ∧ m < 2 ^ b
  | 0, 0, x, h => ⟨0, by rw [List.mem_singleton.mp h]; rfl, by decide⟩
  | 0, _ + 1, x, h => absurd h (by show ¬ x ∈ []; simp)
  | b + 1, 0, x, h => by
    obtain ⟨m, e, l⟩ := C_bd b 0 x h
    refine ⟨m, e, ?_⟩
    rw [Nat.pow_succ]
    omega
  | b + 1, j + 1, x, h => by
    have h : x ∈ C b (j + 1) ++ (C b j).map (· + (1 : Int) * 2 ^ b) := h
    rcases List.mem_append.mp h with h | h
    · obtain ⟨m, e, l⟩ := C_bd b (j + 1) x h
      refine ⟨m, e, ?_⟩
      rw [Nat.pow_succ]
      omega
    · obtain ⟨y, hy, rfl⟩ := List.mem_map.mp h
      obtain ⟨m, rfl, l⟩ := C_bd b j y hy
      refine ⟨m + 2 ^ b, ?_, ?_⟩
      · rw [Int.natCast_add, Int.natCast_pow, Int.one_mul]
        rfl
      · rw [Nat.pow_succ]
        omega
theorem cnt_succ (g : Nat → Bool) (n : Nat) : cnt g (n + 1) = cnt g n + (if g n = true then 1 else 0) := rfl
theorem cnt_nonneg (g : Nat → Bool) : ∀ n, 0 ≤ cnt g n
  | 0 => Int.le_refl _
  | n + 1 => by
    have := cnt_nonneg g n
    rw [cnt_succ]
    split <;> omega
theorem cnt_le (g : Nat → Bool) : ∀ n : Nat, cnt g n ≤ n
  | 0 => Int.le_refl _
  | n + 1 => by
    have := cnt_le g n
    rw [cnt_succ]
    split <;> omega
theorem C_has : ∀ (b j m : Nat), m < 2 ^ b → cnt (fun x => m.testBit x) b = (j : Nat) → (m : Int) ∈ C b j
  | 0, 0, m, h, _ => by
    have : m = 0 := by
      have : m < 1 := h
      omega
    subst this
    exact List.mem_singleton.mpr rfl
  | 0, j + 1, m, h, e => by
    have e : (0 : Int) = ((j + 1 : Nat) : Int) := e
    omega
  | b + 1, 0, m, h, e => by
    rw [cnt_succ] at e
    have z := cnt_nonneg (fun x => m.testBit x) b
    cases q : m.testBit b with
    | true =>
      rw [q, if_pos rfl] at e
      omega
    | false =>
      rw [q, if_neg (by decide)] at e
      refine C_has b 0 m ?_ (by omega)
      by_cases c : m < 2 ^ b
      · exact c
      · have l : m < 2 ^ b + 2 ^ b := by rw [Nat.pow_succ] at h; omega
        have em : m = 2 ^ b + (m - 2 ^ b) := by omega
        rw [em, Nat.testBit_two_pow_add_eq, Nat.testBit_lt_two_pow (by omega)] at q
        cases q
  | b + 1, j + 1, m, h, e => by
    rw [cnt_succ] at e
    show (m : Int) ∈ C b (j + 1) ++ (C b j).map (· + (1 : Int) * 2 ^ b)
    by_cases c : m < 2 ^ b
    · have q : m.testBit b = false := Nat.testBit_lt_two_pow c
      rw [q, if_neg (by decide)] at e
      exact List.mem_append_left _ (C_has b (j + 1) m c (by omega))
    · have l : m < 2 ^ b + 2 ^ b := by rw [Nat.pow_succ] at h; omega
      have em : m = 2 ^ b + (m - 2 ^ b) := by omega
      have q : m.testBit b = true := by
        rw [em, Nat.testBit_two_pow_add_eq, Nat.testBit_lt_two_pow (by omega)]
        rfl
      rw [q, if_pos rfl] at e
      have e2 : cnt (fun x => (m - 2 ^ b).testBit x) b = (j : Nat) := by
        rw [← show cnt (fun x => m.testBit x) b = (j : Nat) by omega]
        refine cnt_congr fun x hx => ?_
        have ex : m.testBit x = (2 ^ b + (m - 2 ^ b)).testBit x := congrArg (fun z => Nat.testBit z x) em
        show (m - 2 ^ b).testBit x = m.testBit x
        rw [ex, Nat.testBit_two_pow_add_gt hx]
      refine List.mem_append_right _ (List.mem_map.mpr ⟨_, C_has b j (m - 2 ^ b) (by omega) e2, ?_⟩)
      rw [Int.one_mul]
      have : ((2 ^ b : Nat) : Int) = (2 : Int) ^ b := by rw [Int.natCast_pow]; rfl
      omega
/-- the other way round: all beats but those -/
theorem cnt_flip {n m : Nat} (h : m < 2 ^ n) : cnt (fun x => (2 ^ n - 1 - m).testBit x) n = n - cnt (fun x => m.testBit x) n := by
  have e := cnt_split (n := n) (g := fun x => (2 ^ n - 1 - m).testBit x) (h := fun x => m.testBit x) (u := fun _ => true) (v := fun _ => false) fun x hx => by
    have q := Nat.testBit_two_pow_sub_succ h x
    rw [show 2 ^ n - (m + 1) = 2 ^ n - 1 - m by omega, decide_eq_true hx, Bool.true_and] at q
    show (if (2 ^ n - 1 - m).testBit x = true then (1 : Int) else 0) + (if m.testBit x = true then 1 else 0) = (if true = true then 1 else 0) + (if false = true then 1 else 0)
    rw [q]
    cases m.testBit x <;> rfl
  rw [cnt_true, cnt_false] at e
  omega
end Kp

namespace Kp
open PySem PySem.Spec PyProof.Rows L2
/-! ### the text -/
def topS (i : Nat) : Stmt := PySem.Challenge.pw_knockpurse_k17_whole_stories.main.body.getD i (.Pass ⟨0, 0, 0, 0⟩)
/-- what the top has written besides the defs: the built-in names that it uses stand for themselves; the constants; WORDS -/
structure Txt (K : PySem.W.Frag) (mg : Str → Option Value) (t1 t2 t3 t4 : Tok) (aW : Addr) : Prop where
  m_isinstance : mg "isinstance" = none
  m_int : mg "int" = none
  m_bool : mg "bool" = none
  m_tuple : mg "tuple" = none
  m_str : mg "str" = none
  m_len : mg "len" = none
  m_all : mg "all" = none
  m_any : mg "any" = none
  m_zip : mg "zip" = none
  m_sorted : mg "sorted" = none
  m_max : mg "max" = none
  m_min : mg "min" = none
  m_sum : mg "sum" = none
  m_range : mg "range" = none
  m_enumerate : mg "enumerate" = none
  c_MOST_BEAT : mg "MOST_BEAT" = some (.int 1000000 t1)
  c_MOST_STRETCHES : mg "MOST_STRETCHES" = some (.int 200 t2)
  c_MOST_LOOKS : mg "MOST_LOOKS" = some (.int 12 t3)
  c_MOST_TOLD : mg "MOST_TOLD" = some (.int 300 t4)
  c_WORDS : mg "WORDS" = some (.ref aW)
  w_WORDS : ∃ (od : Option Addr) (n : Nat) (sl : Array (Option Value)) (u1 u2 : Tok), K.lookup aW = some ⟨.type "tuple", od, .seq #[.str "silent" u1, .str "sound" u2] n, sl⟩
theorem b_isinstance : bootBuiltins "isinstance" = some (.builtin "isinstance") := by decide +kernel
theorem b_int : bootBuiltins "int" = some (.type "int") := by decide +kernel
theorem b_bool : bootBuiltins "bool" = some (.type "bool") := by decide +kernel
theorem b_tuple : bootBuiltins "tuple" = some (.type "tuple") := by decide +kernel
theorem b_str : bootBuiltins "str" = some (.type "str") := by decide +kernel
theorem b_len : bootBuiltins "len" = some (.builtin "len") := by decide +kernel
theorem b_all : bootBuiltins "all" = some (.builtin "all") := by decide +kernel
theorem b_any : bootBuiltins "any" = some (.builtin "any") := by decide +kernel
theorem b_sorted : bootBuiltins "sorted" = some (.builtin "sorted") := by decide +kernel
theorem b_max : bootBuiltins "max" = some (.builtin "max") := by decide +kernel
theorem b_min : bootBuiltins "min" = some (.builtin "min") := by decide +kernel
theorem b_sum : bootBuiltins "sum" = some (.builtin "sum") := by decide +kernel
/-- a def that stands at its name and keeps its promise -/
structure Def (P : Program) (w : World) (K : PySem.W.Frag) (mg : Str → Option Value) (base : Heap) (j : Nat) (x : Str) (ps : List Str) (sp : Sp) : Prop where
  ex : ∃ (f : Addr) (fd : FuncData), FnOk P w K mg base CX0 j f fd ps sp ∧ mg x = some (.ref f) ∧ PySem.W.keepIn K (.ref f) = true ∧ Binds K fd ps []
section
variable {X : Cx} {x : Str} {j k : Nat} {ps : List Str} {sp : Sp} {e : Expr} {es : List Expr} {t : TA} {p pos : Pos}
theorem pe_callD (D : Def X.prog X.w X.K X.mg X.base j x ps sp) (hr : Room k X.A) (ha : PA X (e :: es) t) (hj : j ≤ k := by decide) (hg : Gl X x := by rfl) (hdb : (x == ("__debug__" : Str)) = false := by decide) (star : starEach (e :: es) X.env = (false, eval e X.env) :: starEach es X.env := by rfl)
    (plain : (backTo pos (starEach es X.env)).any (·.1) = false := by rfl) : PE X (.Call (.Name x p) (e :: es) [] pos) (tCall sp [] E0 t) := by
  obtain ⟨f, fd, F, hm, hk, hb⟩ := D.ex
  exact pe_call F (hr.mono hj) hg hm hk hb .nil pass0 ha hdb star plain
theorem hu65 {A : Around} (hr : Room k A) : A.units + 65 < cLine := by
  have := hr.un
  omega
end

/-! ### the heap -/
/-- a pair of ints -/
def PairV (H : Hp) (v : V) (p : Int × Int) : Prop := ∃ t, v = .ref t ∧ H t = some (.tup [.int p.1, .int p.2])
theorem PairV.same {H H' : Hp} (s : Same H H') {v : V} {p : Int × Int} (h : PairV H v p) : PairV H' v p := by
  obtain ⟨t, rfl, e⟩ := h
  exact ⟨t, rfl, s _ _ e⟩
theorem Paired.imp {α β : Type} {F G : α → β → Prop} (h : ∀ a b, F a b → G a b) : ∀ {l : List α} {m : List β}, Paired F l m → Paired G l m
  | _, _, .nil => .nil
  | _, _, .cons r t => .cons (h _ _ r) (Paired.imp h t)
theorem Paired.get {α β : Type} {F : α → β → Prop} : ∀ {l : List α} {m : List β} {i : Nat} {a : α}, Paired F l m → l[i]? = some a → ∃ b, m[i]? = some b ∧ F a b
  | _, _, _, _, .nil, e => by simp at e
  | _, _, 0, _, .cons r _, e => by
    simp at e
    subst e
    exact ⟨_, rfl, r⟩
  | _, _, i + 1, a, .cons _ t, e => by
    obtain ⟨u, h1, h2⟩ := Paired.get (i := i) (a := a) t (by simpa using e)
    exact ⟨u, by simpa using h1, h2⟩
theorem Paired.len {α β : Type} {F : α → β → Prop} : ∀ {l : List α} {m : List β}, Paired F l m → l.length = m.length
  | _, _, .nil => rfl
  | _, _, .cons _ t => by
    rw [List.length_cons, List.length_cons, Paired.len t]
theorem Paired.app {α β : Type} {F : α → β → Prop} : ∀ {l l' : List α} {m m' : List β}, Paired F l m → Paired F l' m' → Paired F (l ++ l') (m ++ m')
  | _, _, _, _, .nil, s => s
  | _, _, _, _, .cons r t, s => .cons r (Paired.app t s)
theorem Paired.one {α β : Type} {F : α → β → Prop} {a : α} {b : β} (h : F a b) : Paired F [a] [b] := .cons h .nil
theorem Paired.tk {α β : Type} {F : α → β → Prop} : ∀ {l : List α} {m : List β} (n : Nat), Paired F l m → Paired F (l.take n) (m.take n)
  | _, _, 0, _ => .nil
  | _, _, _ + 1, .nil => .nil
  | _, _, n + 1, .cons r t => .cons r (Paired.tk n t)
theorem Paired.dp {α β : Type} {F : α → β → Prop} : ∀ {l : List α} {m : List β} (n : Nat), Paired F l m → Paired F (l.drop n) (m.drop n)
  | _, _, 0, r => r
  | _, _, _ + 1, .nil => .nil
  | _, _, n + 1, .cons _ t => Paired.dp n t
theorem Paired.snoc_inv {α β : Type} {F : α → β → Prop} {l : List α} {m : List β} {b : β} (h : Paired F l (m ++ [b])) : ∃ l' a, l = l' ++ [a] ∧ Paired F l' m ∧ F a b := by
  induction m generalizing l with
  | nil =>
    cases h with
    | cons r t =>
      cases t
      exact ⟨[], _, rfl, .nil, r⟩
  | cons c m ih =>
    cases h with
    | cons r t =>
      obtain ⟨l', a, e, q, f⟩ := ih t
      subst e
      exact ⟨_ :: l', a, rfl, .cons r q, f⟩
theorem Paired.nil_inv {α β : Type} {F : α → β → Prop} {l : List α} (h : Paired F l ([] : List β)) : l = [] := by
  cases h
  rfl
/-- a story at a value: a tuple of pairs -/
def StV (H : Hp) (v : V) (s : Sty) : Prop := ∃ a xs, v = .ref a ∧ H a = some (.tup xs) ∧ Paired (PairV H) xs s
/-- a list of pairs at a value -/
def LsV (H : Hp) (v : V) (s : Sty) : Prop := ∃ a xs, v = .ref a ∧ H a = some (.lst xs) ∧ Paired (PairV H) xs s
theorem StV.same {H H' : Hp} (q : Same H H') {v : V} {s : Sty} (h : StV H v s) : StV H' v s := by
  obtain ⟨a, xs, e, h1, h2⟩ := h
  exact ⟨a, xs, e, q _ _ h1, Paired.imp (fun _ _ z => PairV.same q z) h2⟩
theorem LsV.same {H H' : Hp} (q : Same H H') {v : V} {s : Sty} (h : LsV H v s) : LsV H' v s := by
  obtain ⟨a, xs, e, h1, h2⟩ := h
  exact ⟨a, xs, e, q _ _ h1, Paired.imp (fun _ _ z => PairV.same q z) h2⟩
theorem same_upd {H : Hp} {p : Addr} {o : HO} (h : H p = none) : Same H (upd H p o) := fun b x e => by
  rw [upd_ne (ne_of_none e h)]
  exact e
theorem SqT.of {K : PySem.W.Frag} {H : Hp} {a : Addr} {xs : List V} (h : H a = some (.tup xs)) : SqT K H a xs := .inl (.inl h)
/-- a new object changed: what stood ahead of it stands -/
theorem same_over {H H' : Hp} {p : Addr} {o : HO} (s : Same H H') (h : H p = none) : Same H (upd H' p o) := fun b x e => by
  rw [upd_ne (ne_of_none e h)]
  exact s b x e
/-- a changed object that is no tuple: pairs stand -/
theorem PairV.over {H : Hp} {p : Addr} {o : HO} {xs : List V} (h : H p = some (.lst xs)) {v : V} {q : Int × Int} (z : PairV H v q) : PairV (upd H p o) v q := by
  obtain ⟨t, rfl, e⟩ := z
  refine ⟨t, rfl, ?_⟩
  rw [upd_ne (ne_of e h (by intro z; cases z))]
  exact e
theorem pairs_over {H : Hp} {p : Addr} {o : HO} {xs : List V} (h : H p = some (.lst xs)) {l : List V} {s : Sty} (z : Paired (PairV H) l s) : Paired (PairV (upd H p o)) l s := Paired.imp (fun _ _ q => PairV.over h q) z
theorem pairs_same {H H' : Hp} (q : Same H H') {l : List V} {s : Sty} (z : Paired (PairV H) l s) : Paired (PairV H') l s := Paired.imp (fun _ _ w => PairV.same q w) z
theorem PairV.new {H : Hp} {t : Addr} {a b : Int} : PairV (upd H t (.tup [.int a, .int b])) (.ref t) (a, b) := ⟨t, rfl, upd_same⟩
theorem small (n : Nat) (h : n ≤ 16777216) : n ≤ sizeLine := by
  rw [sizeLine_eq]
  exact h
theorem smallL (n : Nat) (h : n < 16777216) : n < sizeLine := by
  rw [sizeLine_eq]
  exact h
end Kp

namespace Kp
open PySem PySem.Spec PyProof.Rows L2
/-! ### small words for readings -/
theorem ifT {c : Bool} {A B : Prop} (h : c = true) (a : A) : if c = true then A else B := by
  rw [if_pos h]
  exact a
theorem ifF {c : Bool} {A B : Prop} (h : c = false) (b : B) : if c = true then A else B := by
  rw [h, if_neg Bool.false_ne_true]
  exact b
theorem rd_ret {te : TE} {D : Ends} {σ : L2.St} {H : Hp} (h : te σ H D.rt) : tRet te D σ H := h
theorem rd_cb {r : List V → Hp → VK → Prop} {t : TA} {σ : L2.St} {H : Hp} {Q : VK} (h : t σ H fun vs H1 => r vs H1 Q) : tCB r t σ H Q := h
theorem rd_cons {ta : TE} {tr : TA} {σ : L2.St} {H : Hp} {Q : List V → Hp → Prop} (h : ta σ H fun x H1 => tr σ H1 fun xs H2 => Q (x :: xs) H2) : tCons ta tr σ H Q := h
theorem rd_seq {t u : TS} {D : Ends} {σ : L2.St} {H : Hp} (h : t { D with nx := u D } σ H) : tSeq t u D σ H := h
theorem rd_asg {te : TE} {g : TG} {D : Ends} {σ : L2.St} {H : Hp} (h : te σ H fun x H1 => g x σ H1 D.nx) : tAsg te g D σ H := h
theorem rd_if {c : TT} {t u : TS} {D : Ends} {σ : L2.St} {H : Hp} (h : c σ H fun b H1 => if b = true then t D σ H1 else u D σ H1) : tIfS c t u D σ H := h
theorem rd_val {t : TE} {σ : L2.St} {H : Hp} {Q : Bool → Hp → Prop} (h : t σ H fun x H1 => ∃ c, x = .bl c ∧ Q c H1) : tB t σ H Q := h
theorem rd_test {t : TE} {σ : L2.St} {H : Hp} {Q : Bool → Hp → Prop} (h : t σ H fun x H1 => ∃ c, x = .bl c ∧ Q c H1) : tTest t σ H Q := h
theorem rd_name {i : Nat} {v : V} {σ : L2.St} {H : Hp} {N : L2.St → Hp → Prop} (h : N (σ.set i (some v)) H) : gName i v σ H N := h
theorem rd_call {sp : Sp} {dvs : List V} {E : XK} {t : TA} {σ : L2.St} {H : Hp} {Q : VK} (h : t σ H fun vs H1 => sp (vs ++ dvs) H1 Q E) : tCall sp dvs E t σ H Q := h
theorem rd_not {t : TT} {σ : L2.St} {H : Hp} {Q : Bool → Hp → Prop} (h : t σ H fun c H1 => Q (!c) H1) : tNot t σ H Q := h
theorem sqt_same {K : PySem.W.Frag} {H H' : Hp} {a : Addr} {xs : List V} (s : Same H H') (h : SqT K H a xs) : SqT K H' a xs := by
  rcases h with (h | ⟨o, h⟩) | h
  · exact .inl (.inl (s _ _ h))
  · exact .inl (.inr ⟨o, s _ _ h⟩)
  · exact .inr h
theorem rd_next {D : Ends} {σ : L2.St} {H : Hp} (h : D.nx σ H) : tNext D σ H := h
theorem rd_op {r : R2} {ta tb : TE} {σ : L2.St} {H : Hp} {Q : VK} (h : ta σ H fun x H1 => tb σ H1 fun y H2 => r x y H2 Q) : tOp r ta tb σ H Q := h
theorem kit_ii : kitB "int" "int" = some true := by decide +kernel
theorem kit_ib : kitB "int" "bool" = some false := by decide +kernel
theorem kit_tt : kitB "tuple" "tuple" = some true := by decide +kernel
theorem kit_ss : kitB "str" "str" = some true := by decide +kernel
/-! ### the promises -/
def spIsWhole : Sp := fun vs H Q _ => ∃ i : Int, vs = [.int i] ∧ Q (.bl true) H
def spIsBeat : Sp := fun vs H Q _ => ∃ i : Int, vs = [.int i] ∧ 0 ≤ i ∧ i ≤ 1000000 ∧ Q (.bl true) H
def spIsStretch : Sp := fun vs H Q _ => ∃ (v : V) (p : Int × Int), vs = [v] ∧ PairV H v p ∧ 0 ≤ p.1 ∧ p.1 < p.2 ∧ p.2 ≤ 1000000 ∧ Q (.bl true) H
def spStoryGood : Sp := fun vs H Q _ => ∃ (v : V) (s : Sty), vs = [v] ∧ StV H v s ∧ Rs s ∧ Below 1000000 s ∧ s.length ≤ 200 ∧ ∀ H', Same H H' → Q (.bl true) H'
def spCheck (K : PySem.W.Frag) : Sp := fun vs H Q _ => ∃ (a : Addr) (xs : List V), vs = [.ref a] ∧ (SqL K H a xs ∨ SqT K H a xs) ∧ xs.length ≤ 200 ∧ Q .non H
theorem check_st {K : PySem.W.Frag} {H : Hp} {y : V} {r : Sty} {Q : VK} {E : XK} (h : StV H y r) (hl : r.length ≤ 200) (q : Q .non H) : spCheck K [y] H Q E := by
  obtain ⟨a, xs, rfl, ha, hx⟩ := h
  exact ⟨a, xs, rfl, .inr (SqT.of ha), by rw [Paired.len hx]; exact hl, q⟩
section
variable {P : Program} {w : World} {K : PySem.W.Frag} {mg : Str → Option Value} {base : Heap} {t1 t2 t3 t4 : Tok} {aW : Addr}
abbrev sIsWhole : Stmt := topS 13
theorem scIsWhole : FnScope ["thing"] ["thing"] (defScope sIsWhole) := ⟨rfl, rfl, rfl, by decide +kernel, rfl, by decide +kernel, by decide +kernel⟩
theorem ok_is_whole {f : Addr} {fd : FuncData} (F : Fun K "is_whole" "is_whole" sIsWhole f fd) (T : Txt K mg t1 t2 t3 t4 aW) : FnOk P w K mg base CX0 1 f fd ["thing"] spIsWhole := by
  refine F.ok scIsWhole (fun vs H Q E h => ?_) (fun cdv A outer s H vs Q E hr h => ?_)
  · obtain ⟨i, rfl, _⟩ := h
    rfl
  · obtain ⟨i, rfl, q⟩ := h
    refine ⟨_, (pss_one (ps_ret (pe_and (pe_callB call_isi (by rfl) T.m_isinstance b_isinstance (pa_cons (pv 0) (pa_cons (pe_bltn (v := .ty "int") rfl T.m_int b_int rfl) pa_nil))) (pe_one (pe_not (pe_callB call_isi (by rfl) T.m_isinstance b_isinstance (pa_cons (pv 0) (pa_cons (pe_bltn (v := .ty "bool") rfl T.m_bool b_bool rfl) pa_nil)))))))), ?_⟩
    exact ⟨.int i, rfl, .int i, .ty "int", .type "int", .type "int", true, rfl, .ty _, .base (.int i), kit_ty kit_ii, true, rfl, iteT ⟨.int i, rfl, .int i, .ty "bool", .type "int", .type "bool", false, rfl, .ty _, .base (.int i), kit_ty kit_ib, false, rfl, q⟩⟩
abbrev sIsBeat : Stmt := topS 14
theorem scIsBeat : FnScope ["thing"] ["thing"] (defScope sIsBeat) := ⟨rfl, rfl, rfl, by decide +kernel, rfl, by decide +kernel, by decide +kernel⟩
theorem ok_is_beat {f : Addr} {fd : FuncData} (F : Fun K "is_beat" "is_beat" sIsBeat f fd) (T : Txt K mg t1 t2 t3 t4 aW) (DIsWhole : Def P w K mg base 1 "is_whole" ["thing"] spIsWhole) : FnOk P w K mg base CX0 2 f fd ["thing"] spIsBeat := by
  refine F.ok scIsBeat (fun vs H Q E h => ?_) (fun cdv A outer s H vs Q E hr h => ?_)
  · obtain ⟨i, rfl, _⟩ := h
    rfl
  · obtain ⟨i, rfl, h0, h1, q⟩ := h
    refine ⟨_, (pss_one (ps_ret (pe_and (pe_callD DIsWhole hr (pa_cons (pv 0) pa_nil)) (pe_one (pe_chain op_le op_le pe_int (pv 0) (pe_glob (v := .int 1000000) rfl T.c_MOST_BEAT ⟨_, rfl⟩)))))), ?_⟩
    refine ⟨.int i, rfl, i, rfl, true, rfl, iteT ⟨.int i, rfl, 0, i, rfl, rfl, _, rfl, ifT (decide_eq_true h0) ⟨i, 1000000, rfl, rfl, ?_⟩⟩⟩
    show Q (.bl (decide (i ≤ 1000000))) H
    rw [decide_eq_true h1]
    exact q
abbrev sIsStretch : Stmt := topS 15
theorem scIsStretch : FnScope ["thing"] ["thing"] (defScope sIsStretch) := ⟨rfl, rfl, rfl, by decide +kernel, rfl, by decide +kernel, by decide +kernel⟩
theorem ok_is_stretch {f : Addr} {fd : FuncData} (F : Fun K "is_stretch" "is_stretch" sIsStretch f fd) (T : Txt K mg t1 t2 t3 t4 aW) (DIsBeat : Def P w K mg base 2 "is_beat" ["thing"] spIsBeat) : FnOk P w K mg base CX0 3 f fd ["thing"] spIsStretch := by
  refine F.ok scIsStretch (fun vs H Q E h => ?_) (fun cdv A outer s H vs Q E hr h => ?_)
  · obtain ⟨v, p, rfl, _⟩ := h
    rfl
  · obtain ⟨v, p, rfl, ⟨t, rfl, ht⟩, h0, h1, h2, q⟩ := h
    refine ⟨_, (pss_cons (ps_if (PW.pt (pw_or (pt_not (pt_val (pe_callB call_isi (by rfl) T.m_isinstance b_isinstance (pa_cons (pv 0) (pa_cons (pe_bltn (v := .ty "tuple") rfl T.m_tuple b_tuple rfl) pa_nil))))) (pw_or (pt_cmpR op_ne (pe_callB call_len_seq (by rfl) T.m_len b_len (pa_cons (pv 0) pa_nil)) pe_int (nomark _)) (pw_or (pt_not (pt_val (pe_callD DIsBeat hr (pa_cons (pe_ix ix_tup (pv 0) pe_int (fun _ _ => rfl)) pa_nil)))) (pw_or1 (pt_not (pt_val (pe_callD DIsBeat hr (pa_cons (pe_ix ix_tup (pv 0) pe_int (fun _ _ => rfl)) pa_nil)))))))))
        (pss_one (ps_ret pe_bl))
        pss_nil)
      (pss_one (ps_ret (pe_cmpR op_lt (pe_ix ix_tup (pv 0) pe_int (fun _ _ => rfl)) (pe_ix ix_tup (pv 0) pe_int (fun _ _ => rfl)) (nomark _))))), ?_⟩
    have hs : SqT K H t [.int p.1, .int p.2] := SqT.of ht
    -- isinstance(thing, tuple)
    refine ⟨.ref t, rfl, .ref t, .ty "tuple", .type "tuple", .type "tuple", true, rfl, .ty _, .base (.tup ht), kit_ty kit_tt, true, rfl, ifF rfl ?_⟩
    -- len(thing) != 2
    refine ⟨.ref t, rfl, t, _, rfl, .inr hs, rfl, _, rfl, ifF rfl ?_⟩
    -- is_beat(thing[0]), is_beat(thing[1])
    refine ⟨.ref t, rfl, t, _, _, .int p.1, rfl, rfl, hs, atI_nat (j := 0) rfl, p.1, rfl, h0, by omega, true, rfl, ifF rfl ?_⟩
    refine ⟨.ref t, rfl, t, _, _, .int p.2, rfl, rfl, hs, atI_nat (j := 1) rfl, p.2, rfl, by omega, h2, true, rfl, iteF ?_⟩
    -- thing[0] < thing[1]
    refine ⟨.ref t, rfl, t, _, _, .int p.1, rfl, rfl, hs, atI_nat (j := 0) rfl, .ref t, rfl, t, _, _, .int p.2, rfl, rfl, hs, atI_nat (j := 1) rfl, p.1, p.2, rfl, rfl, ?_⟩
    show Q (.bl (decide (p.1 < p.2))) H
    rw [decide_eq_true h1]
    exact q
abbrev sCheckStretches : Stmt := topS 18
theorem scCheckStretches : FnScope ["story"] ["story"] (defScope sCheckStretches) := ⟨rfl, rfl, rfl, by decide +kernel, rfl, by decide +kernel, by decide +kernel⟩
theorem ok_check {f : Addr} {fd : FuncData} (F : Fun K "check_stretches" "check_stretches" sCheckStretches f fd) (T : Txt K mg t1 t2 t3 t4 aW) : FnOk P w K mg base CX0 1 f fd ["story"] (spCheck K) := by
  refine F.ok scCheckStretches (fun vs H Q E h => ?_) (fun cdv A outer s H vs Q E hr h => ?_)
  · obtain ⟨a, xs, rfl, _⟩ := h
    rfl
  · obtain ⟨a, xs, rfl, ha, hl, q⟩ := h
    refine ⟨_, (pss_one (ps_if (pt_cmpR op_gt (pe_callB call_len_seq (by rfl) T.m_len b_len (pa_cons (pv 0) pa_nil)) (pe_glob (v := .int 200) rfl T.c_MOST_STRETCHES ⟨_, rfl⟩) (nomark _))
        (pss_one ps_never)
        pss_nil)), ?_⟩
    exact ⟨.ref a, rfl, a, xs, rfl, ha, _, 200, rfl, rfl, _, rfl, ifF (decide_eq_false (by omega)) q⟩
end
end Kp

namespace Kp
open PySem PySem.Spec PyProof.Rows L2
/-! ### comprehensions over a tuple of pairs, over a range -/
/-- what is told of a value stands where a list is changed, and where more is laid -/
structure Stays {β : Type} (R : Hp → V → β → Prop) : Prop where
  same : ∀ {H H' v b}, Same H H' → R H v b → R H' v b
  over : ∀ {H : Hp} {D : Addr} {xs ys : List V} {v b}, H D = some (.lst xs) → R H v b → R (upd H D (.lst ys)) v b
theorem stays_pair : Stays PairV := ⟨fun s h => PairV.same s h, fun h z => PairV.over h z⟩
/-- a value that needs no heap -/
def IsV {β : Type} (g : β → V) : Hp → V → β → Prop := fun _ v b => v = g b
theorem stays_is {β : Type} (g : β → V) : Stays (IsV g) := ⟨fun _ h => h, fun _ h => h⟩
theorem stays_st : Stays StV := by
  refine ⟨fun s h => StV.same s h, fun {H D xs ys v b} h z => ?_⟩
  obtain ⟨a, zs, e, h1, h2⟩ := z
  refine ⟨a, zs, e, ?_, pairs_over h h2⟩
  rw [upd_ne (ne_of h1 h (by intro q; cases q))]
  exact h1
theorem is_map {β : Type} {g : β → V} {H : Hp} : ∀ {ys : List V} {bs : List β}, Paired (IsV g H) ys bs → ys = bs.map g
  | _, _, .nil => rfl
  | _, _, .cons r t => by
    rw [List.map_cons, ← is_map t]
    exact congrArg (· :: _) r
theorem map_is {β : Type} {g : β → V} {H : Hp} : ∀ (bs : List β), Paired (IsV g H) (bs.map g) bs
  | [] => .nil
  | b :: bs => .cons rfl (map_is bs)
theorem pair_snoc {α β : Type} {F : α → β → Prop} {l : List α} {m : List β} {a : α} {b : β} (h : Paired F l m) (z : F a b) : Paired F (l ++ [a]) (m ++ [b]) := Paired.app h (Paired.one z)
theorem take_snoc {α : Type} {l : List α} {i : Nat} {x : α} (h : l[i]? = some x) : l.take (i + 1) = l.take i ++ [x] := by
  rw [List.take_add_one, h]
  rfl
theorem yes_if {σ : L2.St} {H : Hp} {A B : Hp → Prop} (h : A H) : tYes σ H (fun b H3 => if b = true then A H3 else B H3) := by
  show if true = true then A H else B H
  exact iteT h
section
variable {K : PySem.W.Frag} {σ : L2.St} {H : Hp} {Q : VK} {te : TE} {tt : TT} {vs : List Nat} {β : Type} {R : Hp → V → β → Prop}
/-- [e for x, y in t if c], t a tuple of pairs, c true of each -/
theorem lc_pairs {tl : TE} {a : Addr} {xs : List V} {s : Sty} {i j : Nat} (f : Int × Int → β) (S : Stays R) (hv : ∀ Q' : VK, Q' (.ref a) H → tl σ H Q') (ha : H a = some (.tup xs)) (hp : Paired (PairV H) xs s) (hlen : s.length < 16777216)
    (ht : ∀ p ∈ s, ∀ (H' : Hp) (Q' : Bool → Hp → Prop), Same H H' → Q' true H' → tt (((wipe σ vs).set i (some (.int p.1))).set j (some (.int p.2))) H' Q')
    (he : ∀ p ∈ s, ∀ (H' : Hp) (Q' : VK), Same H H' → (∀ v H'', Same H' H'' → R H'' v (f p) → Q' v H'') → te (((wipe σ vs).set i (some (.int p.1))).set j (some (.int p.2))) H' Q')
    (hw : ∀ x y, wipe (((wipe σ vs).set i x).set j y) vs = wipe σ vs)
    (hd : ∀ (D : Addr) (H' : Hp) (ys : List V), Same H H' → H D = none → H' D = some (.lst ys) → Paired (R H') ys (s.map f) → Q (.ref D) H') :
    tLc (iTup K tl) (gTup K 2 (gCons (gName i) (gCons (gName j) gNil))) tt te vs σ H Q := by
  refine hv _ ⟨a, rfl, ⟨xs, SqT.of ha⟩, fun D hD => ?_⟩
  have hl : xs.length = s.length := Paired.len hp
  refine lc_tup (K := K) (a := a) (xs := xs) (fun n H' => Same H H' ∧ ∃ ys, H' D = some (.lst ys) ∧ Paired (R H') ys ((s.take n).map f)) ⟨same_upd hD, [], upd_same, .nil⟩ (fun n H' _ h => SqT.of (h.1 _ _ ha)) (fun n x H' hx h => ?_) (fun H' h => ?_)
  · obtain ⟨sm, ys, hy, hR⟩ := h
    obtain ⟨p, hsp, t, rfl, htp⟩ := Paired.get hp hx
    have hm : p ∈ s := List.mem_of_getElem? hsp
    refine ⟨t, _, rfl, SqT.of (sm _ _ htp), rfl, _, _, rfl, _, _, rfl, rfl, hw _ _, ht p hm H' _ sm ?_⟩
    refine iteT (he p hm H' _ sm fun v H'' s2 hv2 => ?_)
    have hy2 := s2 _ _ hy
    have hln : ys.length < 16777216 := by
      rw [Paired.len hR, List.length_map, List.length_take]
      omega
    refine ⟨ys, hy2, smallL _ hln, same_over (sm.trans s2) hD, ys ++ [v], upd_same, ?_⟩
    rw [take_snoc hsp, List.map_append]
    exact pair_snoc (Paired.imp (fun _ _ z => S.over hy2 (S.same s2 z)) hR) (S.over hy2 hv2)
  · obtain ⟨sm, ys, hy, hR⟩ := h
    rw [hl, List.take_length] at hR
    exact hd D H' ys sm hD hy hR
/-- [e for x in range(n) if c] -/
theorem lc_rng {tl : TA} {n : Nat} {i : Nat} (f : Nat → β) (c : Nat → Bool) (S : Stays R) (hv : ∀ Q' : List V → Hp → Prop, Q' [.int (n : Int)] H → tl σ H Q') (hn : n < 16777216)
    (ht : ∀ m, m < n → ∀ (H' : Hp) (Q' : Bool → Hp → Prop), Same H H' → Q' (c m) H' → tt ((wipe σ vs).set i (some (.int (m : Int)))) H' Q')
    (he : ∀ m, m < n → c m = true → ∀ (H' : Hp) (Q' : VK), Same H H' → (∀ v H'', Same H' H'' → R H'' v (f m) → Q' v H'') → te ((wipe σ vs).set i (some (.int (m : Int)))) H' Q')
    (hw : ∀ x, wipe ((wipe σ vs).set i x) vs = wipe σ vs)
    (hd : ∀ (D : Addr) (H' : Hp) (ys : List V), Same H H' → H D = none → H' D = some (.lst ys) → Paired (R H') ys (((List.range n).filter c).map f) → Q (.ref D) H') :
    tLc (iRng1 tl) (gName i) tt te vs σ H Q := by
  refine hv _ ⟨(n : Int), rfl, by omega, by omega, fun D hD => ?_⟩
  rw [Int.toNat_natCast]
  refine lc_range (lo := 0) (n := n) (fun m H' => Same H H' ∧ ∃ ys, H' D = some (.lst ys) ∧ Paired (R H') ys (((List.range m).filter c).map f)) ⟨same_upd hD, [], upd_same, .nil⟩ (fun m H' hm h => ?_) (fun H' h => ?_)
  · obtain ⟨sm, ys, hy, hR⟩ := h
    rw [show (0 : Int) + (m : Int) = (m : Int) by omega]
    refine ⟨hw _, ht m hm H' _ sm ?_⟩
    have er : ((List.range (m + 1)).filter c) = ((List.range m).filter c) ++ (if c m = true then [m] else []) := by
      rw [List.range_succ, List.filter_append]
      congr 1
      by_cases e : c m = true
      · rw [if_pos e, List.filter_cons_of_pos e]
        rfl
      · rw [if_neg e, List.filter_cons_of_neg e]
        rfl
    cases e : c m with
    | true =>
      refine iteT (he m hm e H' _ sm fun v H'' s2 hv2 => ?_)
      have hy2 := s2 _ _ hy
      have hln : ys.length < 16777216 := by
        have a := Paired.len hR
        rw [List.length_map] at a
        have b : ((List.range m).filter c).length ≤ (List.range m).length := List.length_filter_le _ _
        rw [List.length_range] at b
        omega
      refine ⟨ys, hy2, smallL _ hln, same_over (sm.trans s2) hD, ys ++ [v], upd_same, ?_⟩
      rw [er, e, if_pos rfl, List.map_append]
      exact pair_snoc (Paired.imp (fun _ _ z => S.over hy2 (S.same s2 z)) hR) (S.over hy2 hv2)
    | false =>
      refine iteF ⟨sm, ys, hy, ?_⟩
      rw [er, e, if_neg Bool.false_ne_true, List.append_nil]
      exact hR
  · obtain ⟨sm, ys, hy, hR⟩ := h
    exact hd D H' ys sm hD hy hR
/-- [e for x in l], l a list that an expression tells -/
theorem lc_lst {γ : Type} {tl : TE} {i : Nat} {G : Hp → V → γ → Prop} (Pm : List γ → Prop) (f : γ → β) (S : Stays R) (SG : Stays G)
    (hv : ∀ Q' : VK, (∀ H0 a xs ms, Pm ms → Same H H0 → H0 a = some (.lst xs) → Paired (G H0) xs ms → Q' (.ref a) H0) → tl σ H Q') (hlen : ∀ ms, Pm ms → ms.length < 16777216)
    (he : ∀ ms, Pm ms → ∀ x, ∀ m ∈ ms, ∀ (H' : Hp), Same H H' → G H' x m → ∀ (Q' : VK), (∀ v H'', Same H' H'' → R H'' v (f m) → Q' v H'') → te ((wipe σ vs).set i (some x)) H' Q')
    (hw : ∀ x, wipe ((wipe σ vs).set i x) vs = wipe σ vs)
    (hd : ∀ (ms : List γ) (D : Addr) (H' : Hp) (ys : List V), Pm ms → Same H H' → H D = none → H' D = some (.lst ys) → Paired (R H') ys (ms.map f) → Q (.ref D) H') :
    tLc (iList K tl) (gName i) tYes te vs σ H Q := by
  refine hv _ fun H0 a xs ms pm h0 ha hp => ⟨a, rfl, ⟨xs, SqL.of ha⟩, fun D hD => ?_⟩
  have hl : xs.length = ms.length := Paired.len hp
  refine lc_list (K := K) (a := a) (xs := xs) (fun n H' => Same H0 H' ∧ ∃ ys, H' D = some (.lst ys) ∧ Paired (R H') ys ((ms.take n).map f)) ⟨same_upd hD, [], upd_same, .nil⟩ (fun n H' _ h => SqL.of (h.1 _ _ ha)) (fun n x H' hx h => ?_) (fun H' h => ?_)
  · obtain ⟨sm, ys, hy, hR⟩ := h
    obtain ⟨m, hsm, hG⟩ := Paired.get hp hx
    have hm : m ∈ ms := List.mem_of_getElem? hsm
    refine ⟨hw _, ?_⟩
    refine yes_if ?_
    refine he ms pm x m hm H' (h0.trans sm) (SG.same sm hG) _ fun v H'' s2 hv2 => ?_
    have hy2 := s2 _ _ hy
    have hln : ys.length < 16777216 := by
      have := hlen ms pm
      rw [Paired.len hR, List.length_map, List.length_take]
      omega
    refine ⟨ys, hy2, smallL _ hln, same_over (sm.trans s2) hD, ys ++ [v], upd_same, ?_⟩
    rw [take_snoc hsm, List.map_append]
    exact pair_snoc (Paired.imp (fun _ _ z => S.over hy2 (S.same s2 z)) hR) (S.over hy2 hv2)
  · obtain ⟨sm, ys, hy, hR⟩ := h
    rw [hl, List.take_length] at hR
    exact hd ms D H' ys pm (h0.trans sm) (h0.free hD) hy hR
/-- [e for x in t], t a tuple that an expression tells -/
theorem lc_tpl {γ : Type} {tl : TE} {i : Nat} {G : Hp → V → γ → Prop} (Pm : List γ → Prop) (f : γ → β) (S : Stays R) (SG : Stays G)
    (hv : ∀ Q' : VK, (∀ H0 a xs ms, Pm ms → Same H H0 → H0 a = some (.tup xs) → Paired (G H0) xs ms → Q' (.ref a) H0) → tl σ H Q') (hlen : ∀ ms, Pm ms → ms.length < 16777216)
    (he : ∀ ms, Pm ms → ∀ x, ∀ m ∈ ms, ∀ (H' : Hp), Same H H' → G H' x m → ∀ (Q' : VK), (∀ v H'', Same H' H'' → R H'' v (f m) → Q' v H'') → te ((wipe σ vs).set i (some x)) H' Q')
    (hw : ∀ x, wipe ((wipe σ vs).set i x) vs = wipe σ vs)
    (hd : ∀ (ms : List γ) (D : Addr) (H' : Hp) (ys : List V), Pm ms → Same H H' → H D = none → H' D = some (.lst ys) → Paired (R H') ys (ms.map f) → Q (.ref D) H') :
    tLc (iTup K tl) (gName i) tYes te vs σ H Q := by
  refine hv _ fun H0 a xs ms pm h0 ha hp => ⟨a, rfl, ⟨xs, SqT.of ha⟩, fun D hD => ?_⟩
  have hl : xs.length = ms.length := Paired.len hp
  refine lc_tup (K := K) (a := a) (xs := xs) (fun n H' => Same H0 H' ∧ ∃ ys, H' D = some (.lst ys) ∧ Paired (R H') ys ((ms.take n).map f)) ⟨same_upd hD, [], upd_same, .nil⟩ (fun n H' _ h => SqT.of (h.1 _ _ ha)) (fun n x H' hx h => ?_) (fun H' h => ?_)
  · obtain ⟨sm, ys, hy, hR⟩ := h
    obtain ⟨m, hsm, hG⟩ := Paired.get hp hx
    have hm : m ∈ ms := List.mem_of_getElem? hsm
    refine ⟨hw _, ?_⟩
    refine yes_if ?_
    refine he ms pm x m hm H' (h0.trans sm) (SG.same sm hG) _ fun v H'' s2 hv2 => ?_
    have hy2 := s2 _ _ hy
    have hln : ys.length < 16777216 := by
      have := hlen ms pm
      rw [Paired.len hR, List.length_map, List.length_take]
      omega
    refine ⟨ys, hy2, smallL _ hln, same_over (sm.trans s2) hD, ys ++ [v], upd_same, ?_⟩
    rw [take_snoc hsm, List.map_append]
    exact pair_snoc (Paired.imp (fun _ _ z => S.over hy2 (S.same s2 z)) hR) (S.over hy2 hv2)
  · obtain ⟨sm, ys, hy, hR⟩ := h
    rw [hl, List.take_length] at hR
    exact hd ms D H' ys pm (h0.trans sm) (h0.free hD) hy hR
end
end Kp

namespace Kp
open PySem PySem.Spec PyProof.Rows L2
/-! ### stories, lists as data that == compares -/
def dP (p : Int × Int) : PyData := .tuple [.int p.1, .int p.2]
def dS (s : Sty) : PyData := .tuple (s.map dP)
def dL (s : Sty) : PyData := .list (s.map dP)
def dSs (l : List Sty) : PyData := .list (l.map dS)
def dB (l : List Bool) : PyData := .list (l.map PyData.bool)
theorem lay_map {α : Type} {f : α → PyData} (h : ∀ a, (f a).canLay0 = true) : ∀ l : List α, PyData.canLayAll0 (l.map f) = true
  | [] => by simp [PyData.canLayAll0]
  | a :: l => by simp [PyData.canLayAll0, h a, lay_map h l]
theorem depth_map {α : Type} {f : α → PyData} {n : Nat} (h : ∀ a, (f a).depth ≤ n) : ∀ l : List α, PyData.depthAll (l.map f) ≤ n
  | [] => by simp [PyData.depthAll]
  | a :: l => by
    have h1 := depth_map h l
    have h2 := h a
    simp only [List.map_cons, PyData.depthAll]
    omega
theorem shaped_of {d : PyData} (h1 : d.canLay0 = true) (h2 : d.depth ≤ 64) : SeqAt.shaped d = true := by
  show (d.canLay0 && decide (d.depth ≤ 64)) = true
  rw [Bool.and_eq_true]
  exact ⟨h1, decide_eq_true h2⟩
theorem dP_lay (p : Int × Int) : (dP p).canLay0 = true := by simp [dP, PyData.canLay0, PyData.canLayAll0]
theorem dP_depth (p : Int × Int) : (dP p).depth ≤ 1 := by simp [dP, PyData.depth, PyData.depthAll]
theorem dS_lay (s : Sty) : (dS s).canLay0 = true := by
  simp only [dS, PyData.canLay0]
  exact lay_map dP_lay s
theorem dS_depth (s : Sty) : (dS s).depth ≤ 2 := by
  have h := depth_map dP_depth s
  simp only [dS, PyData.depth]
  omega
theorem dP_shaped (p : Int × Int) : SeqAt.shaped (dP p) = true := shaped_of (dP_lay p) (by have := dP_depth p; omega)
theorem dS_shaped (s : Sty) : SeqAt.shaped (dS s) = true := shaped_of (dS_lay s) (by have := dS_depth s; omega)
theorem dL_shaped (s : Sty) : SeqAt.shaped (dL s) = true := by
  refine shaped_of ?_ ?_
  · simp only [dL, PyData.canLay0]
    exact lay_map dP_lay s
  · have h := depth_map dP_depth s
    simp only [dL, PyData.depth]
    omega
theorem dSs_shaped (l : List Sty) : SeqAt.shaped (dSs l) = true := by
  refine shaped_of ?_ ?_
  · simp only [dSs, PyData.canLay0]
    exact lay_map dS_lay l
  · have h := depth_map dS_depth l
    simp only [dSs, PyData.depth]
    omega
theorem dB_shaped (l : List Bool) : SeqAt.shaped (dB l) = true := by
  refine shaped_of ?_ ?_
  · simp only [dB, PyData.canLay0]
    exact lay_map (fun b => by simp [PyData.canLay0]) l
  · have h := depth_map (f := PyData.bool) (n := 1) (fun b => by simp [PyData.depth]) l
    simp only [dB, PyData.depth]
    omega
theorem eqvAll_map {α : Type} [DecidableEq α] {f : α → PyData} (h : ∀ a b, PyData.eqv (f a) (f b) = decide (a = b)) : ∀ l m : List α, PyData.eqvAll (l.map f) (m.map f) = decide (l = m)
  | [], [] => by simp [PyData.eqvAll]
  | [], b :: m => by simp [PyData.eqvAll]
  | a :: l, [] => by simp [PyData.eqvAll]
  | a :: l, b :: m => by
    simp only [List.map_cons, PyData.eqvAll]
    rw [h, eqvAll_map h l m, Bool.eq_iff_iff]
    simp
theorem dP_eqv (p q : Int × Int) : PyData.eqv (dP p) (dP q) = decide (p = q) := by
  obtain ⟨a, b⟩ := p
  obtain ⟨c, d⟩ := q
  have e : PyData.eqv (dP (a, b)) (dP (c, d)) = ((a == c) && ((b == d) && true)) := by simp only [dP, PyData.eqv, PyData.eqvAll]
  rw [e, Bool.eq_iff_iff]
  simp
theorem dS_eqv (s t : Sty) : PyData.eqv (dS s) (dS t) = decide (s = t) := by
  simp only [dS, PyData.eqv]
  exact eqvAll_map dP_eqv s t
theorem dL_eqv (s t : Sty) : PyData.eqv (dL s) (dL t) = decide (s = t) := by
  simp only [dL, PyData.eqv]
  exact eqvAll_map dP_eqv s t
theorem dSs_eqv (l m : List Sty) : PyData.eqv (dSs l) (dSs m) = decide (l = m) := by
  simp only [dSs, PyData.eqv]
  exact eqvAll_map dS_eqv l m
theorem dB_eqv (l m : List Bool) : PyData.eqv (dB l) (dB m) = decide (l = m) := by
  simp only [dB, PyData.eqv]
  refine eqvAll_map (fun a b => ?_) l m
  cases a <;> cases b <;> simp [PyData.eqv]
section
variable {K : PySem.W.Frag} {H : Hp}
theorem dpAll_of {α : Type} {G : V → α → Prop} {f : α → PyData} (h : ∀ v a, G v a → Dp K H v (f a)) : ∀ {xs : List V} {l : List α}, Paired G xs l → DpAll K H xs (l.map f)
  | _, _, .nil => .nil
  | _, _, .cons r t => .cons (h _ _ r) (dpAll_of h t)
theorem dp_pair {v : V} {p : Int × Int} (h : PairV H v p) : Dp K H v (dP p) := by
  obtain ⟨t, rfl, e⟩ := h
  exact .tup (SqT.of e) (.cons (.int _) (.cons (.int _) .nil))
theorem dp_story {v : V} {s : Sty} (h : StV H v s) : Dp K H v (dS s) := by
  obtain ⟨a, xs, rfl, e, p⟩ := h
  exact .tup (SqT.of e) (dpAll_of (fun _ _ z => dp_pair z) p)
theorem dp_list {v : V} {s : Sty} (h : LsV H v s) : Dp K H v (dL s) := by
  obtain ⟨a, xs, rfl, e, p⟩ := h
  exact .lst (SqL.of e) (dpAll_of (fun _ _ z => dp_pair z) p)
theorem dp_stories {a : Addr} {xs : List V} {l : List Sty} (e : H a = some (.lst xs)) (p : Paired (StV H) xs l) : Dp K H (.ref a) (dSs l) := .lst (SqL.of e) (dpAll_of (fun _ _ z => dp_story z) p)
theorem dp_storiesT {a : Addr} {xs : List V} {l : List Sty} (e : SqL K H a xs) (p : Paired (StV H) xs l) : Dp K H (.ref a) (dSs l) := .lst e (dpAll_of (fun _ _ z => dp_story z) p)
theorem dp_bools {a : Addr} {l : List Bool} (e : H a = some (.lst (l.map V.bl))) : Dp K H (.ref a) (dB l) := by
  refine .lst (SqL.of e) ?_
  exact dpAll_of (G := IsV V.bl H) (fun v b z => by rw [show v = V.bl b from z]; exact .bl b) (map_is l)
end
end Kp

namespace Kp
open PySem PySem.Spec PyProof.Rows L2
def optV : Option Int → V
  | none => .non
  | some y => .int y
def spSilentAt : Sp := fun vs H Q _ => ∃ (v : V) (s : Sty) (b : Int), vs = [v, .int b] ∧ StV H v s ∧ s.length ≤ 1000 ∧ ∀ H', Same H H' → Q (.bl (sil s b)) H'
def spHealed : Sp := fun vs H Q _ => ∃ (v : V) (s : Sty), vs = [v] ∧ StV H v s ∧ ∀ H', Same H H' → Q (.int (healed s)) H'
def spNextSound : Sp := fun vs H Q _ => ∃ (v : V) (s : Sty) (b : Int), vs = [v, .int b] ∧ StV H v s ∧ Q (.int (nextSound s b)) H
def spNextSilent : Sp := fun vs H Q _ => ∃ (v : V) (s : Sty) (b : Int), vs = [v, .int b] ∧ StV H v s ∧ Q (optV (nextSilent s b)) H
def spSilentMany : Sp := fun vs H Q _ => ∃ (v : V) (s : Sty) (f l : Int), vs = [v, .int f, .int l] ∧ StV H v s ∧ s.length ≤ 1000 ∧ ∀ H', Same H H' → Q (.int (silMany s f l)) H'
def spNumberOf : Sp := fun vs H Q _ => ∃ (v : V) (s : Sty), vs = [v] ∧ StV H v s ∧ s.length ≤ 1000 ∧ Rs s ∧ Below 1000000 s ∧ ∀ H', Same H H' → Q (.int (numOf s)) H'
def spLongest : Sp := fun vs H Q _ => ∃ (v : V) (s : Sty), vs = [v] ∧ StV H v s ∧ ∀ H' u, Same H H' → ((s = [] ∧ u = .non) ∨ ∃ p, Longest p s ∧ PairV H' u p) → Q u H'
theorem two (x y : V) : [x, y].length ≤ sizeLine := small 2 (by decide)
theorem any_map_id {α : Type} (f : α → Bool) (l : List α) : (l.map f).any id = l.any f := by
  rw [List.any_map]
  rfl
theorem all_map_id {α : Type} (f : α → Bool) (l : List α) : (l.map f).all id = l.all f := by
  rw [List.all_map]
  rfl
section
variable {P : Program} {w : World} {K : PySem.W.Frag} {mg : Str → Option Value} {base : Heap} {t1 t2 t3 t4 : Tok} {aW : Addr}
abbrev sSilentAt : Stmt := topS 20
theorem scSilentAt : FnScope ["story", "beat", "begin", "end"] ["story", "beat"] (defScope sSilentAt) := ⟨rfl, rfl, rfl, by decide +kernel, rfl, by decide +kernel, by decide +kernel⟩
theorem ok_silent_at {f : Addr} {fd : FuncData} (F : Fun K "silent_at" "silent_at" sSilentAt f fd) (T : Txt K mg t1 t2 t3 t4 aW) : FnOk P w K mg base CX0 1 f fd ["story", "beat"] spSilentAt := by
  refine F.ok scSilentAt (fun vs H Q E h => ?_) (fun cdv A outer s H vs Q E hr h => ?_)
  · obtain ⟨v, s, b, rfl, _⟩ := h
    rfl
  · obtain ⟨v, s, b, rfl, ⟨a, xs, rfl, ha, hp⟩, hlen, q⟩ := h
    refine ⟨_, (pss_one (ps_ret (pe_callB (cr_any rfl) (by rfl) T.m_any b_any (pa_cons (pe_lc (own := [("begin", 2), ("end", 3)]) (g := (gTup K 2 (gCons (gName 2) (gCons (gName 3) gNil)))) (tt := tYes) rfl scSilentAt.nd (pi_tup (pv 0)) (blkOk_by (own := [("begin", 2), ("end", 3)]) (N := ["story", "beat", "begin", "end"]) (sc := defScope sSilentAt) (by decide +kernel)) (fun _ _ _ _ _ => (pg_tup rfl (pgs_cons (pg_name (i := 2) scSilentAt.nd rfl (Or.inl rfl)) (pgs_cons (pg_name (i := 3) scSilentAt.nd rfl (Or.inl rfl)) pgs_nil)))) (fun _ _ _ _ _ => pts_nil) (fun _ _ _ _ _ => (pe_chain op_le op_lt (pv 2) (pv 1) (pv 3)))) pa_nil)))), ?_⟩
    refine rd_ret (rd_cb (rd_cons ?_))
    refine lc_pairs (R := IsV V.bl) (fun p => inS p b) (stays_is _) (fun Q' h => ⟨_, rfl, h⟩) ha hp (by omega) (fun p _ H' Q' _ h => h) (fun p _ H' Q' sm h => ?_) (fun _ _ => rfl) (fun D H' ys sm hD hy hR => ?_)
    · refine ⟨.int p.1, rfl, .int b, rfl, p.1, b, rfl, rfl, _, rfl, ite2 (fun c => ?_) (fun c => ?_)⟩
      · refine ⟨.int p.2, rfl, b, p.2, rfl, rfl, h _ _ (Same.refl _) ?_⟩
        show V.bl (decide (b < p.2)) = V.bl (inS p b)
        unfold inS
        rw [c, Bool.true_and]
      · refine h _ _ (Same.refl _) ?_
        show V.bl false = V.bl (inS p b)
        unfold inS
        rw [Bool.eq_false_iff.mpr c, Bool.false_and]
    · refine ⟨D, s.map fun p => inS p b, rfl, SqL.of (by rw [hy, is_map hR]), ?_⟩
      show Q (.bl (((s.map fun p => inS p b)).any id)) H'
      rw [any_map_id]
      exact q H' sm
abbrev sHealedAt : Stmt := topS 21
theorem scHealedAt : FnScope ["story"] ["story"] (defScope sHealedAt) := ⟨rfl, rfl, rfl, by decide +kernel, rfl, by decide +kernel, by decide +kernel⟩
theorem ok_healed {f : Addr} {fd : FuncData} (F : Fun K "healed_at" "healed_at" sHealedAt f fd) : FnOk P w K mg base CX0 1 f fd ["story"] spHealed := by
  refine F.ok scHealedAt (fun vs H Q E h => ?_) (fun cdv A outer s H vs Q E hr h => ?_)
  · obtain ⟨v, s, rfl, _⟩ := h
    rfl
  · obtain ⟨v, s, rfl, hs, q⟩ := h
    obtain ⟨a, xs, rfl, ha, hp⟩ := id hs
    refine ⟨_, (pss_cons (ps_if (pt_cmpR (op_eqD hr.units) (pv 0) (pe_tup pa_nil) (nomark _))
        (pss_one (ps_ret pe_int))
        pss_nil)
      (pss_one (ps_ret (pe_ix ix_tup (pe_ix ix_tup (pv 0) (pe_un un_neg pe_int) (fun _ _ => rfl)) pe_int (fun _ _ => rfl))))), ?_⟩
    refine ⟨.ref a, rfl, Nat.zero_le _, fun p np => ?_⟩
    have sm : Same H (upd H p (.tup [])) := same_upd np
    have h2 : StV (upd H p (.tup [])) (.ref p) [] := ⟨p, [], rfl, upd_same, .nil⟩
    refine ⟨dS s, dS [], dp_story (hs.same sm), dp_story h2, dS_shaped _, dS_shaped _, _, rfl, ?_⟩
    rw [dS_eqv]
    refine ite2 (fun c => ?_) (fun c => ?_)
    · have e : s = [] := of_decide_eq_true c
      subst e
      exact q _ sm
    · have e : s ≠ [] := fun z => c (decide_eq_true z)
      rcases snoc_cases s with z | ⟨m, r, z⟩
      · exact absurd z e
      · subst z
        obtain ⟨l', u, rfl, hl, t, rfl, ht⟩ := Paired.snoc_inv hp
        refine ⟨.ref a, rfl, 1, rfl, a, _, _, _, rfl, rfl, SqT.of (sm _ _ ha), atI_last _ _, t, _, _, .int r.2, rfl, rfl, SqT.of (sm _ _ ht), atI_nat (j := 1) rfl, ?_⟩
        have e2 : healed (m ++ [r]) = r.2 := by
          unfold healed
          rw [List.getLast?_concat]
        show Q (.int r.2) _
        rw [← e2]
        exact q _ sm
abbrev sNextSound : Stmt := topS 22
theorem scNextSound : FnScope ["story", "beat", "begin", "end"] ["story", "beat"] (defScope sNextSound) := ⟨rfl, rfl, rfl, by decide +kernel, rfl, by decide +kernel, by decide +kernel⟩
theorem ok_next_sound {f : Addr} {fd : FuncData} (F : Fun K "next_sound" "next_sound" sNextSound f fd) : FnOk P w K mg base CX0 1 f fd ["story", "beat"] spNextSound := by
  refine F.ok scNextSound (fun vs H Q E h => ?_) (fun cdv A outer s H vs Q E hr h => ?_)
  · obtain ⟨v, s, b, rfl, _⟩ := h
    rfl
  · obtain ⟨v, s, b, rfl, ⟨a, xs, rfl, ha, hp⟩, q⟩ := h
    refine ⟨_, (pss_cons (ps_for PassesOwn.never rfl (pi_tup (pv 0)) (pg_tup rfl (pgs_cons (pg_name (i := 2) scNextSound.nd rfl (Or.inl rfl)) (pgs_cons (pg_name (i := 3) scNextSound.nd rfl (Or.inl rfl)) pgs_nil)))
        (pss_one (ps_if (pt_chain op_le op_lt (pv 2) (pv 1) (pv 3))
          (pss_one (ps_ret (pv 3)))
          pss_nil)))
      (pss_one (ps_ret (pv 1)))), ?_⟩
    refine ⟨.ref a, rfl, a, rfl, ⟨xs, SqT.of ha⟩, for_tup (K := K) (a := a) (xs := xs) (fun i σ H' => ∃ y2 y3, σ = [some (.ref a), some (.int b), y2, y3] ∧ H' = H ∧ nextSound (s.drop i) b = nextSound s b)
      ⟨none, none, rfl, rfl, rfl⟩ (fun i σ H' _ h => ?_) (fun i x σ H' hx h => ?_) (fun σ H' h => ?_)⟩
    · obtain ⟨_, _, _, rfl, _⟩ := h
      exact SqT.of ha
    · obtain ⟨y2, y3, rfl, rfl, e⟩ := h
      obtain ⟨p, hsp, t, rfl, htp⟩ := Paired.get hp hx
      refine ⟨t, _, rfl, SqT.of htp, rfl, _, _, rfl, _, _, rfl, rfl, ?_⟩
      have ed : s.drop i = p :: s.drop (i + 1) := by
        obtain ⟨h1, h2⟩ := List.getElem?_eq_some_iff.mp hsp
        rw [← h2]
        exact List.drop_eq_getElem_cons h1
      rw [ed, show nextSound (p :: s.drop (i + 1)) b = if inS p b = true then p.2 else nextSound (s.drop (i + 1)) b from rfl] at e
      refine ⟨.int p.1, rfl, .int b, rfl, p.1, b, rfl, rfl, _, rfl, ite2 (fun c => ?_) (fun c => ?_)⟩
      · refine ⟨.int p.2, rfl, b, p.2, rfl, rfl, _, rfl, ite2 (fun c2 => ?_) (fun c2 => ?_)⟩
        · rw [if_pos (show inS p b = true by unfold inS; rw [c, c2]; rfl)] at e
          refine ⟨.int p.2, rfl, ?_⟩
          show Q (.int p.2) _
          rw [e]
          exact q
        · rw [if_neg (show ¬ inS p b = true by unfold inS; rw [c, Bool.true_and]; exact c2)] at e
          exact ⟨_, _, rfl, rfl, e⟩
      · rw [if_neg (show ¬ inS p b = true by unfold inS; rw [Bool.eq_false_iff.mpr c, Bool.false_and]; decide)] at e
        exact ⟨false, rfl, iteF ⟨_, _, rfl, rfl, e⟩⟩
    · obtain ⟨y2, y3, rfl, rfl, e⟩ := h
      rw [Paired.len hp, List.drop_length] at e
      refine ⟨.int b, rfl, ?_⟩
      show Q (.int b) _
      rw [show b = nextSound s b from e]
      exact q
abbrev sNextSilent : Stmt := topS 23
theorem scNextSilent : FnScope ["story", "beat", "begin", "end"] ["story", "beat"] (defScope sNextSilent) := ⟨rfl, rfl, rfl, by decide +kernel, rfl, by decide +kernel, by decide +kernel⟩
theorem ok_next_silent {f : Addr} {fd : FuncData} (F : Fun K "next_silent" "next_silent" sNextSilent f fd) (T : Txt K mg t1 t2 t3 t4 aW) : FnOk P w K mg base CX0 1 f fd ["story", "beat"] spNextSilent := by
  refine F.ok scNextSilent (fun vs H Q E h => ?_) (fun cdv A outer s H vs Q E hr h => ?_)
  · obtain ⟨v, s, b, rfl, _⟩ := h
    rfl
  · obtain ⟨v, s, b, rfl, ⟨a, xs, rfl, ha, hp⟩, q⟩ := h
    refine ⟨_, (pss_cons (ps_for PassesOwn.never rfl (pi_tup (pv 0)) (pg_tup rfl (pgs_cons (pg_name (i := 2) scNextSilent.nd rfl (Or.inl rfl)) (pgs_cons (pg_name (i := 3) scNextSilent.nd rfl (Or.inl rfl)) pgs_nil)))
        (pss_one (ps_if (pt_cmpR op_lt (pv 1) (pv 3) (nomark _))
          (pss_one (ps_ret (pe_callB (call_max2 rfl) (by rfl) T.m_max b_max (pa_cons (pv 1) (pa_cons (pv 2) pa_nil)))))
          pss_nil)))
      (pss_one (ps_ret pe_non))), ?_⟩
    refine ⟨.ref a, rfl, a, rfl, ⟨xs, SqT.of ha⟩, for_tup (K := K) (a := a) (xs := xs) (fun i σ H' => ∃ y2 y3, σ = [some (.ref a), some (.int b), y2, y3] ∧ H' = H ∧ nextSilent (s.drop i) b = nextSilent s b)
      ⟨none, none, rfl, rfl, rfl⟩ (fun i σ H' _ h => ?_) (fun i x σ H' hx h => ?_) (fun σ H' h => ?_)⟩
    · obtain ⟨_, _, _, rfl, _⟩ := h
      exact SqT.of ha
    · obtain ⟨y2, y3, rfl, rfl, e⟩ := h
      obtain ⟨p, hsp, t, rfl, htp⟩ := Paired.get hp hx
      refine ⟨t, _, rfl, SqT.of htp, rfl, _, _, rfl, _, _, rfl, rfl, ?_⟩
      have ed : s.drop i = p :: s.drop (i + 1) := by
        obtain ⟨h1, h2⟩ := List.getElem?_eq_some_iff.mp hsp
        rw [← h2]
        exact List.drop_eq_getElem_cons h1
      rw [ed, show nextSilent (p :: s.drop (i + 1)) b = if b < p.2 then some (mx b p.1) else nextSilent (s.drop (i + 1)) b from rfl] at e
      refine ⟨.int b, rfl, .int p.2, rfl, b, p.2, rfl, rfl, _, rfl, ite2 (fun c => ?_) (fun c => ?_)⟩
      · rw [if_pos (of_decide_eq_true c)] at e
        refine ⟨.int b, rfl, .int p.1, rfl, b, p.1, rfl, ?_⟩
        show Q (.int (mx b p.1)) _
        rw [← e] at q
        exact q
      · rw [if_neg (fun z => c (decide_eq_true z))] at e
        exact ⟨_, _, rfl, rfl, e⟩
    · obtain ⟨y2, y3, rfl, rfl, e⟩ := h
      rw [Paired.len hp, List.drop_length] at e
      show Q .non _
      rw [← e] at q
      exact q
abbrev sSilentMany : Stmt := topS 24
theorem scSilentMany : FnScope ["story", "first", "last", "begin", "end"] ["story", "first", "last"] (defScope sSilentMany) := ⟨rfl, rfl, rfl, by decide +kernel, rfl, by decide +kernel, by decide +kernel⟩
theorem ok_silent_many {f : Addr} {fd : FuncData} (F : Fun K "silent_many" "silent_many" sSilentMany f fd) (T : Txt K mg t1 t2 t3 t4 aW) : FnOk P w K mg base CX0 1 f fd ["story", "first", "last"] spSilentMany := by
  refine F.ok scSilentMany (fun vs H Q E h => ?_) (fun cdv A outer s H vs Q E hr h => ?_)
  · obtain ⟨v, s, b, l, rfl, _⟩ := h
    rfl
  · obtain ⟨v, s, b, l, rfl, ⟨a, xs, rfl, ha, hp⟩, hlen, q⟩ := h
    refine ⟨_, (pss_one (ps_ret (pe_callB (cr_sum rfl) (by rfl) T.m_sum b_sum (pa_cons (pe_lc (own := [("begin", 3), ("end", 4)]) (g := (gTup K 2 (gCons (gName 3) (gCons (gName 4) gNil)))) (tt := tYes) rfl scSilentMany.nd (pi_tup (pv 0)) (blkOk_by (own := [("begin", 3), ("end", 4)]) (N := ["story", "first", "last", "begin", "end"]) (sc := defScope sSilentMany) (by decide +kernel)) (fun _ _ _ _ _ => (pg_tup rfl (pgs_cons (pg_name (i := 3) scSilentMany.nd rfl (Or.inl rfl)) (pgs_cons (pg_name (i := 4) scSilentMany.nd rfl (Or.inl rfl)) pgs_nil)))) (fun _ _ _ _ _ => pts_nil) (fun _ _ _ _ _ => (pe_callB (call_max2 rfl) (by rfl) T.m_max b_max (pa_cons pe_int (pa_cons (pe_op op_sub (pe_callB (call_min2 rfl) (by rfl) T.m_min b_min (pa_cons (pv 4) (pa_cons (pv 2) pa_nil))) (pe_callB (call_max2 rfl) (by rfl) T.m_max b_max (pa_cons (pv 3) (pa_cons (pv 1) pa_nil)))) pa_nil))))) pa_nil)))), ?_⟩
    refine rd_ret (rd_cb (rd_cons ?_))
    refine lc_pairs (R := IsV V.int) (fun p => mx 0 (mn p.2 l - mx p.1 b)) (stays_is _) (fun Q' h => ⟨_, rfl, h⟩) ha hp (by omega) (fun p _ H' Q' _ h => h) (fun p _ H' Q' sm h => ?_) (fun _ _ => rfl) (fun D H' ys sm hD hy hR => ?_)
    · refine ⟨.int p.2, rfl, .int l, rfl, p.2, l, rfl, .int p.1, rfl, .int b, rfl, p.1, b, rfl, mn p.2 l, mx p.1 b, rfl, rfl, 0, _, rfl, h _ _ (Same.refl _) rfl⟩
    · exact ⟨D, s.map fun p : Int × Int => mx 0 (mn p.2 l - mx p.1 b), rfl, SqL.of (by rw [hy, is_map hR]), q H' sm⟩
abbrev sNumberOf : Stmt := topS 32
theorem scNumberOf : FnScope ["story", "begin", "end"] ["story"] (defScope sNumberOf) := ⟨rfl, rfl, rfl, by decide +kernel, rfl, by decide +kernel, by decide +kernel⟩
theorem ok_number_of {f : Addr} {fd : FuncData} (F : Fun K "number_of" "number_of" sNumberOf f fd) (T : Txt K mg t1 t2 t3 t4 aW) : FnOk P w K mg base CX0 1 f fd ["story"] spNumberOf := by
  refine F.ok scNumberOf (fun vs H Q E h => ?_) (fun cdv A outer s H vs Q E hr h => ?_)
  · obtain ⟨v, s, rfl, _⟩ := h
    rfl
  · obtain ⟨v, s, rfl, ⟨a, xs, rfl, ha, hp⟩, hlen, hs, hb, q⟩ := h
    refine ⟨_, (pss_one (ps_ret (pe_callB (cr_sum rfl) (by rfl) T.m_sum b_sum (pa_cons (pe_lc (own := [("begin", 1), ("end", 2)]) (g := (gTup K 2 (gCons (gName 1) (gCons (gName 2) gNil)))) (tt := tYes) rfl scNumberOf.nd (pi_tup (pv 0)) (blkOk_by (own := [("begin", 1), ("end", 2)]) (N := ["story", "begin", "end"]) (sc := defScope sNumberOf) (by decide +kernel)) (fun _ _ _ _ _ => (pg_tup rfl (pgs_cons (pg_name (i := 1) scNumberOf.nd rfl (Or.inl rfl)) (pgs_cons (pg_name (i := 2) scNumberOf.nd rfl (Or.inl rfl)) pgs_nil)))) (fun _ _ _ _ _ => pts_nil) (fun _ _ _ _ _ => (pe_op op_sub (pe_op op_shl pe_int (pv 2)) (pe_op op_shl pe_int (pv 1))))) pa_nil)))), ?_⟩
    refine rd_ret (rd_cb (rd_cons ?_))
    refine lc_pairs (R := IsV V.int) (fun p => (1 : Int) * 2 ^ p.2.toNat - 1 * 2 ^ p.1.toNat) (stays_is _) (fun Q' h => ⟨_, rfl, h⟩) ha hp (by omega) (fun p _ H' Q' _ h => h) (fun p hm H' Q' sm h => ?_) (fun _ _ => rfl) (fun D H' ys sm hD hy hR => ?_)
    · have h1 := hs.ok p hm
      have h2 := hb p hm
      have c1 : ∀ j : Int, 0 ≤ j → j ≤ 1000000 → CPow 1 j := fun j a b => ⟨a, b, by decide⟩
      exact ⟨.int p.2, rfl, 1, p.2, rfl, rfl, c1 _ (by omega) h2, .int p.1, rfl, 1, p.1, rfl, rfl, c1 _ h1.1 (by omega), _, _, rfl, rfl, h _ _ (Same.refl _) rfl⟩
    · exact ⟨D, s.map fun p : Int × Int => (1 : Int) * 2 ^ p.2.toNat - 1 * 2 ^ p.1.toNat, rfl, SqL.of (by rw [hy, is_map hR]), q H' sm⟩
abbrev sLongestOf : Stmt := topS 25
theorem scLongestOf : FnScope ["story", "found", "begin", "end"] ["story"] (defScope sLongestOf) := ⟨rfl, rfl, rfl, by decide +kernel, rfl, by decide +kernel, by decide +kernel⟩
theorem ok_longest {f : Addr} {fd : FuncData} (F : Fun K "longest_of" "longest_of" sLongestOf f fd) : FnOk P w K mg base CX0 1 f fd ["story"] spLongest := by
  refine F.ok scLongestOf (fun vs H Q E h => ?_) (fun cdv A outer s H vs Q E hr h => ?_)
  · obtain ⟨v, s, rfl, _⟩ := h
    rfl
  · obtain ⟨v, s, rfl, ⟨a, xs, rfl, ha, hp⟩, q⟩ := h
    refine ⟨_, (pss_cons (ps_set (i := 1) scLongestOf.nd rfl (Or.inl rfl) pe_non)
      (pss_cons (ps_for PassesOwn.never rfl (pi_tup (pv 0)) (pg_tup rfl (pgs_cons (pg_name (i := 2) scLongestOf.nd rfl (Or.inl rfl)) (pgs_cons (pg_name (i := 3) scLongestOf.nd rfl (Or.inl rfl)) pgs_nil)))
        (pss_one (ps_if (PW.pt (pw_or (pt_cmpR op_isN (pv 1) pe_non (nomark _)) (pw_or1 (pt_cmpR op_gt (pe_op op_sub (pv 3) (pv 2)) (pe_op op_sub (pe_ix ix_tup (pv 1) pe_int (fun _ _ => rfl)) (pe_ix ix_tup (pv 1) pe_int (fun _ _ => rfl))) (nomark _)))))
          (pss_one (ps_set (i := 1) scLongestOf.nd rfl (Or.inl rfl) (pe_tup (pa_cons (pv 2) (pa_cons (pv 3) pa_nil)))))
          pss_nil)))
      (pss_one (ps_ret (pv 1))))), ?_⟩
    refine ⟨.ref a, rfl, a, rfl, ⟨xs, SqT.of ha⟩, for_tup (K := K) (a := a) (xs := xs) (fun i σ H' => ∃ fv y2 y3, σ = [some (.ref a), some fv, y2, y3] ∧ Same H H' ∧ ((i = 0 ∧ fv = .non) ∨ ∃ p, Longest p (s.take i) ∧ PairV H' fv p))
      ⟨.non, none, none, rfl, Same.refl _, .inl ⟨rfl, rfl⟩⟩ (fun i σ H' _ h => ?_) (fun i x σ H' hx h => ?_) (fun σ H' h => ?_)⟩
    · obtain ⟨_, _, _, _, sm, _⟩ := h
      exact SqT.of (sm _ _ ha)
    · obtain ⟨fv, y2, y3, rfl, sm, hf⟩ := h
      obtain ⟨p, hsp, t, rfl, htp⟩ := Paired.get hp hx
      refine ⟨t, _, rfl, SqT.of (sm _ _ htp), rfl, _, _, rfl, _, _, rfl, rfl, ?_⟩
      have et := take_snoc hsp
      rcases hf with ⟨rfl, rfl⟩ | ⟨r, hr1, u, rfl, hu⟩
      · refine ⟨.non, rfl, rfl, true, rfl, iteT ⟨.int p.1, rfl, .int p.2, rfl, two _ _, fun d nd => ?_⟩⟩
        refine ⟨_, _, _, rfl, sm.trans (same_upd nd), .inr ⟨p, ?_, d, rfl, upd_same⟩⟩
        rw [et]
        refine ⟨List.mem_append_right _ (List.mem_singleton.mpr rfl), fun z hz => ?_⟩
        rw [show s.take 0 ++ [p] = [p] from rfl] at hz
        rw [List.mem_singleton.mp hz]
        exact Int.le_refl _
      · refine ⟨.ref u, rfl, rfl, false, rfl, iteF ?_⟩
        refine ⟨.int p.2, rfl, .int p.1, rfl, p.2, p.1, rfl, rfl, .ref u, rfl, u, _, _, .int r.2, rfl, rfl, SqT.of hu, atI_nat (j := 1) rfl, .ref u, rfl, u, _, _, .int r.1, rfl, rfl, SqT.of hu, atI_nat (j := 0) rfl, r.2, r.1, rfl, rfl, _, _, rfl, rfl, _, rfl, ite2 (fun c => ?_) (fun c => ?_)⟩
        · have c' : r.2 - r.1 < p.2 - p.1 := of_decide_eq_true c
          refine ⟨.int p.1, rfl, .int p.2, rfl, two _ _, fun d nd => ?_⟩
          refine ⟨_, _, _, rfl, sm.trans (same_upd nd), .inr ⟨p, ?_, d, rfl, upd_same⟩⟩
          rw [et]
          refine ⟨List.mem_append_right _ (List.mem_singleton.mpr rfl), fun z hz => ?_⟩
          rcases List.mem_append.mp hz with hz | hz
          · have := hr1.2 z hz
            omega
          · rw [List.mem_singleton.mp hz]
            exact Int.le_refl _
        · have c' : ¬ r.2 - r.1 < p.2 - p.1 := fun z => c (decide_eq_true z)
          refine ⟨_, _, _, rfl, sm, .inr ⟨r, ?_, u, rfl, hu⟩⟩
          rw [et]
          refine ⟨List.mem_append_left _ hr1.1, fun z hz => ?_⟩
          rcases List.mem_append.mp hz with hz | hz
          · exact hr1.2 z hz
          · rw [List.mem_singleton.mp hz]
            omega
    · obtain ⟨fv, y2, y3, rfl, sm, hf⟩ := h
      refine ⟨fv, rfl, q H' fv sm ?_⟩
      rw [Paired.len hp, List.take_length] at hf
      rcases hf with ⟨h0, rfl⟩ | h
      · exact .inl ⟨List.eq_nil_of_length_eq_zero h0, rfl⟩
      · exact .inr h
end
end Kp

/-! ### sorted of what is a list or a tuple, at the library's level -/
namespace KpS
open PySem PyProof.Rows Srt SrtO
/-- the things of l come out of collect as vs -/
def Collects (prog : Program) (w : World) (s : Shared) (l : Addr) (vs : List Value) : Prop :=
  ∀ (A : Around) (E : Value → Shared → Prop) (Q : List Value → Shared → Prop), Q vs { s with heap := (s.heap.push (seqObj "list" #[] 0)).update s.heap.objs.size (Obj.mapSeq (· ++ vs.toArray)) } → wpAny (model prog w) A (collect (.ref l)) Q E s
section
variable {prog : Program} {w : World} {A : Around} {E : Value → Shared → Prop} {s : Shared}
theorem collects_list {l : Addr} {vs : List Value} (hl : s.heap.IsList l vs.toArray) (hz : vs.length ≤ sizeLine) : Collects prog w s l vs := fun _ _ _ h => collect_list hl h hz
theorem collects_tuple {l : Addr} {vs : List Value} (hl : IsTup s.heap l vs.toArray) (hz : vs.length ≤ sizeLine) : Collects prog w s l vs := fun A E Q h => by
  obtain ⟨ob, hob, hcl, m, hdat⟩ := id hl
  have hob' : (s.heap.push (seqObj "list" #[] 0)).get? l = some ob := Heap.get?_push_of_some _ hob
  have isNew : (s.heap.push (seqObj "list" #[] 0)).get? s.heap.objs.size = some (seqObj "list" #[] 0) := Heap.get?_push_size _ rfl
  have tt : (listSameRefOr : Bool) → (listSameRefOr || Value.type "tuple" == Value.type "list" || Value.type "tuple" == Value.type "tuple") = true := fun b => by
    have e : (Value.type "tuple" == Value.type "tuple") = true := by rfl
    rw [e, Bool.or_true]
  unfold collect
  refine wpAny_bind (wpAny_runValue (codeAny_builtin entry_proto_collect' ?_)); show wpAny _ _ (do again (.builtin "list.__iadd__" ⟨[← newList [], .ref l], []⟩)) _ _ s
  refine wpAny_bind (wpAny_newList (wpAny_pure ⟨Code.quiet_builtin _ (by decide +kernel), codeAny_builtin entry_list_iadd' ?_⟩)); show wpAny _ _ (Builtin.List.listExtendWith (.ref s.heap.objs.size) (.ref l) (.ref s.heap.objs.size)) _ _ { s with heap := s.heap.push (seqObj "list" #[] 0) }; unfold Builtin.List.listExtendWith
  refine wpAny_bind (wpAny_typeOf (T := "tuple") ⟨ob, hob', hcl⟩ ?_); rw [if_pos (tt _)]
  refine wpAny_bind (listItems_at hob' hdat (wpAny_bind (listItems_at (xs := #[]) (n := 0) isNew rfl ?_)))
  rw [if_neg (by simp)]
  refine wpAny_bind (listUpdate_at (xs := #[]) (n := 0) isNew rfl (wpAny_pure ?_) (Nat.zero_le _) (by show (#[] ++ vs.toArray).size ≤ sizeLine + 1; simp only [Array.size_append, List.size_toArray, List.length_nil]; omega))
  show wpAny (model prog w) A (do let o ← load s.heap.objs.size; match o.data with | .seq xs _ => pure xs.toList | _ => unsupported "internal:collect") Q E { s with heap := (s.heap.push (seqObj "list" #[] 0)).update s.heap.objs.size (Obj.mapSeq (· ++ vs.toArray)) }
  refine wpAny_bind (wpAny_load (get?_update_seq isNew _) ?_); show wpAny _ _ (pure ((#[] : Array Value) ++ vs.toArray).toList) Q E _
  have e : ((#[] : Array Value) ++ vs.toArray).toList = vs := by simp
  rw [e]; exact wpAny_pure h
/-- sorted(l) where l comes out as vs: the new list stands behind the collected one -/
theorem sorted_of {l : Addr} {vs : List Value} {ltv : Value → Value → Bool} {Q : Value → Shared → Prop} (O : Swo ltv) (hc : Collects prog w s l vs) (hz : vs.length ≤ sizeLine)
    (hS : 2 ≤ vs.length → ∀ (g : Heap) (a : Addr), g.get? a = some (seqObj "list" vs.toArray 0) → (∀ b o, s.heap.get? b = some o → b ≠ a ∧ g.get? b = some o) → SortableO prog w A.in1.in1 { s with heap := g } a vs ltv)
    (h : ∀ out : List Value, Srtd ltv out → Stb ltv out vs → Q (.ref (s.heap.objs.size + 1)) { s with heap := sortedAll s.heap vs out.toArray }) : wpAny (model prog w) A (call (.builtin "sorted") [.ref l]) Q E s := by
  refine Calls.call_function_entry kind_sorted plain_sorted entry_sorted (args_sorted1 _) ?_; unfold Builtin.«sorted»
  refine wpAny_bind (m := checkCount "sorted" 1 1 _) (wpAny_pure (wpAny_bind (hc _ _ _ (wpAny_bind (wpAny_newList ?_ hz)))))
  have e1 : ((s.heap.push (seqObj "list" #[] 0)).update s.heap.objs.size (Obj.mapSeq (· ++ vs.toArray))).objs.size = s.heap.objs.size + 1 := by rw [Heap.size_update, size_push']
  have at1 : (((s.heap.push (seqObj "list" #[] 0)).update s.heap.objs.size (Obj.mapSeq (· ++ vs.toArray))).push (seqObj "list" vs.toArray 0)).get? (s.heap.objs.size + 1) = some (seqObj "list" vs.toArray 0) := by rw [← e1]; exact Heap.get?_push_size _ rfl
  have old : ∀ b o, s.heap.get? b = some o → b ≠ s.heap.objs.size + 1 ∧ (((s.heap.push (seqObj "list" #[] 0)).update s.heap.objs.size (Obj.mapSeq (· ++ vs.toArray))).push (seqObj "list" vs.toArray 0)).get? b = some o := fun b o q => by
    have lt : b < s.heap.objs.size := Heap.lt_size q
    refine ⟨Nat.ne_of_lt (Nat.lt_succ_of_lt lt), Heap.get?_push_of_some _ ?_⟩; rw [Heap.get?_update_ne _ _ _ _ (Nat.ne_of_lt lt)]; exact Heap.get?_push_of_some _ q
  show wpAny _ _ _ _ _ { s with heap := ((s.heap.push (seqObj "list" #[] 0)).update s.heap.objs.size (Obj.mapSeq (· ++ vs.toArray))).push (seqObj "list" vs.toArray 0) }; rw [e1]
  exact wpAny_bind (wpAny_holding (wpAny_call_entry slot_list_sort ⟨_, at1, rfl⟩ entry_list_sort (list_sort_ord O at1 hz (fun h2 => hS h2 _ _ at1 old) fun out q1 q2 => ⟨_, rfl, wpAny_pure ⟨_, rfl, h out q1 q2⟩⟩) (args_list_sort _)))

/-! ### pairs (int, word), word one of two -/
def wd (b : Bool) : Str := if b = true then "sound" else "silent"
theorem wd_lt : ∀ a b : Bool, decide ((wd a).cps.toList < (wd b).cps.toList) = (!a && b) := by decide +kernel
theorem wd_eq : ∀ a b : Bool, (wd a == wd b) = (a == b) := by decide +kernel
def IsLk (h : Heap) (v : Value) (l : Kp.Lk) : Prop := ∃ a o t u n, v = .ref a ∧ h.get? a = some o ∧ o.cls = .type "tuple" ∧ o.data = .seq #[.int l.1 t, .str (wd l.2) u] n
theorem IsLk.keeps {h h' : Heap} {v : Value} {l : Kp.Lk} (p : IsLk h v l) (k : ∀ b o, h.get? b = some o → o.cls = .type "tuple" → h'.get? b = some o) : IsLk h' v l := by
  obtain ⟨a, o, t, u, n, e, ho, hc, hd⟩ := p; exact ⟨a, o, t, u, n, e, k _ _ ho hc, hc, hd⟩
theorem swo_lk (k : Value → Kp.Lk) : Swo fun v u => Kp.lkLt (k v) (k u) := by
  have key : ∀ a b : Kp.Lk, Kp.lkLt a b = true ↔ ¬ (b.1 < a.1 ∨ (b.1 = a.1 ∧ (b.2 = true → a.2 = true))) := fun a b => by
    rw [← Kp.lkLe_iff (a := b) (b := a)]
    unfold Kp.lkLe
    simp
  refine ⟨fun x y h => ?_, fun x y z h1 h2 => ?_⟩
  · have a := (key _ _).mp h
    refine Bool.eq_false_iff.mpr fun q => ?_
    have b := (key _ _).mp q
    cases e1 : (k x).2 <;> cases e2 : (k y).2 <;> rw [e1, e2] at a b <;> simp at a b <;> omega
  · have a := fun q => Bool.eq_false_iff.mp h1 ((key _ _).mpr q)
    have b := fun q => Bool.eq_false_iff.mp h2 ((key _ _).mpr q)
    refine Bool.eq_false_iff.mpr fun q => ?_
    have c := (key _ _).mp q
    cases e1 : (k x).2 <;> cases e2 : (k y).2 <;> cases e3 : (k z).2 <;> rw [e1, e2] at a <;> rw [e2, e3] at b <;> rw [e1, e3] at c <;> simp at a b c <;> omega
theorem lk_cmp {vs : List Value} {k : Value → Kp.Lk} (hp : ∀ v ∈ vs, IsLk s.heap v (k v)) : Cmp prog w A s (tuples' true) (fun p => p.1 ∈ vs) (lt2 fun v u => Kp.lkLt (k v) (k u)) := fun p q hm hm' => by
  have h1 := hp _ hm
  have h2 := hp _ hm'
  show wpAny (model prog w) A (keyLt' (tuples' true) p.1 q.1) (fun r s' => s' = s ∧ r = Kp.lkLt (k p.1) (k q.1)) (fun _ _ => False) s
  generalize k p.1 = x at h1 ⊢
  generalize k q.1 = y at h2 ⊢
  obtain ⟨a, o, t, u, n, ea, ho, hc, hd⟩ := h1
  obtain ⟨b, o', t', u', n', eb, ho', hc', hd'⟩ := h2
  rw [ea, eb]
  unfold Kp.lkLt
  refine PySem.W.kat_lt ho hd ho' hd' ?_; show PySem.W.KatLex prog w A true (decide (2 < 2)) _ [(.int x.1 t, .int y.1 t'), (.str (wd x.2) u, .str (wd y.2) u')] 0 s
  refine PySem.W.kat_cons (SeqAt.EqAt.int_int x.1 t y.1 t' prog w _ _ (PySem.W.kat_go (fun e1 => ?_) (fun e1 => ?_)))
  · have ex : x.1 = y.1 := by simpa using e1
    rw [if_pos ex]
    refine PySem.W.kat_yes (PySem.W.kat_cons (SeqAt.EqAt.str_str (wd x.2) u (wd y.2) u' prog w _ _ (PySem.W.kat_go (fun e2 => ?_) (fun e2 => ?_))))
    · have ey : x.2 = y.2 := by rw [wd_eq] at e2; simpa using e2
      refine PySem.W.kat_yes (PySem.W.kat_nil ⟨rfl, ?_⟩)
      rw [ey]
      cases y.2 <;> rfl
    · refine PySem.W.kat_no (PySem.W.kat_one _ _ (PyProof.Rows.lt_str ?_))
      exact (show s = s ∧ decide ((wd x.2).cps.toList < (wd y.2).cps.toList) = (!x.2 && y.2) from ⟨rfl, wd_lt _ _⟩)
  · have ex : ¬ x.1 = y.1 := by simpa using e1
    rw [if_neg ex]
    exact PySem.W.kat_no (oneLt_int ⟨rfl, rfl⟩)
theorem lk_firsts {h : Heap} : ∀ {vs : List Value}, (∀ v ∈ vs, ∃ l, IsLk h v l) → ∃ fs : List Value, PySem.W.KatTups h vs fs ∧ fs.length = vs.length ∧ ∀ f ∈ fs, ∃ x t, f = Value.int x t
  | [], _ => ⟨[], .nil, rfl, fun _ z => by cases z⟩
  | v :: vs, hp => by
    obtain ⟨fs, k1, k2, k3⟩ := lk_firsts (vs := vs) fun u z => hp u (List.mem_cons_of_mem _ z)
    obtain ⟨l, a, o, t, u, n, rfl, ho, hc, hd⟩ := hp v List.mem_cons_self
    refine ⟨.int l.1 t :: fs, .cons ho hc hd rfl k1, by simp [k2], fun f z => ?_⟩
    rcases List.mem_cons.mp z with e | z
    · exact ⟨l.1, t, e⟩
    · exact k3 f z
theorem lk_sortable {a : Addr} {vs : List Value} {k : Value → Kp.Lk} (h0 : 0 < vs.length) (hp : ∀ v ∈ vs, IsLk s.heap v (k v)) (ha : ∀ o, s.heap.get? a = some o → o.cls ≠ .type "tuple") : SortableO prog w A s a vs fun v u => Kp.lkLt (k v) (k u) := fun g keep => by
  have hp' : ∀ v ∈ vs, IsLk g v (k v) := fun v z => (hp v z).keeps fun b o e c => keep b o (fun y => ha o (by rw [← y]; exact e) c) e
  obtain ⟨fs, k1, k2, k3⟩ := lk_firsts fun v z => ⟨_, hp' v z⟩
  refine ⟨tuples' true, fun Q E hq => PySem.W.kat_kind (T := .type "int") k1 (by omega) (fun f z => ?_) (by rfl) ?_, lk_cmp hp'⟩
  · obtain ⟨x, t, rfl⟩ := k3 f z; exact PySem.W.Looks.now
  · have e : (Value.type "int" != Value.type "tuple") = true := by decide +kernel
    rw [e]; exact hq
end
end KpS
namespace Kp
open PySem PySem.Spec PyProof.Rows L2
open KpS (wd)
/-! ### the same as rules of the layer -/
/-- a look -/
def LkV (H : Hp) (v : V) (l : Lk) : Prop := ∃ t, v = .ref t ∧ H t = some (.tup [.int l.1, .str (wd l.2)])
theorem stays_lk : Stays LkV := by
  refine ⟨fun {H H' v b} s h => ?_, fun {H D xs ys v b} h z => ?_⟩
  · obtain ⟨t, rfl, e⟩ := h
    exact ⟨t, rfl, s _ _ e⟩
  · obtain ⟨t, rfl, e⟩ := z
    exact ⟨t, rfl, by rw [upd_ne (ne_of e h (by intro q; cases q))]; exact e⟩
def pairAt (H : Hp) : V → Int × Int
  | .ref t => match H t with
    | some (.tup [.int i, .int j]) => (i, j)
    | _ => (0, 0)
  | _ => (0, 0)
def lkAt (H : Hp) : V → Lk
  | .ref t => match H t with
    | some (.tup [.int i, .str z]) => (i, z == "sound")
    | _ => (0, false)
  | _ => (0, false)
theorem pairAt_of {H : Hp} {v : V} {p : Int × Int} (h : PairV H v p) : pairAt H v = p := by
  obtain ⟨t, rfl, e⟩ := h
  unfold pairAt
  simp only [e]
theorem wd_sound : ∀ b : Bool, (wd b == "sound") = b := by decide +kernel
theorem lkAt_of {H : Hp} {v : V} {l : Lk} (h : LkV H v l) : lkAt H v = l := by
  obtain ⟨t, rfl, e⟩ := h
  unfold lkAt
  simp only [e, wd_sound]
theorem paired_map {α : Type} {F : V → α → Prop} {g : V → α} (hg : ∀ v a, F v a → g v = a) : ∀ {xs : List V} {l : List α}, Paired F xs l → xs.map g = l ∧ ∀ x ∈ xs, F x (g x)
  | _, _, .nil => ⟨rfl, fun _ z => by cases z⟩
  | _, _, .cons r t => by
    obtain ⟨h1, h2⟩ := paired_map hg t
    refine ⟨by rw [List.map_cons, h1, hg _ _ r], fun x z => ?_⟩
    rcases List.mem_cons.mp z with e | z
    · rw [e, hg _ _ r]; exact r
    · exact h2 x z
theorem map_paired {α : Type} {F : V → α → Prop} {g : V → α} : ∀ {xs : List V}, (∀ x ∈ xs, F x (g x)) → Paired F xs (xs.map g)
  | [], _ => .nil
  | x :: xs, h => .cons (h x List.mem_cons_self) (map_paired fun y z => h y (List.mem_cons_of_mem _ z))
/-- sorted(x), x a list or a tuple of pairs of ints -/
def rSortedPA (K : PySem.W.Frag) : List V → Hp → VK → Prop := fun vs H Q => ∃ (a : Addr) (xs : List V) (s : Sty), vs = [V.ref a] ∧ (SqL K H a xs ∨ SqT K H a xs) ∧ Paired (PairV H) xs s ∧
  ∀ (ys : List V) (s' : Sty) (p : Addr), s'.Perm s → s'.Pairwise (fun p q => p.1 ≤ q.1) → Paired (PairV H) ys s' → H p = none → Q (.ref p) (upd H p (.lst ys))
/-- sorted(x), x a tuple of looks -/
def rSortedLk (K : PySem.W.Frag) : List V → Hp → VK → Prop := fun vs H Q => ∃ (a : Addr) (xs : List V) (s : List Lk), vs = [V.ref a] ∧ (SqL K H a xs ∨ SqT K H a xs) ∧ Paired (LkV H) xs s ∧
  ∀ (ys : List V) (s' : List Lk) (p : Addr), s'.Perm s → s'.Pairwise lkLe → Paired (LkV H) ys s' → H p = none → Q (.ref p) (upd H p (.lst ys))
section
variable {X : Cx}
theorem out_of {pins : List (Addr × Obj)} {s : Shared} {σ : L2.St} {H : Hp} {a : Addr} {xs : List V} (I : Inv X pins σ H s) (hs : SqL X.K H a xs ∨ SqT X.K H a xs) : ∃ its : List Value, Vals xs its ∧ KpS.Collects X.prog X.w s a its ∧ xs.length ≤ sizeLine := by
  rcases hs with hs | hs
  · obtain ⟨its, rv, hl, hz⟩ := I.list hs
    exact ⟨its, rv, KpS.collects_list hl.isList (by rw [← rv.length]; exact hz), hz⟩
  · obtain ⟨its, rv, hl, hz⟩ := I.tuple hs
    exact ⟨its, rv, KpS.collects_tuple hl (by rw [← rv.length]; exact hz), hz⟩
theorem cr_sortedPA : CallR X (.builtin "sorted") (rSortedPA X.K) := fun pins s σ H vs us Q I r h => by
  obtain ⟨a, xs, st, rfl, hs, hp, q⟩ := h
  obtain ⟨its, rv, hc, hz⟩ := out_of I hs
  obtain ⟨_, rfl, rfl⟩ := vals1 r
  obtain ⟨em, hx⟩ := paired_map (fun v p z => pairAt_of z) hp
  obtain ⟨e1, e2⟩ := refs_back rv fun x m => ⟨_, (hx x m).choose_spec.1⟩
  have isp : ∀ (g : Heap), (∀ b o, s.heap.get? b = some o → g.get? b = some o) → ∀ v ∈ its, Srt.IsPair g v (pairAt H (backV v)).1 (pairAt H (backV v)).2 := fun g kg v hv => by
    obtain ⟨t, rfl⟩ := e2 v hv
    obtain ⟨t', e, ht⟩ := hx (V.ref t) (by rw [e1]; exact List.mem_map.mpr ⟨_, hv, rfl⟩)
    cases e
    obtain ⟨_, its2, r2, o, ho, hcl, n, hd⟩ := I.hok _ _ ht
    obtain ⟨u1, u2, rfl, ⟨t1, rfl⟩, ⟨t2, rfl⟩⟩ := vals2 r2
    exact ⟨t, o, t1, t2, n, rfl, kg _ _ ho, hcl, hd⟩
  have hzi : its.length ≤ sizeLine := by rw [← rv.length]; exact hz
  refine KpS.sorted_of (SrtO.swo_lex fun u => pairAt H (backV u)) hc hzi (fun h2 g b hb kk => ?_) fun out hst hstb => ?_
  · refine SrtO.pairs_sortableO (s := { s with heap := g }) (by omega) (isp g fun c o e => (kk c o e).2) fun o e => ?_
    have e' : some o = some (seqObj "list" its.toArray 0) := e.symm.trans hb
    cases e'
    exact fun c => absurd (Value.type.inj c) (by decide)
  · have h3 : ∀ u ∈ out, ∃ a, u = Value.ref a := fun u hu => e2 u (hstb.perm.mem_iff.mp hu)
    obtain ⟨n, hn⟩ := sortedAll_at s.heap its out.toArray
    have hperm : (out.map backV).Perm xs := by rw [e1]; exact hstb.perm.map backV
    have hlen : (out.map backV).length ≤ sizeLine := by rw [hperm.length_eq]; exact hz
    refine ⟨.ref (s.heap.objs.size + 1), upd H _ (.lst (out.map backV)), I.laid (t' := s.toks) (fun b o e => sortedAll_old e) (Nat.le_succ _) ⟨hlen, out, n, vals_back h3, hn⟩, rfl, ?_⟩
    refine q _ ((out.map backV).map (pairAt H)) _ ?_ ?_ (map_paired fun x m => hx x (hperm.mem_iff.mp m)) (I.hok.fresh (Nat.le_succ _))
    · rw [← em]; exact hperm.map _
    · rw [List.map_map, List.pairwise_map]
      exact List.Pairwise.imp (fun {p q} z => by
        have := SrtO.lexB_no.mp z
        show (pairAt H (backV p)).1 ≤ (pairAt H (backV q)).1
        omega) hst
theorem cr_sortedLk : CallR X (.builtin "sorted") (rSortedLk X.K) := fun pins s σ H vs us Q I r h => by
  obtain ⟨a, xs, st, rfl, hs, hp, q⟩ := h
  obtain ⟨its, rv, hc, hz⟩ := out_of I hs
  obtain ⟨_, rfl, rfl⟩ := vals1 r
  obtain ⟨em, hx⟩ := paired_map (fun v p z => lkAt_of z) hp
  obtain ⟨e1, e2⟩ := refs_back rv fun x m => ⟨_, (hx x m).choose_spec.1⟩
  have isp : ∀ (g : Heap), (∀ b o, s.heap.get? b = some o → g.get? b = some o) → ∀ v ∈ its, KpS.IsLk g v (lkAt H (backV v)) := fun g kg v hv => by
    obtain ⟨t, rfl⟩ := e2 v hv
    obtain ⟨t', e, ht⟩ := hx (V.ref t) (by rw [e1]; exact List.mem_map.mpr ⟨_, hv, rfl⟩)
    cases e
    obtain ⟨_, its2, r2, o, ho, hcl, n, hd⟩ := I.hok _ _ ht
    obtain ⟨u1, u2, rfl, ⟨t1, rfl⟩, ⟨t2, rfl⟩⟩ := vals2 r2
    exact ⟨t, o, t1, t2, n, rfl, kg _ _ ho, hcl, hd⟩
  have hzi : its.length ≤ sizeLine := by rw [← rv.length]; exact hz
  refine KpS.sorted_of (KpS.swo_lk fun u => lkAt H (backV u)) hc hzi (fun h2 g b hb kk => ?_) fun out hst hstb => ?_
  · refine KpS.lk_sortable (s := { s with heap := g }) (by omega) (isp g fun c o e => (kk c o e).2) fun o e => ?_
    have e' : some o = some (seqObj "list" its.toArray 0) := e.symm.trans hb
    cases e'
    exact fun c => absurd (Value.type.inj c) (by decide)
  · have h3 : ∀ u ∈ out, ∃ a, u = Value.ref a := fun u hu => e2 u (hstb.perm.mem_iff.mp hu)
    obtain ⟨n, hn⟩ := sortedAll_at s.heap its out.toArray
    have hperm : (out.map backV).Perm xs := by rw [e1]; exact hstb.perm.map backV
    have hlen : (out.map backV).length ≤ sizeLine := by rw [hperm.length_eq]; exact hz
    refine ⟨.ref (s.heap.objs.size + 1), upd H _ (.lst (out.map backV)), I.laid (t' := s.toks) (fun b o e => sortedAll_old e) (Nat.le_succ _) ⟨hlen, out, n, vals_back h3, hn⟩, rfl, ?_⟩
    refine q _ ((out.map backV).map (lkAt H)) _ ?_ ?_ (map_paired fun x m => hx x (hperm.mem_iff.mp m)) (I.hok.fresh (Nat.le_succ _))
    · rw [← em]; exact hperm.map _
    · rw [List.map_map, List.pairwise_map]
      exact hst
/-! ### x in t, t a tuple of data; l.count(True) -/
def rInDT (K : PySem.W.Frag) : R2 := fun x y H Q => ∃ d ds, Dp K H x d ∧ Dp K H y (.tuple ds) ∧ SeqAt.shaped d = true ∧ SeqAt.shaped (.list ds) = true ∧ Q (.bl (ds.any fun z => PyData.eqv z d)) H
theorem op_inDT (hu : X.A.units + 65 < cLine) : OpR X (compareOp .In) (rInDT X.K) := fun pins s σ H x y v u Q I rx ry h => by
  obtain ⟨d, ds, hd, hds, sd, se, q⟩ := h
  obtain ⟨_, rx'⟩ := Dp.reads I d x v hd rx
  obtain ⟨_, ry'⟩ := Dp.reads I (.tuple ds) y u hds ry
  exact SeqAt.in_tuple_reads ry' rx' (SeqAt.canLay_of_shaped se) (SeqAt.canLay_of_shaped sd) (room_in_shaped sd hu) ⟨.bl _, H, I, rfl, q⟩
def isTrueV : Value → Bool
  | .bool b => b == true
  | _ => false
def rCntB (K : PySem.W.Frag) : V → List V → Hp → VK → Prop := fun x xs H Q => ∃ (p : Addr) (bs : List Bool), x = .ref p ∧ xs = [.bl true] ∧ SqL K H p (bs.map V.bl) ∧ Q (.int (bs.count true : Nat)) H
theorem bools_back : ∀ {bs : List Bool} {us : List Value}, Vals (bs.map V.bl) us → us = bs.map Value.bool
  | [], _, .nil => rfl
  | b :: bs, _, .cons r t => by
    rw [List.map_cons, ← bools_back t]
    exact congrArg (· :: _) r
theorem mt_countB : MtR X "list.count" (rCntB X.K) := fun pins s σ H x xs v us Q I rx rxs h => by
  obtain ⟨p, bs, rfl, rfl, hs, q⟩ := h
  cases rx
  obtain ⟨_, rfl, rfl⟩ := rxs.one
  obtain ⟨us, rv, ⟨⟨cls, dd, data, sl⟩, n, ho, hc, _, hd⟩, _⟩ := I.list hs
  simp only at hc hd
  subst hc hd
  have e := bools_back rv
  subst e
  refine call_meets PySem.F.slot_list_count ⟨_, ho, rfl⟩ PySem.F.entry_list_count (PySem.F.args_list_count_2 _ _) (SeqAt.list_countAt p (bs.map Value.bool).toArray n dd sl (.bool true) isTrueV) ⟨ho, fun y hy => ?_, ?_⟩
  · obtain ⟨b, _, rfl⟩ := List.mem_map.mp (show y ∈ bs.map Value.bool by simpa using hy)
    exact SeqAt.EqAt.bool_bool b true
  · have ec : ((bs.map Value.bool).toArray.toList).countP isTrueV = bs.count true := by
      show (bs.map Value.bool).countP isTrueV = bs.count true
      rw [List.countP_map]
      rfl
    refine ⟨.int (bs.count true : Nat), H, I.tok _, ⟨s.toks, ?_⟩, q⟩
    rw [ec]
end
end Kp

namespace Kp
open PySem PySem.Spec PyProof.Rows L2
def spJoined (K : PySem.W.Frag) : Sp := fun vs H Q _ => ∃ (a : Addr) (xs : List V) (s : Sty), vs = [.ref a] ∧ (SqL K H a xs ∨ SqT K H a xs) ∧ Paired (PairV H) xs s ∧ (∀ p ∈ s, 0 ≤ p.1 ∧ p.1 < p.2) ∧ s.length < 16777216 ∧
  ∀ H' u t, Same H H' → StV H' u t → Rs t → (∀ x, sil t x = sil s x) → t.length ≤ s.length → Q u H'
theorem set_last {α : Type} (l : List α) (a b : α) : (l ++ [a]).set l.length b = l ++ [b] := by
  rw [List.set_append_right _ _ (Nat.le_refl _), Nat.sub_self]
  rfl
theorem ixN_last {α : Type} (l : List α) (a : α) : ixN (l ++ [a]).length (-1) = some l.length := by
  unfold ixN
  rw [if_neg (by decide), List.length_append, List.length_singleton, if_pos (by omega)]
  congr 1
  omega
section
variable {P : Program} {w : World} {K : PySem.W.Frag} {mg : Str → Option Value} {base : Heap} {t1 t2 t3 t4 : Tok} {aW : Addr}
abbrev sJoined : Stmt := topS 17
theorem scJoined : FnScope ["stretches", "found", "begin", "end"] ["stretches"] (defScope sJoined) := ⟨rfl, rfl, rfl, by decide +kernel, rfl, by decide +kernel, by decide +kernel⟩
theorem ok_joined {f : Addr} {fd : FuncData} (F : Fun K "joined" "joined" sJoined f fd) (T : Txt K mg t1 t2 t3 t4 aW) : FnOk P w K mg base CX0 1 f fd ["stretches"] (spJoined K) := by
  refine F.ok scJoined (fun vs H Q E h => ?_) (fun cdv A outer s H vs Q E hr h => ?_)
  · obtain ⟨a, xs, s, rfl, _⟩ := h
    rfl
  · obtain ⟨a, xs, s, rfl, hs, hp, hok, hlen, q⟩ := h
    refine ⟨_, (pss_cons (ps_set (i := 1) scJoined.nd rfl (Or.inl rfl) (pe_lst pa_nil))
      (pss_cons (ps_for PassesOwn.never rfl (pi_list (pe_callB cr_sortedPA (by rfl) T.m_sorted b_sorted (pa_cons (pv 0) pa_nil))) (pg_tup rfl (pgs_cons (pg_name (i := 2) scJoined.nd rfl (Or.inl rfl)) (pgs_cons (pg_name (i := 3) scJoined.nd rfl (Or.inl rfl)) pgs_nil)))
        (pss_one (ps_if (PW.pt (pw_and (pt_cmpR (op_neD hr.units) (pv 1) (pe_lst pa_nil) (nomark _)) (pw_and1 (pt_cmpR op_le (pv 2) (pe_ix ix_tup (pe_ix ix_list (pv 1) (pe_un un_neg pe_int) (fun _ _ => rfl)) pe_int (fun _ _ => rfl)) (nomark _)))))
          (pss_one (ps_asg (pe_tup (pa_cons (pe_ix ix_tup (pe_ix ix_list (pv 1) (pe_un un_neg pe_int) (fun _ _ => rfl)) pe_int (fun _ _ => rfl)) (pa_cons (pe_callB (call_max2 rfl) (by rfl) T.m_max b_max (pa_cons (pv 3) (pa_cons (pe_ix ix_tup (pe_ix ix_list (pv 1) (pe_un un_neg pe_int) (fun _ _ => rfl)) pe_int (fun _ _ => rfl)) pa_nil))) pa_nil))) (pg_sub (pv 1) (pe_un un_neg pe_int) set_list)))
          (pss_one (ps_expr (pe_bm PySem.F.plainAttrs_list PySem.F.slot_list_append PySem.F.type_list_append mt_append (pv 1) (pa_cons (pe_tup (pa_cons (pv 2) (pa_cons (pv 3) pa_nil))) pa_nil)))))))
      (pss_one (ps_ret (pe_callTy call_tuple_of (by rfl) T.m_tuple b_tuple (pa_cons (pv 1) pa_nil)))))), ?_⟩
    -- found = []
    refine ⟨Nat.zero_le _, fun o no => ?_⟩
    have s0 : Same H (upd H o (.lst [])) := same_upd no
    have hs' : SqL K (upd H o (.lst [])) a xs ∨ SqT K (upd H o (.lst [])) a xs := by
      rcases hs with h | h
      · exact .inl (s0.seq h)
      · refine .inr ?_
        rcases h with (h | ⟨ob, h⟩) | h
        · exact .inl (.inl (s0 _ _ h))
        · exact .inl (.inr ⟨ob, s0 _ _ h⟩)
        · exact .inr h
    -- sorted(stretches)
    refine ⟨.ref a, rfl, a, xs, s, rfl, hs', pairs_same s0 hp, fun ys s' p perm srt hys np => ?_⟩
    have npo : o ≠ p := ne_of_none upd_same np
    have s1 : Same H (upd (upd H o (.lst [])) p (.lst ys)) := s0.trans (same_upd np)
    have ho1 : (upd (upd H o (.lst [])) p (.lst ys)) o = some (.lst []) := by rw [upd_ne npo, upd_same]
    have hys1 : Paired (PairV (upd (upd H o (.lst [])) p (.lst ys))) ys s' := pairs_same (same_upd np) hys
    have hok' : ∀ p ∈ s', 0 ≤ p.1 ∧ p.1 < p.2 := fun z hz => hok z (perm.mem_iff.mp hz)
    have hln : ys.length = s'.length := Paired.len hys
    generalize hH1 : upd (upd H o (.lst [])) p (.lst ys) = H1 at *
    have hp1 : H1 p = some (.lst ys) := by rw [← hH1, upd_same]
    refine ⟨p, rfl, ⟨ys, SqL.of hp1⟩, for_list (K := K) (a := p) (xs := ys) (fun i σ H' => ∃ fs y2 y3, σ = [some (.ref a), some (.ref o), y2, y3] ∧ Same H H' ∧ H' p = some (.lst ys) ∧ Paired (PairV H') ys s' ∧ H' o = some (.lst fs) ∧ Paired (PairV H') fs (joinF (s'.take i)))
      ⟨[], none, none, rfl, s1, hp1, hys1, ho1, .nil⟩ (fun i σ H' _ h => ?_) (fun i x σ H' hx h => ?_) (fun σ H' h => ?_)⟩
    · obtain ⟨_, _, _, _, _, h, _⟩ := h
      exact SqL.of h
    · obtain ⟨fs, y2, y3, rfl, sm, hpy, hyy, hfo, hfs⟩ := h
      obtain ⟨r, hsr, t, rfl, htr⟩ := Paired.get hyy hx
      have hrm : r ∈ s' := List.mem_of_getElem? hsr
      have et : joinF (s'.take (i + 1)) = jstep (joinF (s'.take i)) r := by
        rw [take_snoc hsr]
        exact joinF_snoc _ _
      have hfl : fs.length < 16777216 := by
        have a1 := Paired.len hfs
        have a2 := joinF_len (s'.take i) []
        have a3 : (joinF (s'.take i)).length = (List.foldl jstep [] (s'.take i)).length := rfl
        have a4 := perm.length_eq
        have a5 : i < ys.length := (List.getElem?_eq_some_iff.mp hx).1
        rw [List.length_take, List.length_nil] at a2
        omega
      refine ⟨t, _, rfl, SqT.of htr, rfl, _, _, rfl, _, _, rfl, rfl, ?_⟩
      -- found != []
      refine ⟨.ref o, rfl, Nat.zero_le _, fun e ne => ?_⟩
      have s2 : Same H' (upd H' e (.lst [])) := same_upd ne
      have hfo2 : (upd H' e (.lst [])) o = some (.lst fs) := s2 _ _ hfo
      have hfs2 := pairs_same s2 hfs
      refine ⟨dL (joinF (s'.take i)), dL [], dp_list ⟨o, fs, rfl, hfo2, hfs2⟩, dp_list ⟨e, [], rfl, upd_same, .nil⟩, dL_shaped _, dL_shaped _, _, rfl, ?_⟩
      rw [dL_eqv]
      have hyy2 := pairs_same s2 hyy
      have hpy2 : (upd H' e (.lst [])) p = some (.lst ys) := s2 _ _ hpy
      have sm2 := sm.trans s2
      have htr2 := s2 _ _ htr
      generalize upd H' e (.lst []) = H2 at *
      -- found.append((begin, end)): the way of both of its calls
      have app : joinF (s'.take (i + 1)) = joinF (s'.take i) ++ [r] → ∀ d, H2 d = none → ∃ (l : Addr) (zs : List V) (y : V), V.ref o = .ref l ∧ [V.ref d] = [y] ∧ (upd H2 d (.tup [.int r.1, .int r.2])) l = some (.lst zs) ∧ zs.length < sizeLine ∧
          ∃ fs y2 y3, ([some (.ref a), some (.ref o), some (.int r.1), some (.int r.2)] : L2.St) = [some (.ref a), some (.ref o), y2, y3] ∧ Same H (upd (upd H2 d (.tup [.int r.1, .int r.2])) l (.lst (zs ++ [y]))) ∧ (upd (upd H2 d (.tup [.int r.1, .int r.2])) l (.lst (zs ++ [y]))) p = some (.lst ys) ∧
            Paired (PairV (upd (upd H2 d (.tup [.int r.1, .int r.2])) l (.lst (zs ++ [y])))) ys s' ∧ (upd (upd H2 d (.tup [.int r.1, .int r.2])) l (.lst (zs ++ [y]))) o = some (.lst fs) ∧ Paired (PairV (upd (upd H2 d (.tup [.int r.1, .int r.2])) l (.lst (zs ++ [y])))) fs (joinF (s'.take (i + 1))) := fun ej d nd => by
        have s3 : Same H2 (upd H2 d (.tup [.int r.1, .int r.2])) := same_upd nd
        have hd : PairV (upd H2 d (.tup [.int r.1, .int r.2])) (.ref d) r := ⟨d, rfl, upd_same⟩
        have hfo3 := s3 _ _ hfo2
        refine ⟨o, fs, .ref d, rfl, rfl, hfo3, smallL _ hfl, fs ++ [.ref d], _, _, rfl, same_over (sm2.trans s3) no, ?_, pairs_over hfo3 (pairs_same s3 hyy2), upd_same, ?_⟩
        · rw [upd_ne npo.symm]
          exact s3 _ _ hpy2
        · rw [ej]
          exact pair_snoc (pairs_over hfo3 (pairs_same s3 hfs2)) (PairV.over hfo3 hd)
      rcases snoc_cases (joinF (s'.take i)) with c | ⟨m, z, c⟩
      · -- found is empty
        rw [c, decide_eq_true (rfl : ([] : Sty) = [])]
        refine iteF (iteF ?_)
        refine ⟨.ref o, rfl, .inl ⟨rfl, _, SqL.of hfo2⟩, .int r.1, rfl, .int r.2, rfl, two _ _, fun d nd => ?_⟩
        refine app (by rw [et, c]; rfl) d nd
      · rw [c, decide_eq_false (by simp)]
        rw [c] at hfs2
        obtain ⟨l', u, rfl, hl', u', rfl, hu⟩ := Paired.snoc_inv hfs2
        refine iteT ?_
        refine ⟨.int r.1, rfl, .ref o, rfl, 1, rfl, o, _, _, _, rfl, rfl, SqL.of hfo2, atI_last _ _, u', _, _, .int z.2, rfl, rfl, SqT.of hu, atI_nat (j := 1) rfl, r.1, z.2, rfl, rfl, _, rfl, ite2 (fun c2 => ?_) (fun c2 => ?_)⟩
        · -- found[-1] = (found[-1][0], max(end, found[-1][1]))
          have c2' : r.1 ≤ z.2 := of_decide_eq_true c2
          refine ⟨.ref o, rfl, 1, rfl, o, _, _, _, rfl, rfl, SqL.of hfo2, atI_last _ _, u', _, _, .int z.1, rfl, rfl, SqT.of hu, atI_nat (j := 0) rfl, ?_⟩
          refine ⟨.int r.2, rfl, .ref o, rfl, 1, rfl, o, _, _, _, rfl, rfl, SqL.of hfo2, atI_last _ _, u', _, _, .int z.2, rfl, rfl, SqT.of hu, atI_nat (j := 1) rfl, r.2, z.2, rfl, two _ _, fun d nd => ?_⟩
          have s3 : Same H2 (upd H2 d (.tup [.int z.1, .int (mx r.2 z.2)])) := same_upd nd
          have hd : PairV (upd H2 d (.tup [.int z.1, .int (mx r.2 z.2)])) (.ref d) (z.1, mx r.2 z.2) := ⟨d, rfl, upd_same⟩
          have hfo3 := s3 _ _ hfo2
          refine ⟨.ref o, rfl, 1, rfl, o, _, _, _, rfl, rfl, hfo3, ixN_last _ _, ?_⟩
          rw [set_last]
          refine ⟨_, _, _, rfl, same_over (sm2.trans s3) no, ?_, pairs_over hfo3 (pairs_same s3 hyy2), upd_same, ?_⟩
          · rw [upd_ne npo.symm]
            exact s3 _ _ hpy2
          · rw [et, c, jstep_snoc, if_pos c2']
            exact pair_snoc (pairs_over hfo3 (pairs_same s3 hl')) (PairV.over hfo3 hd)
        · have c2' : ¬ r.1 ≤ z.2 := fun y => c2 (decide_eq_true y)
          refine ⟨.ref o, rfl, .inl ⟨rfl, _, SqL.of hfo2⟩, .int r.1, rfl, .int r.2, rfl, two _ _, fun d nd => ?_⟩
          refine app (by rw [et, c, jstep_snoc, if_neg c2']) d nd
    · obtain ⟨fs, y2, y3, rfl, sm, hpy, hyy, hfo, hfs⟩ := h
      rw [hln, List.take_length] at hfs
      obtain ⟨j1, j2⟩ := joinF_ok hok' srt
      refine ⟨.ref o, rfl, o, fs, rfl, .inl ⟨SqL.of hfo, fun l nl => ?_⟩⟩
      have s3 : Same H' (upd H' l (.tup fs)) := same_upd nl
      refine q _ (.ref l) (joinF s') (sm.trans s3) ⟨l, fs, rfl, upd_same, pairs_same s3 hfs⟩ j1 (fun x => (j2 x).trans (sil_perm perm x)) ?_
      have a2 := joinF_len s' []
      rw [List.length_nil, Nat.zero_add, perm.length_eq] at a2
      exact a2
end
end Kp

namespace Kp
open PySem PySem.Spec PyProof.Rows L2
def spEither : Sp := fun vs H Q _ => ∃ (v u : V) (s t : Sty), vs = [v, u] ∧ StV H v s ∧ StV H u t ∧ Rs s ∧ Rs t ∧ s.length + t.length ≤ 200 ∧
  ∀ H' y r, Same H H' → StV H' y r → Rs r → (∀ x, sil r x = (sil s x || sil t x)) → Q y H'
def spBoth : Sp := fun vs H Q _ => ∃ (v u : V) (s t : Sty), vs = [v, u] ∧ StV H v s ∧ StV H u t ∧ Rs s ∧ Rs t ∧ s.length * t.length ≤ 200 ∧
  ∀ H' y r, Same H H' → StV H' y r → Rs r → (∀ x, sil r x = (sil s x && sil t x)) → Q y H'
def spOther : Sp := fun vs H Q _ => ∃ (v : V) (s : Sty) (n : Int), vs = [v, .int n] ∧ StV H v s ∧ s.length ≤ 100 ∧ ∀ H' y, Same H H' → StV H' y (otherF s n) → Q y H'
def spLater : Sp := fun vs H Q _ => ∃ (v : V) (s : Sty) (k : Int), vs = [v, .int k] ∧ StV H v s ∧ s.length ≤ 1000 ∧ (∀ p ∈ s, 0 ≤ p.1 + k ∧ 0 < p.2 + k ∧ p.2 + k ≤ 1000000) ∧
  ∀ H' y, Same H H' → StV H' y (shift s k) → Q y H'
section
variable {K : PySem.W.Frag} {σ : L2.St} {H : Hp} {Q : VK} {te : TE} {tt : TT} {vs : List Nat} {β : Type} {R : Hp → V → β → Prop}
/-- [e for x, y in l if c], l a list of pairs, c true of each -/
theorem lc_pairsL {tl : TE} {a : Addr} {xs : List V} {s : Sty} {i j : Nat} (f : Int × Int → β) (S : Stays R) (hv : ∀ Q' : VK, Q' (.ref a) H → tl σ H Q') (ha : H a = some (.lst xs)) (hp : Paired (PairV H) xs s) (hlen : s.length < 16777216)
    (ht : ∀ p ∈ s, ∀ (H' : Hp) (Q' : Bool → Hp → Prop), Same H H' → Q' true H' → tt (((wipe σ vs).set i (some (.int p.1))).set j (some (.int p.2))) H' Q')
    (he : ∀ p ∈ s, ∀ (H' : Hp) (Q' : VK), Same H H' → (∀ v H'', Same H' H'' → R H'' v (f p) → Q' v H'') → te (((wipe σ vs).set i (some (.int p.1))).set j (some (.int p.2))) H' Q')
    (hw : ∀ x y, wipe (((wipe σ vs).set i x).set j y) vs = wipe σ vs)
    (hd : ∀ (D : Addr) (H' : Hp) (ys : List V), Same H H' → H D = none → H' D = some (.lst ys) → Paired (R H') ys (s.map f) → Q (.ref D) H') :
    tLc (iList K tl) (gTup K 2 (gCons (gName i) (gCons (gName j) gNil))) tt te vs σ H Q := by
  refine hv _ ⟨a, rfl, ⟨xs, SqL.of ha⟩, fun D hD => ?_⟩
  have hl : xs.length = s.length := Paired.len hp
  refine lc_list (K := K) (a := a) (xs := xs) (fun n H' => Same H H' ∧ ∃ ys, H' D = some (.lst ys) ∧ Paired (R H') ys ((s.take n).map f)) ⟨same_upd hD, [], upd_same, .nil⟩ (fun n H' _ h => SqL.of (h.1 _ _ ha)) (fun n x H' hx h => ?_) (fun H' h => ?_)
  · obtain ⟨sm, ys, hy, hR⟩ := h
    obtain ⟨p, hsp, t, rfl, htp⟩ := Paired.get hp hx
    have hm : p ∈ s := List.mem_of_getElem? hsp
    refine ⟨t, _, rfl, SqT.of (sm _ _ htp), rfl, _, _, rfl, _, _, rfl, rfl, hw _ _, ht p hm H' _ sm ?_⟩
    refine iteT (he p hm H' _ sm fun v H'' s2 hv2 => ?_)
    have hy2 := s2 _ _ hy
    have hln : ys.length < 16777216 := by
      rw [Paired.len hR, List.length_map, List.length_take]
      omega
    refine ⟨ys, hy2, smallL _ hln, same_over (sm.trans s2) hD, ys ++ [v], upd_same, ?_⟩
    rw [take_snoc hsp, List.map_append]
    exact pair_snoc (Paired.imp (fun _ _ z => S.over hy2 (S.same s2 z)) hR) (S.over hy2 hv2)
  · obtain ⟨sm, ys, hy, hR⟩ := h
    rw [hl, List.take_length] at hR
    exact hd D H' ys sm hD hy hR
end
section
variable {P : Program} {w : World} {K : PySem.W.Frag} {mg : Str → Option Value} {base : Heap} {t1 t2 t3 t4 : Tok} {aW : Addr}
abbrev sEither : Stmt := topS 26
theorem scEither : FnScope ["one", "other", "found"] ["one", "other"] (defScope sEither) := ⟨rfl, rfl, rfl, by decide +kernel, rfl, by decide +kernel, by decide +kernel⟩
theorem ok_either {f : Addr} {fd : FuncData} (F : Fun K "either" "either" sEither f fd) (DJoined : Def P w K mg base 1 "joined" ["stretches"] (spJoined K)) (DCheckStretches : Def P w K mg base 1 "check_stretches" ["story"] (spCheck K)) : FnOk P w K mg base CX0 2 f fd ["one", "other"] spEither := by
  refine F.ok scEither (fun vs H Q E h => ?_) (fun cdv A outer s H vs Q E hr h => ?_)
  · obtain ⟨v, u, s, t, rfl, _⟩ := h
    rfl
  · obtain ⟨v, u, s, t, rfl, ⟨a, xs, rfl, ha, hp⟩, ⟨b, ys, rfl, hb, hp2⟩, hs, ht, hlen, q⟩ := h
    refine ⟨_, (pss_cons (ps_set (i := 2) scEither.nd rfl (Or.inl rfl) (pe_callD DJoined hr (pa_cons (pe_op op_catA (pv 0) (pv 1)) pa_nil)))
      (pss_cons (ps_expr (pe_callD DCheckStretches hr (pa_cons (pv 2) pa_nil)))
      (pss_one (ps_ret (pv 2))))), ?_⟩
    have l1 := Paired.len hp
    have l2 := Paired.len hp2
    have go : ∀ (c : Addr) (H2 : Hp), Same H H2 → SqT K H2 c (xs ++ ys) → spJoined K [V.ref c] H2 (fun x H3 => spCheck K [x] H3 (fun _ H4 => Q x H4) E0) E0 := fun c H2 sm hc => by
      refine ⟨c, xs ++ ys, s ++ t, rfl, .inr hc, Paired.app (pairs_same sm hp) (pairs_same sm hp2), fun p hm => ?_, by rw [List.length_append]; omega, fun H3 y r sm2 hy hr2 hsil hl => ?_⟩
      · rcases List.mem_append.mp hm with m | m
        · exact hs.ok p m
        · exact ht.ok p m
      · rw [List.length_append] at hl
        exact check_st hy (by omega) (q H3 y r (sm.trans sm2) hy hr2 fun x => (hsil x).trans (sil_append s t x))
    refine ⟨.ref a, rfl, .ref b, rfl, a, b, xs, ys, rfl, rfl, SqT.of ha, SqT.of hb, small _ (by omega), fun e => ?_, fun e1 e2 => ?_, fun e1 e2 p np => ?_⟩
    · obtain ⟨c', xs', s', e', k1, k2, k3, k4, k5⟩ := go b H (Same.refl _) (by rw [e]; exact SqT.of hb)
      refine ⟨c', xs', s', e', k1, k2, k3, k4, fun H3 y r h1 h2 h3 h4 h5 => ?_⟩
      exact ⟨y, rfl, by obtain ⟨y', r', e, z1, z2, z3⟩ := k5 H3 y r h1 h2 h3 h4 h5; exact ⟨y', r', e, z1, z2, y, rfl, z3⟩⟩
    · obtain ⟨c', xs', s', e', k1, k2, k3, k4, k5⟩ := go a H (Same.refl _) (by rw [e2, List.append_nil]; exact SqT.of ha)
      refine ⟨c', xs', s', e', k1, k2, k3, k4, fun H3 y r h1 h2 h3 h4 h5 => ?_⟩
      exact ⟨y, rfl, by obtain ⟨y', r', e, z1, z2, z3⟩ := k5 H3 y r h1 h2 h3 h4 h5; exact ⟨y', r', e, z1, z2, y, rfl, z3⟩⟩
    · obtain ⟨c', xs', s', e', k1, k2, k3, k4, k5⟩ := go p _ (same_upd np) (SqT.of upd_same)
      refine ⟨c', xs', s', e', k1, k2, k3, k4, fun H3 y r h1 h2 h3 h4 h5 => ?_⟩
      exact ⟨y, rfl, by obtain ⟨y', r', e, z1, z2, z3⟩ := k5 H3 y r h1 h2 h3 h4 h5; exact ⟨y', r', e, z1, z2, y, rfl, z3⟩⟩
abbrev sBoth : Stmt := topS 27
theorem scBoth : FnScope ["one", "other", "found", "begin", "end", "first", "last"] ["one", "other"] (defScope sBoth) := ⟨rfl, rfl, rfl, by decide +kernel, rfl, by decide +kernel, by decide +kernel⟩
theorem ok_both {f : Addr} {fd : FuncData} (F : Fun K "both" "both" sBoth f fd) (T : Txt K mg t1 t2 t3 t4 aW) (DJoined : Def P w K mg base 1 "joined" ["stretches"] (spJoined K)) (DCheckStretches : Def P w K mg base 1 "check_stretches" ["story"] (spCheck K)) : FnOk P w K mg base CX0 2 f fd ["one", "other"] spBoth := by
  refine F.ok scBoth (fun vs H Q E h => ?_) (fun cdv A outer s H vs Q E hr h => ?_)
  · obtain ⟨v, u, s, t, rfl, _⟩ := h
    rfl
  · obtain ⟨v, u, s, t, rfl, ⟨a, xs, rfl, ha, hp⟩, ⟨b, ys, rfl, hb, hp2⟩, hs, ht, hlen, q⟩ := h
    refine ⟨_, (pss_cons (ps_set (i := 2) scBoth.nd rfl (Or.inl rfl) (pe_lst pa_nil))
      (pss_cons (ps_for PassesOwn.never rfl (pi_tup (pv 0)) (pg_tup rfl (pgs_cons (pg_name (i := 3) scBoth.nd rfl (Or.inl rfl)) (pgs_cons (pg_name (i := 4) scBoth.nd rfl (Or.inl rfl)) pgs_nil)))
        (pss_one (ps_for PassesOwn.never rfl (pi_tup (pv 1)) (pg_tup rfl (pgs_cons (pg_name (i := 5) scBoth.nd rfl (Or.inl rfl)) (pgs_cons (pg_name (i := 6) scBoth.nd rfl (Or.inl rfl)) pgs_nil)))
          (pss_one (ps_if (pt_cmpR op_lt (pe_callB (call_max2 rfl) (by rfl) T.m_max b_max (pa_cons (pv 3) (pa_cons (pv 5) pa_nil))) (pe_callB (call_min2 rfl) (by rfl) T.m_min b_min (pa_cons (pv 4) (pa_cons (pv 6) pa_nil))) (nomark _))
            (pss_one (ps_expr (pe_bm PySem.F.plainAttrs_list PySem.F.slot_list_append PySem.F.type_list_append mt_append (pv 2) (pa_cons (pe_tup (pa_cons (pe_callB (call_max2 rfl) (by rfl) T.m_max b_max (pa_cons (pv 3) (pa_cons (pv 5) pa_nil))) (pa_cons (pe_callB (call_min2 rfl) (by rfl) T.m_min b_min (pa_cons (pv 4) (pa_cons (pv 6) pa_nil))) pa_nil))) pa_nil))))
            pss_nil)))))
      (pss_cons (ps_set (i := 2) scBoth.nd rfl (Or.inl rfl) (pe_callD DJoined hr (pa_cons (pv 2) pa_nil)))
      (pss_cons (ps_expr (pe_callD DCheckStretches hr (pa_cons (pv 2) pa_nil)))
      (pss_one (ps_ret (pv 2))))))), ?_⟩
    have l1 := Paired.len hp
    have l2 := Paired.len hp2
    have bl : ∀ i j, (bothL (s.take i) t).length + (bothR (s.getD i (0, 0)) (t.take j)).length ≤ 16777215 ∨ s.length ≤ i := fun i j => by
      by_cases c : s.length ≤ i
      · exact .inr c
      · refine .inl ?_
        have a1 := bothL_len (s.take i) t
        have a2 := bothR_len (s.getD i (0, 0)) (t.take j)
        have a3 : (s.take i).length * t.length + t.length ≤ s.length * t.length := by
          rw [List.length_take, Nat.min_eq_left (by omega), ← Nat.succ_mul]
          exact Nat.mul_le_mul_right _ (by omega)
        rw [List.length_take] at a2
        omega
    refine ⟨Nat.zero_le _, fun o no => ?_⟩
    refine ⟨.ref a, rfl, a, rfl, ⟨xs, SqT.of ((same_upd no) _ _ ha)⟩, for_tup (K := K) (a := a) (xs := xs) (fun i σ H' => ∃ fs y3 y4 y5 y6, σ = [some (.ref a), some (.ref b), some (.ref o), y3, y4, y5, y6] ∧ Same H H' ∧ H' o = some (.lst fs) ∧ Paired (PairV H') fs (bothL (s.take i) t))
      ⟨[], none, none, none, none, rfl, same_upd no, upd_same, .nil⟩ (fun i σ H' _ h => ?_) (fun i x σ H' hx h => ?_) (fun σ H' h => ?_)⟩
    · obtain ⟨_, _, _, _, _, _, sm, _⟩ := h
      exact SqT.of (sm _ _ ha)
    · obtain ⟨fs, y3, y4, y5, y6, rfl, sm, hfo, hfs⟩ := h
      obtain ⟨p, hsp, tp, rfl, htp⟩ := Paired.get hp hx
      refine ⟨tp, _, rfl, SqT.of (sm _ _ htp), rfl, _, _, rfl, _, _, rfl, rfl, ?_⟩
      have hil : i < s.length := (List.getElem?_eq_some_iff.mp hsp).1
      have hgd : s.getD i (0, 0) = p := by
        rw [List.getD_eq_getElem?_getD, hsp]
        rfl
      refine ⟨.ref b, rfl, b, rfl, ⟨ys, SqT.of (sm _ _ hb)⟩, for_tup (K := K) (a := b) (xs := ys) (fun j σ H' => ∃ fs y5 y6, σ = [some (.ref a), some (.ref b), some (.ref o), some (.int p.1), some (.int p.2), y5, y6] ∧ Same H H' ∧ H' o = some (.lst fs) ∧ Paired (PairV H') fs (bothL (s.take i) t ++ bothR p (t.take j)))
        ⟨fs, y5, y6, rfl, sm, hfo, by rw [show bothR p (t.take 0) = [] from rfl, List.append_nil]; exact hfs⟩ (fun j σ H' _ h => ?_) (fun j x σ H' hx2 h => ?_) (fun σ H' h => ?_)⟩
      · obtain ⟨_, _, _, _, sm, _⟩ := h
        exact SqT.of (sm _ _ hb)
      · obtain ⟨fs, y5, y6, rfl, sm, hfo, hfs⟩ := h
        obtain ⟨r, htr, tr, rfl, htrr⟩ := Paired.get hp2 hx2
        refine ⟨tr, _, rfl, SqT.of (sm _ _ htrr), rfl, _, _, rfl, _, _, rfl, rfl, ?_⟩
        have er := bothR_take (p := p) htr
        have hfl : fs.length < 16777216 := by
          have a1 := Paired.len hfs
          rw [List.length_append] at a1
          rcases bl i j with c | c
          · rw [hgd] at c
            omega
          · omega
        refine ⟨.int p.1, rfl, .int r.1, rfl, p.1, r.1, rfl, .int p.2, rfl, .int r.2, rfl, p.2, r.2, rfl, mx p.1 r.1, mn p.2 r.2, rfl, rfl, _, rfl, ite2 (fun c => ?_) (fun c => ?_)⟩
        · have c' : mx p.1 r.1 < mn p.2 r.2 := of_decide_eq_true c
          refine ⟨.ref o, rfl, .inl ⟨rfl, _, SqL.of hfo⟩, .int p.1, rfl, .int r.1, rfl, p.1, r.1, rfl, .int p.2, rfl, .int r.2, rfl, p.2, r.2, rfl, two _ _, fun d nd => ?_⟩
          have s3 : Same H' (upd H' d (.tup [.int (mx p.1 r.1), .int (mn p.2 r.2)])) := same_upd nd
          have hd : PairV (upd H' d (.tup [.int (mx p.1 r.1), .int (mn p.2 r.2)])) (.ref d) (mx p.1 r.1, mn p.2 r.2) := ⟨d, rfl, upd_same⟩
          have hfo3 := s3 _ _ hfo
          refine ⟨o, fs, .ref d, rfl, rfl, hfo3, smallL _ hfl, fs ++ [.ref d], _, _, rfl, same_over (sm.trans s3) no, upd_same, ?_⟩
          rw [er, show bothP p r = [(mx p.1 r.1, mn p.2 r.2)] from if_pos c', ← List.append_assoc]
          exact pair_snoc (pairs_over hfo3 (pairs_same s3 hfs)) (PairV.over hfo3 hd)
        · have c' : ¬ mx p.1 r.1 < mn p.2 r.2 := fun z => c (decide_eq_true z)
          refine ⟨fs, _, _, rfl, sm, hfo, ?_⟩
          rw [er, show bothP p r = [] from if_neg c', List.append_nil]
          exact hfs
      · obtain ⟨fs, y5, y6, rfl, sm, hfo, hfs⟩ := h
        refine ⟨fs, _, _, _, _, rfl, sm, hfo, ?_⟩
        rw [bothL_take hsp]
        rw [l2, List.take_length] at hfs
        exact hfs
    · obtain ⟨fs, y3, y4, y5, y6, rfl, sm, hfo, hfs⟩ := h
      rw [l1, List.take_length] at hfs
      have bln := bothL_len s t
      refine ⟨.ref o, rfl, o, fs, bothL s t, rfl, .inl (SqL.of hfo), hfs, bothL_ok fun p m => (hs.ok p m).1, by omega, fun H3 y r sm2 hy hr2 hsil hl => ?_⟩
      have fin := q H3 y r (sm.trans sm2) hy hr2 fun x => (hsil x).trans (sil_bothL s t x)
      obtain ⟨c, zs, rfl, hc, hz⟩ := hy
      exact ⟨.ref c, rfl, c, zs, rfl, .inr (SqT.of hc), by rw [Paired.len hz]; omega, .ref c, rfl, fin⟩
abbrev sOtherWay : Stmt := topS 28
theorem scOtherWay : FnScope ["story", "beat", "found", "here", "begin", "end"] ["story", "beat"] (defScope sOtherWay) := ⟨rfl, rfl, rfl, by decide +kernel, rfl, by decide +kernel, by decide +kernel⟩
theorem ok_other {f : Addr} {fd : FuncData} (F : Fun K "other_way" "other_way" sOtherWay f fd) (T : Txt K mg t1 t2 t3 t4 aW) (DCheckStretches : Def P w K mg base 1 "check_stretches" ["story"] (spCheck K)) : FnOk P w K mg base CX0 2 f fd ["story", "beat"] spOther := by
  refine F.ok scOtherWay (fun vs H Q E h => ?_) (fun cdv A outer s H vs Q E hr h => ?_)
  · obtain ⟨v, s, n, rfl, _⟩ := h
    rfl
  · obtain ⟨v, s, n, rfl, ⟨a, xs, rfl, ha, hp⟩, hlen, q⟩ := h
    refine ⟨_, (pss_cons (ps_set (i := 2) scOtherWay.nd rfl (Or.inl rfl) (pe_lst pa_nil))
      (pss_cons (ps_set (i := 3) scOtherWay.nd rfl (Or.inl rfl) pe_int)
      (pss_cons (ps_for PassesOwn.never rfl (pi_tup (pv 0)) (pg_tup rfl (pgs_cons (pg_name (i := 4) scOtherWay.nd rfl (Or.inl rfl)) (pgs_cons (pg_name (i := 5) scOtherWay.nd rfl (Or.inl rfl)) pgs_nil)))
        (pss_cons (ps_if (pt_cmpR op_lt (pv 3) (pe_callB (call_min2 rfl) (by rfl) T.m_min b_min (pa_cons (pv 4) (pa_cons (pv 1) pa_nil))) (nomark _))
          (pss_one (ps_expr (pe_bm PySem.F.plainAttrs_list PySem.F.slot_list_append PySem.F.type_list_append mt_append (pv 2) (pa_cons (pe_tup (pa_cons (pv 3) (pa_cons (pe_callB (call_min2 rfl) (by rfl) T.m_min b_min (pa_cons (pv 4) (pa_cons (pv 1) pa_nil))) pa_nil))) pa_nil))))
          pss_nil)
        (pss_one (ps_set (i := 3) scOtherWay.nd rfl (Or.inl rfl) (pv 5)))))
      (pss_cons (ps_if (pt_cmpR op_lt (pv 3) (pv 1) (nomark _))
        (pss_one (ps_expr (pe_bm PySem.F.plainAttrs_list PySem.F.slot_list_append PySem.F.type_list_append mt_append (pv 2) (pa_cons (pe_tup (pa_cons (pv 3) (pa_cons (pv 1) pa_nil))) pa_nil))))
        pss_nil)
      (pss_cons (ps_expr (pe_callD DCheckStretches hr (pa_cons (pv 2) pa_nil)))
      (pss_one (ps_ret (pe_callTy call_tuple_of (by rfl) T.m_tuple b_tuple (pa_cons (pv 2) pa_nil))))))))), ?_⟩
    have l1 := Paired.len hp
    refine ⟨Nat.zero_le _, fun o no => ?_⟩
    refine ⟨.ref a, rfl, a, rfl, ⟨xs, SqT.of ((same_upd no) _ _ ha)⟩, for_tup (K := K) (a := a) (xs := xs) (fun i σ H' => ∃ fs y4 y5, σ = [some (.ref a), some (.int n), some (.ref o), some (.int ((s.take i).foldl (owStep n) ([], 0)).2), y4, y5] ∧ Same H H' ∧ H' o = some (.lst fs) ∧ Paired (PairV H') fs ((s.take i).foldl (owStep n) ([], 0)).1)
      ⟨[], none, none, rfl, same_upd no, upd_same, .nil⟩ (fun i σ H' _ h => ?_) (fun i x σ H' hx h => ?_) (fun σ H' h => ?_)⟩
    · obtain ⟨_, _, _, _, sm, _⟩ := h
      exact SqT.of (sm _ _ ha)
    · obtain ⟨fs, y4, y5, rfl, sm, hfo, hfs⟩ := h
      obtain ⟨p, hsp, tp, rfl, htp⟩ := Paired.get hp hx
      refine ⟨tp, _, rfl, SqT.of (sm _ _ htp), rfl, _, _, rfl, _, _, rfl, rfl, ?_⟩
      have et : (s.take (i + 1)).foldl (owStep n) ([], 0) = owStep n ((s.take i).foldl (owStep n) ([], 0)) p := by
        rw [take_snoc hsp, List.foldl_append]
        rfl
      have hfl : fs.length < 16777216 := by
        have a1 := Paired.len hfs
        have a2 := other_len n (s.take i) ([], 0)
        rw [List.length_take] at a2
        have a3 : (([], 0) : Sty × Int).1.length = 0 := rfl
        omega
      rw [et]
      generalize (s.take i).foldl (owStep n) ([], 0) = st at *
      refine ⟨.int st.2, rfl, .int p.1, rfl, .int n, rfl, p.1, n, rfl, st.2, mn p.1 n, rfl, rfl, _, rfl, ite2 (fun c => ?_) (fun c => ?_)⟩
      · have c' : st.2 < mn p.1 n := of_decide_eq_true c
        refine ⟨.ref o, rfl, .inl ⟨rfl, _, SqL.of hfo⟩, .int st.2, rfl, .int p.1, rfl, .int n, rfl, p.1, n, rfl, two _ _, fun d nd => ?_⟩
        have s3 : Same H' (upd H' d (.tup [.int st.2, .int (mn p.1 n)])) := same_upd nd
        have hd : PairV (upd H' d (.tup [.int st.2, .int (mn p.1 n)])) (.ref d) (st.2, mn p.1 n) := ⟨d, rfl, upd_same⟩
        have hfo3 := s3 _ _ hfo
        refine ⟨o, fs, .ref d, rfl, rfl, hfo3, smallL _ hfl, .int p.2, rfl, fs ++ [.ref d], _, _, rfl, same_over (sm.trans s3) no, upd_same, ?_⟩
        unfold owStep
        show Paired _ _ (if st.2 < mn p.1 n then st.1 ++ [(st.2, mn p.1 n)] else st.1)
        rw [if_pos c']
        exact pair_snoc (pairs_over hfo3 (pairs_same s3 hfs)) (PairV.over hfo3 hd)
      · have c' : ¬ st.2 < mn p.1 n := fun z => c (decide_eq_true z)
        refine ⟨.int p.2, rfl, fs, _, _, rfl, sm, hfo, ?_⟩
        unfold owStep
        show Paired _ _ (if st.2 < mn p.1 n then st.1 ++ [(st.2, mn p.1 n)] else st.1)
        rw [if_neg c']
        exact hfs
    · obtain ⟨fs, y4, y5, rfl, sm, hfo, hfs⟩ := h
      rw [l1, List.take_length] at hfs ⊢
      have a2 := other_len n s ([], 0)
      have a3 : (([], 0) : Sty × Int).1.length = 0 := rfl
      have eo : otherF s n = owEnd n (s.foldl (owStep n) ([], 0)) := rfl
      rw [eo] at q
      generalize s.foldl (owStep n) ([], 0) = st at *
      have a1 := Paired.len hfs
      have fin : ∀ (H2 : Hp) (gs : List V), Same H H2 → H2 o = some (.lst gs) → Paired (PairV H2) gs (owEnd n st) → gs.length ≤ 200 → spCheck K [V.ref o] H2 (fun _ H3 => ∃ v, ([some (.ref a), some (.int n), some (.ref o), some (.int st.2), y4, y5] : L2.St)[2]? = some (some v) ∧ ∃ (p : Addr) (ys : List V), [v] = [V.ref p] ∧ ((SqL K H3 p ys ∧ ∀ l, H3 l = none → Q (.ref l) (upd H3 l (.tup ys))) ∨ (SqT K H3 p ys ∧ Q (.ref p) H3))) E0 := fun H2 gs sm2 ho2 hg hl => by
        refine ⟨o, gs, rfl, .inl (SqL.of ho2), hl, .ref o, rfl, o, gs, rfl, .inl ⟨SqL.of ho2, fun l nl => ?_⟩⟩
        exact q _ _ (sm2.trans (same_upd nl)) ⟨l, gs, rfl, upd_same, pairs_same (same_upd nl) hg⟩
      refine ⟨.int st.2, rfl, .int n, rfl, st.2, n, rfl, rfl, _, rfl, ite2 (fun c => ?_) (fun c => ?_)⟩
      · have c' : st.2 < n := of_decide_eq_true c
        refine ⟨.ref o, rfl, .inl ⟨rfl, _, SqL.of hfo⟩, .int st.2, rfl, .int n, rfl, two _ _, fun d nd => ?_⟩
        have s3 : Same H' (upd H' d (.tup [.int st.2, .int n])) := same_upd nd
        have hd : PairV (upd H' d (.tup [.int st.2, .int n])) (.ref d) (st.2, n) := ⟨d, rfl, upd_same⟩
        have hfo3 := s3 _ _ hfo
        refine ⟨o, fs, .ref d, rfl, rfl, hfo3, smallL _ (by omega), .ref o, rfl, fin _ (fs ++ [.ref d]) (same_over (sm.trans s3) no) upd_same ?_ (by rw [List.length_append, List.length_singleton]; omega)⟩
        unfold owEnd
        rw [if_pos c']
        exact pair_snoc (pairs_over hfo3 (pairs_same s3 hfs)) (PairV.over hfo3 hd)
      · have c' : ¬ st.2 < n := fun z => c (decide_eq_true z)
        refine ⟨.ref o, rfl, fin _ fs sm hfo ?_ (by omega)⟩
        unfold owEnd
        rw [if_neg c']
        exact hfs
abbrev sLaterBy : Stmt := topS 29
theorem scLaterBy : FnScope ["story", "by", "moved", "begin", "end"] ["story", "by"] (defScope sLaterBy) := ⟨rfl, rfl, rfl, by decide +kernel, rfl, by decide +kernel, by decide +kernel⟩
theorem ok_later {f : Addr} {fd : FuncData} (F : Fun K "later_by" "later_by" sLaterBy f fd) (T : Txt K mg t1 t2 t3 t4 aW) : FnOk P w K mg base CX0 1 f fd ["story", "by"] spLater := by
  refine F.ok scLaterBy (fun vs H Q E h => ?_) (fun cdv A outer s H vs Q E hr h => ?_)
  · obtain ⟨v, s, k, rfl, _⟩ := h
    rfl
  · obtain ⟨v, s, k, rfl, ⟨a, xs, rfl, ha, hp⟩, hlen, hk, q⟩ := h
    refine ⟨_, (pss_cons (ps_setLc (i := 2) (own := [("begin", 3), ("end", 4)]) (g := (gTup K 2 (gCons (gName 3) (gCons (gName 4) gNil)))) rfl scLaterBy.nd rfl rfl (sw_true rfl rfl rfl (by decide +kernel)) (pi_tup (pv 0)) (blkOk_by (own := [("begin", 3), ("end", 4)]) (N := ["story", "by", "moved", "begin", "end"]) (sc := defScope sLaterBy) (by decide +kernel)) (fun _ _ _ _ _ => (pg_tup rfl (pgs_cons (pg_name (i := 3) scLaterBy.nd rfl (Or.inl rfl)) (pgs_cons (pg_name (i := 4) scLaterBy.nd rfl (Or.inl rfl)) pgs_nil)))) (fun _ _ _ _ _ => (pts_one (pt_cmpR op_gt (pe_op op_add (pv 4) (pv 1)) pe_int (nomark _)))) (fun _ _ _ _ _ => (pe_tup (pa_cons (pe_callB (call_max2 rfl) (by rfl) T.m_max b_max (pa_cons pe_int (pa_cons (pe_op op_add (pv 3) (pv 1)) pa_nil))) (pa_cons (pe_op op_add (pv 4) (pv 1)) pa_nil)))))
      (pss_cons (ps_if (pt_val (pe_callB (cr_any rfl) (by rfl) T.m_any b_any (pa_cons (pe_lc (own := [("begin", 3), ("end", 4)]) (g := (gTup K 2 (gCons (gName 3) (gCons (gName 4) gNil)))) (tt := tYes) rfl scLaterBy.nd (pi_list (pv 2)) (blkOk_by (own := [("begin", 3), ("end", 4)]) (N := ["story", "by", "moved", "begin", "end"]) (sc := defScope sLaterBy) (by decide +kernel)) (fun _ _ _ _ _ => (pg_tup rfl (pgs_cons (pg_name (i := 3) scLaterBy.nd rfl (Or.inl rfl)) (pgs_cons (pg_name (i := 4) scLaterBy.nd rfl (Or.inl rfl)) pgs_nil)))) (fun _ _ _ _ _ => pts_nil) (fun _ _ _ _ _ => (pe_cmpR op_gt (pv 4) (pe_glob (v := .int 1000000) rfl T.c_MOST_BEAT ⟨_, rfl⟩) (nomark _)))) pa_nil)))
        (pss_one ps_never)
        pss_nil)
      (pss_one (ps_ret (pe_callTy call_tuple_of (by rfl) T.m_tuple b_tuple (pa_cons (pv 2) pa_nil)))))), ?_⟩
    refine rd_seq (rd_asg ?_)
    refine lc_pairs (R := PairV) (fun p : Int × Int => ((p.1 + k, p.2 + k) : Int × Int)) stays_pair (fun Q' h => ⟨_, rfl, h⟩) ha hp (by omega) (fun p hm H' Q' _ h => ?_) (fun p hm H' Q' sm h => ?_) (fun _ _ => rfl) (fun D H' ys sm hD hy hR => ?_)
    · have hk' := hk p hm
      refine ⟨.int p.2, rfl, .int k, rfl, p.2, k, rfl, rfl, _, 0, rfl, rfl, _, rfl, ?_⟩
      rw [decide_eq_true hk'.2.1]
      exact h
    · have hk' := hk p hm
      refine ⟨.int p.1, rfl, .int k, rfl, p.1, k, rfl, rfl, 0, _, rfl, .int p.2, rfl, .int k, rfl, p.2, k, rfl, rfl, two _ _, fun d nd => ?_⟩
      refine h _ _ (same_upd nd) ⟨d, ?_, ?_⟩
      · rfl
      · have e : (if p.1 + k > 0 then p.1 + k else 0) = p.1 + k := by
          split <;> omega
        show upd H' d (.tup [.int (if p.1 + k > 0 then p.1 + k else 0), .int (p.2 + k)]) d = _
        rw [upd_same, e]
    · -- any([end > MOST_BEAT for begin, end in moved])
      have hl2 : (shift s k).length = s.length := List.length_map _
      refine rd_name ?_
      dsimp only
      refine rd_seq (rd_if (rd_val (rd_cb (rd_cons ?_))))
      refine lc_pairsL (s := shift s k) (R := IsV V.bl) (fun p : Int × Int => decide ((1000000 : Int) < p.2)) (stays_is _) (fun Q' h => ⟨_, rfl, h⟩) hy hR (by omega) (fun p _ H' Q' _ h => h) (fun p hm H' Q' sm h => ?_) (fun _ _ => rfl) (fun D2 H2 zs sm2 hD2 hz hR2 => ?_)
      · exact ⟨.int p.2, rfl, p.2, 1000000, rfl, rfl, h _ _ (Same.refl _) rfl⟩
      · refine ⟨D2, (shift s k).map fun p : Int × Int => decide ((1000000 : Int) < p.2), rfl, SqL.of (by rw [hz, is_map hR2]), _, rfl, ?_⟩
        rw [any_map_id]
        refine ifF ?_ ?_
        · rw [List.any_eq_false]
          intro p hm
          obtain ⟨p', hp', rfl⟩ := List.mem_map.mp hm
          have := hk p' hp'
          show ¬ decide ((1000000 : Int) < p'.2 + k) = true
          rw [decide_eq_true_eq]
          omega
        · refine ⟨.ref D, rfl, D, ys, rfl, .inl ⟨SqL.of (sm2 _ _ hy), fun l nl => ?_⟩⟩
          exact q _ _ ((sm.trans sm2).trans (same_upd nl)) ⟨l, ys, rfl, upd_same, pairs_same (sm2.trans (same_upd nl)) hR⟩
end
end Kp

namespace Kp
open PySem PySem.Spec PyProof.Rows L2
def spStoryBy : Sp := fun vs H Q _ => ∃ m : Nat, vs = [.int (m : Int)] ∧ m < 16777216 ∧ ∀ H' y r, Same H H' → StV H' y r → StoryN m r → Q y H'
def spStoryAt : Sp := fun vs H Q _ => ∃ m n : Nat, vs = [.int (m : Int), .int (n : Int)] ∧ n ≤ 24 ∧ m < 2 ^ n ∧ ∀ H' y r, Same H H' → StV H' y r → StoryN m r → Q y H'
def spStoryOf : Sp := fun vs H Q _ => ∃ (a : Addr) (bs : List Int), vs = [.ref a] ∧ H a = some (.lst (bs.map V.int)) ∧ bs.length ≤ 1000 ∧ (∀ b ∈ bs, 0 ≤ b ∧ b < 200) ∧
  ∀ H' y r, Same H H' → StV H' y r → Rs r → (∀ x, sil r x = decide (x ∈ bs)) → Q y H'
def numM (σ : L2.St) : Nat := match σ with
  | some (.int n) :: _ => n.toNat
  | _ => 0
section
variable {P : Program} {w : World} {K : PySem.W.Frag} {mg : Str → Option Value} {base : Heap} {t1 t2 t3 t4 : Tok} {aW : Addr}
abbrev sStoryBy : Stmt := topS 30
theorem scStoryBy : FnScope ["number", "beats", "beat"] ["number"] (defScope sStoryBy) := ⟨rfl, rfl, rfl, by decide +kernel, rfl, by decide +kernel, by decide +kernel⟩
theorem ok_story_by {f : Addr} {fd : FuncData} (F : Fun K "story_by" "story_by" sStoryBy f fd) (DJoined : Def P w K mg base 1 "joined" ["stretches"] (spJoined K)) : FnOk P w K mg base CX0 2 f fd ["number"] spStoryBy := by
  refine F.ok scStoryBy (fun vs H Q E h => ?_) (fun cdv A outer s H vs Q E hr h => ?_)
  · obtain ⟨m, rfl, _⟩ := h
    rfl
  · obtain ⟨m, rfl, hm, q⟩ := h
    refine ⟨_, (pss_cons (ps_set (i := 1) scStoryBy.nd rfl (Or.inl rfl) (pe_lst pa_nil))
      (pss_cons (ps_set (i := 2) scStoryBy.nd rfl (Or.inl rfl) pe_int)
      (pss_cons (ps_while PassesOwn.never (pt_cmpR op_gt (pv 0) pe_int (nomark _))
        (pss_cons (ps_if (pt_cmpR op_eq (pe_op op_mod (pv 0) pe_int) pe_int (nomark _))
          (pss_one (ps_expr (pe_bm PySem.F.plainAttrs_list PySem.F.slot_list_append PySem.F.type_list_append mt_append (pv 1) (pa_cons (pe_tup (pa_cons (pv 2) (pa_cons (pe_op op_add (pv 2) pe_int) pa_nil))) pa_nil))))
          pss_nil)
        (pss_cons (ps_set (i := 0) scStoryBy.nd rfl (Or.inl rfl) (pe_op op_fdivW (pv 0) pe_int))
        (pss_one (ps_set (i := 2) scStoryBy.nd rfl (Or.inl rfl) (pe_op op_add (pv 2) pe_int))))))
      (pss_one (ps_ret (pe_callD DJoined hr (pa_cons (pv 1) pa_nil))))))), ?_⟩
    refine ⟨Nat.zero_le _, fun o no => ?_⟩
    refine while_by (fun σ H' => ∃ (m' : Nat) (k : Int) (bs : List V) (l : Sty), σ = [some (.int (m' : Int)), some (.ref o), some (.int k)] ∧ Same H H' ∧ 0 ≤ k ∧ H' o = some (.lst bs) ∧ Paired (PairV H') bs l ∧ l ++ bitsF m' k = bitsF m 0) (fun σ _ => numM σ)
      ⟨m, 0, [], [], rfl, same_upd no, Int.le_refl _, upd_same, .nil, rfl⟩ ?_ ?_
    · rintro σ H' ⟨m', k, bs, l, rfl, sm, hk, ho, hp, hb⟩
      have hbl : bs.length < 16777216 := by
        have a1 := Paired.len hp
        have a2 := bitsF_len m 0
        rw [← hb, List.length_append] at a2
        omega
      refine ⟨.int (m' : Int), rfl, (m' : Int), 0, rfl, rfl, _, rfl, ite2 (fun c => ?_) (fun c => ?_)⟩
      · have c' : 0 < m' := by
          have := of_decide_eq_true c
          omega
        rw [bitsF_pos c'] at hb
        have e1 : (m' : Int) / 2 = ((m' / 2 : Nat) : Int) := by omega
        have d2 : CDivW (m' : Int) 2 := wide_div (b := 2) (by decide) (by decide) (by decide) (by decide)
        have dec : numM [some (.int ((m' / 2 : Nat) : Int)), some (.ref o), some (.int (k + 1))] < numM [some (.int (m' : Int)), some (.ref o), some (.int k)] := by
          show ((m' / 2 : Nat) : Int).toNat < (m' : Int).toNat
          omega
        refine ⟨.int (m' : Int), rfl, (m' : Int), 2, rfl, rfl, (by show (0 : Int) < 2; decide), rfl, _, rfl, ite2 (fun c2 => ?_) (fun c2 => ?_)⟩
        · have c2' : m' % 2 = 1 := by
            have := V.int.inj (of_decide_eq_true c2)
            omega
          rw [if_pos c2', ← List.append_assoc] at hb
          refine ⟨.ref o, rfl, .inl ⟨rfl, _, SqL.of ho⟩, .int k, rfl, .int k, rfl, k, 1, rfl, rfl, two _ _, fun d nd => ?_⟩
          have s3 : Same H' (upd H' d (.tup [.int k, .int (k + 1)])) := same_upd nd
          have hd : PairV (upd H' d (.tup [.int k, .int (k + 1)])) (.ref d) (k, k + 1) := ⟨d, rfl, upd_same⟩
          have ho3 := s3 _ _ ho
          refine ⟨o, bs, .ref d, rfl, rfl, ho3, smallL _ hbl, ?_⟩
          refine ⟨.int (m' : Int), rfl, (m' : Int), 2, rfl, rfl, d2, .int k, rfl, k, 1, rfl, rfl, ?_⟩
          refine ⟨⟨m' / 2, k + 1, bs ++ [.ref d], l ++ [(k, k + 1)], ?_, same_over (sm.trans s3) no, by omega, upd_same, pair_snoc (pairs_over ho3 (pairs_same s3 hp)) (PairV.over ho3 hd), hb⟩, ?_⟩
          · rw [← e1]
            rfl
          · show numM [some (.int ((m' : Int) / 2)), some (.ref o), some (.int (k + 1))] < _
            rw [e1]
            exact dec
        · have c2' : ¬ m' % 2 = 1 := fun z => c2 (decide_eq_true (by
            show V.int ((m' : Int) % 2) = V.int 1
            rw [show (m' : Int) % 2 = 1 by omega]))
          rw [if_neg c2', List.nil_append] at hb
          refine ⟨.int (m' : Int), rfl, (m' : Int), 2, rfl, rfl, d2, .int k, rfl, k, 1, rfl, rfl, ?_⟩
          refine ⟨⟨m' / 2, k + 1, bs, l, ?_, sm, by omega, ho, hp, hb⟩, ?_⟩
          · rw [← e1]
            rfl
          · show numM [some (.int ((m' : Int) / 2)), some (.ref o), some (.int (k + 1))] < _
            rw [e1]
            exact dec
      · have c' : m' = 0 := by
          have : ¬ (0 : Int) < (m' : Int) := fun z => c (decide_eq_true z)
          omega
        subst c'
        rw [bitsF_zero, List.append_nil] at hb
        subst hb
        refine ⟨.ref o, rfl, o, bs, bitsF m 0, rfl, .inl (SqL.of ho), hp, bitsF_ok m 0 (Int.le_refl _), Nat.lt_of_le_of_lt (bitsF_len m 0) hm, fun H3 y r sm2 hy hr2 hsil hl => ?_⟩
        exact q H3 y r (sm.trans sm2) hy (.of_join hr2 hsil)
    · rintro σ H' Q1 Q2 hq ⟨v, h1, i, j, h2, h3, b, h4, h5⟩
      exact ⟨v, h1, i, j, h2, h3, b, h4, hq _ _ h5⟩
abbrev sStoryAt : Stmt := topS 31
theorem scStoryAt : FnScope ["number", "many"] ["number", "many"] (defScope sStoryAt) := ⟨rfl, rfl, rfl, by decide +kernel, rfl, by decide +kernel, by decide +kernel⟩
theorem ok_story_at {f : Addr} {fd : FuncData} (F : Fun K "story_at" "story_at" sStoryAt f fd) (DIsWhole : Def P w K mg base 1 "is_whole" ["thing"] spIsWhole) (DStoryBy : Def P w K mg base 2 "story_by" ["number"] spStoryBy) : FnOk P w K mg base CX0 3 f fd ["number", "many"] spStoryAt := by
  refine F.ok scStoryAt (fun vs H Q E h => ?_) (fun cdv A outer s H vs Q E hr h => ?_)
  · obtain ⟨m, n, rfl, _⟩ := h
    rfl
  · obtain ⟨m, n, rfl, hn, hm, q⟩ := h
    refine ⟨_, (pss_cons (ps_if (PW.pt (pw_or (pt_not (pt_val (pe_callD DIsWhole hr (pa_cons (pv 0) pa_nil)))) (pw_or1 (pt_not (pt_chain op_le op_lt pe_int (pv 0) (pe_op op_shl pe_int (pv 1)))))))
        (pss_one ps_never)
        pss_nil)
      (pss_one (ps_ret (pe_callD DStoryBy hr (pa_cons (pv 0) pa_nil))))), ?_⟩
    have e1 : (1 : Int) * 2 ^ ((n : Int)).toNat = ((2 ^ n : Nat) : Int) := by
      rw [Int.toNat_natCast, Int.one_mul, Int.natCast_pow]
      rfl
    have h24 : m < 16777216 := Nat.lt_of_lt_of_le hm (Nat.pow_le_pow_right (n := 2) (by decide) hn)
    refine ⟨.int (m : Int), rfl, (m : Int), rfl, true, rfl, ifF rfl ?_⟩
    refine ⟨.int (m : Int), rfl, 0, (m : Int), rfl, rfl, _, rfl, ifT (decide_eq_true (by omega)) ?_⟩
    refine ⟨.int (n : Int), rfl, 1, (n : Int), rfl, rfl, ⟨by omega, by omega, by decide⟩, (m : Int), _, rfl, rfl, _, rfl, ifF ?_ ?_⟩
    · rw [e1, decide_eq_true (show (m : Int) < ((2 ^ n : Nat) : Int) by omega)]
      rfl
    · exact ⟨.int (m : Int), rfl, m, rfl, h24, fun H' y r sm hy hr2 => q H' y r sm hy hr2⟩
abbrev sStoryOf : Stmt := topS 19
theorem scStoryOf : FnScope ["things", "number", "thing", "found", "beat"] ["things"] (defScope sStoryOf) := ⟨rfl, rfl, rfl, by decide +kernel, rfl, by decide +kernel, by decide +kernel⟩
theorem ok_story_of {f : Addr} {fd : FuncData} (F : Fun K "story_of" "story_of" sStoryOf f fd) (T : Txt K mg t1 t2 t3 t4 aW) (DIsBeat : Def P w K mg base 2 "is_beat" ["thing"] spIsBeat) (DJoined : Def P w K mg base 1 "joined" ["stretches"] (spJoined K)) : FnOk P w K mg base CX0 3 f fd ["things"] spStoryOf := by
  refine F.ok scStoryOf (fun vs H Q E h => ?_) (fun cdv A outer s H vs Q E hr h => ?_)
  · obtain ⟨a, bs, rfl, _⟩ := h
    rfl
  · obtain ⟨a, bs, rfl, ha, hlen, hb, q⟩ := h
    refine ⟨_, (pss_cons (ps_for PassesOwn.never rfl (pi_enum (by rfl) T.m_enumerate (pa_cons (pv 0) pa_nil)) (pg_tup rfl (pgs_cons (pg_name (i := 1) scStoryOf.nd rfl (Or.inl rfl)) (pgs_cons (pg_name (i := 2) scStoryOf.nd rfl (Or.inl rfl)) pgs_nil)))
        (pss_one (ps_if (PW.pt (pw_or (pt_not (pt_val (pe_callD DIsBeat hr (pa_cons (pv 2) pa_nil)))) (pw_or1 (pt_cmpR op_eq (pv 2) (pe_glob (v := .int 1000000) rfl T.c_MOST_BEAT ⟨_, rfl⟩) (nomark _)))))
          (pss_one ps_never)
          pss_nil)))
      (pss_cons (ps_set (i := 3) scStoryOf.nd rfl (Or.inl rfl) (pe_callD DJoined hr (pa_cons (pe_lc (own := [("beat", 4)]) (g := (gName 4)) (tt := tYes) rfl scStoryOf.nd (pi_list (pv 0)) (blkOk_by (own := [("beat", 4)]) (N := ["things", "number", "thing", "found", "beat"]) (sc := defScope sStoryOf) (by decide +kernel)) (fun _ _ _ _ _ => (pg_name (i := 4) scStoryOf.nd rfl (Or.inl rfl))) (fun _ _ _ _ _ => pts_nil) (fun _ _ _ _ _ => (pe_tup (pa_cons (pv 4) (pa_cons (pe_op op_add (pv 4) pe_int) pa_nil))))) pa_nil)))
      (pss_cons (ps_if (pt_cmpR op_gt (pe_callB call_len_seq (by rfl) T.m_len b_len (pa_cons (pv 3) pa_nil)) (pe_glob (v := .int 200) rfl T.c_MOST_STRETCHES ⟨_, rfl⟩) (nomark _))
        (pss_one ps_never)
        pss_nil)
      (pss_one (ps_ret (pv 3)))))), ?_⟩
    refine ⟨.ref a, rfl, a, _, rfl, SqL.of ha, for_it (walk_enum (K := K) (a := a) (xs := bs.map V.int)) (fun i σ H' => ∃ y1 y2, σ = [some (.ref a), y1, y2, none, none] ∧ Same H H')
      ⟨none, none, rfl, Same.refl _⟩ (fun i σ H' _ h => ?_) (fun i x σ H' H'' hi h hy => ?_) (fun σ H' h => ?_)⟩
    · obtain ⟨_, _, _, sm⟩ := h
      exact SqL.of (sm _ _ ha)
    · obtain ⟨y1, y2, rfl, sm⟩ := h
      obtain ⟨tt, x1, x2, rfl, nt, rfl, f1, f2⟩ := hy
      obtain rfl : V.int (i : Nat) = x1 := Option.some.inj f1
      have f2 : (bs.map V.int)[i]? = some x2 := f2
      rw [List.getElem?_map] at f2
      cases eb : bs[i]? with
      | none =>
        rw [eb] at f2
        cases f2
      | some b =>
        rw [eb] at f2
        obtain rfl : V.int b = x2 := Option.some.inj f2
        have hbb := hb b (List.mem_of_getElem? eb)
        have s3 : Same H' (upd H' tt (.tup [.int (i : Nat), .int b])) := same_upd nt
        refine ⟨tt, _, rfl, SqT.of upd_same, rfl, _, _, rfl, _, _, rfl, rfl, ?_⟩
        refine ⟨.int b, rfl, b, rfl, hbb.1, by omega, true, rfl, ifF rfl ?_⟩
        refine ⟨.int b, rfl, rfl, _, rfl, ifF (decide_eq_false fun z => ?_) ⟨_, _, rfl, sm.trans s3⟩⟩
        have := V.int.inj z
        omega
    · obtain ⟨y1, y2, rfl, sm⟩ := h
      dsimp only
      refine rd_seq (rd_asg (rd_call (rd_cons ?_)))
      refine lc_lst (R := PairV) (G := IsV V.int) (fun ms => ms = bs) (fun b : Int => ((b, b + 1) : Int × Int)) stays_pair (stays_is _) (fun Q' h => ⟨.ref a, rfl, h H' a _ bs rfl (Same.refl _) (sm _ _ ha) (map_is bs)⟩) (fun ms e => by rw [e]; omega) (fun ms e x b hbm H2 s2 hx Q' h => ?_) (fun _ => rfl) (fun ms D H2 ys e s2 nD hD hR => ?_)
      · obtain rfl : x = V.int b := hx
        refine ⟨.int b, rfl, .int b, rfl, b, 1, rfl, rfl, two _ _, fun d nd => ?_⟩
        exact h _ _ (same_upd nd) ⟨d, rfl, upd_same⟩
      · subst e
        refine ⟨D, ys, _, rfl, .inl (SqL.of hD), hR, fun p hp => ?_, by rw [List.length_map]; omega, fun H3 y r s3 hy hr2 hsil hl => ?_⟩
        · obtain ⟨b, hbm, rfl⟩ := List.mem_map.mp hp
          exact ⟨(hb b hbm).1, by show b < b + 1; omega⟩
        · have hs2 : ∀ x, sil r x = decide (x ∈ ms) := fun x => by
            rw [hsil, Bool.eq_iff_iff, sil_iff, decide_eq_true_eq]
            constructor
            · rintro ⟨p, hp, h1, h2⟩
              obtain ⟨b, hbm, rfl⟩ := List.mem_map.mp hp
              have h1' : b ≤ x := h1
              have h2' : x < b + 1 := h2
              rw [show x = b by omega]
              exact hbm
            · intro hx
              exact ⟨(x, x + 1), List.mem_map.mpr ⟨x, hx, rfl⟩, Int.le_refl _, by show x < x + 1; omega⟩
          have hbl : Below 200 r := below_of hr2 fun x hx => by
            rw [hs2, decide_eq_true_eq] at hx
            exact (hb x hx).2
          have hln := hr2.len hbl (by decide)
          have fin := q H3 y r ((sm.trans s2).trans s3) hy hr2 hs2
          obtain ⟨c, zs, rfl, hc, hz⟩ := hy
          refine ⟨.ref c, rfl, c, zs, rfl, .inr (SqT.of hc), _, 200, rfl, rfl, _, rfl, ifF (decide_eq_false ?_) ⟨.ref c, rfl, fin⟩⟩
          rw [Paired.len hz]
          omega
theorem walk_zipT {a b : Addr} {xs ys : List V} {n : Nat} (hn : n = min xs.length ys.length) : Walk (RZ.ItzT K a b) n (fun H => SqT K H a xs ∧ SqT K H b ys) (YPair (fun i => xs[i]?) (fun i => ys[i]?)) := by
  subst hn
  refine ⟨fun i _ hi q => ⟨xs, ys, xs[i]'(by omega), ys[i]'(by omega), q.1, q.2, List.getElem?_eq_getElem (by omega), List.getElem?_eq_getElem (by omega)⟩, fun _ q => ⟨xs, ys, q.1, q.2, by omega⟩, fun i H v H' _ q y => ?_⟩
  obtain ⟨T, x, z, h1, h2, h3, h4, h5⟩ := y
  exact ⟨T, x, z, h1, h2, h3, h4 _ q.1, h5 _ q.2⟩
theorem cut_one (xs : List V) : cutV xs (some 1) none = xs.drop 1 := by
  unfold cutV
  rw [HT.sIx_none, show HT.sIx xs.length 0 (some 1) = min 1 xs.length from HT.sIx_nat xs.length 0 1]
  cases xs with
  | nil => rfl
  | cons x r =>
    rw [show min 1 (x :: r).length = 1 by rw [List.length_cons]; omega]
    show r.take ((x :: r).length - 1) = r
    rw [List.length_cons, Nat.add_sub_cancel, List.take_length]
theorem rd_noPart {σ : L2.St} {H : Hp} {Q : Option Int → Hp → Prop} (h : Q none H) : tNoPart σ H Q := h
theorem sl1 {K : PySem.W.Frag} {a : Addr} {xs : List V} {H : Hp} {Q : VK} (ha : H a = some (.tup xs)) (h : ∀ c H3, Same H H3 → SqT K H3 c (xs.drop 1) → Q (.ref c) H3) : rSlA K (.ref a) (some 1) none H Q := by
  refine ⟨a, xs, rfl, SqT.of ha, fun e => h a H (Same.refl _) ?_, fun e p np => h p _ (same_upd np) ?_⟩
  · have e1 : min 1 xs.length = 0 := (HT.sIx_nat xs.length 0 1).symm.trans e.1
    have e2 : xs = [] := List.eq_nil_of_length_eq_zero (by omega)
    rw [e2] at ha ⊢
    exact SqT.of ha
  · rw [cut_one]
    exact SqT.of upd_same
theorem drop_tail {α : Type} {l : List α} : ∀ {i : Nat}, (l.drop 1)[i]? = l[i + 1]? := fun {i} => by
  rw [List.getElem?_drop, Nat.add_comm]
abbrev sStoryGood : Stmt := topS 16
theorem scStoryGood : FnScope ["thing", "one", "later"] ["thing"] (defScope sStoryGood) := ⟨rfl, rfl, rfl, by decide +kernel, rfl, by decide +kernel, by decide +kernel⟩
theorem ok_story_good {f : Addr} {fd : FuncData} (F : Fun K "story_good" "story_good" sStoryGood f fd) (T : Txt K mg t1 t2 t3 t4 aW) (DIsStretch : Def P w K mg base 3 "is_stretch" ["thing"] spIsStretch) : FnOk P w K mg base CX0 4 f fd ["thing"] spStoryGood := by
  refine F.ok scStoryGood (fun vs H Q E h => ?_) (fun cdv A outer s H vs Q E hr h => ?_)
  · obtain ⟨v, s, rfl, _⟩ := h
    rfl
  · obtain ⟨v, s, rfl, ⟨a, xs, rfl, ha, hp⟩, hs, hb, hlen, q⟩ := h
    refine ⟨_, (pss_cons (ps_if (PW.pt (pw_or (pt_not (pt_val (pe_callB call_isi (by rfl) T.m_isinstance b_isinstance (pa_cons (pv 0) (pa_cons (pe_bltn (v := .ty "tuple") rfl T.m_tuple b_tuple rfl) pa_nil))))) (pw_or (pt_cmpR op_gt (pe_callB call_len_seq (by rfl) T.m_len b_len (pa_cons (pv 0) pa_nil)) (pe_glob (v := .int 200) rfl T.c_MOST_STRETCHES ⟨_, rfl⟩) (nomark _)) (pw_or1 (pt_not (pt_val (pe_callB (cr_all rfl) (by rfl) T.m_all b_all (pa_cons (pe_lc (own := [("one", 1)]) (g := (gName 1)) (tt := tYes) rfl scStoryGood.nd (pi_tup (pv 0)) (blkOk_by (own := [("one", 1)]) (N := ["thing", "one", "later"]) (sc := defScope sStoryGood) (by decide +kernel)) (fun _ _ _ _ _ => (pg_name (i := 1) scStoryGood.nd rfl (Or.inl rfl))) (fun _ _ _ _ _ => pts_nil) (fun _ _ _ _ _ => (pe_callD DIsStretch hr (pa_cons (pv 1) pa_nil)))) pa_nil))))))))
        (pss_one (ps_ret pe_bl))
        pss_nil)
      (pss_one (ps_ret (pe_callB (cr_all rfl) (by rfl) T.m_all b_all (pa_cons (pe_lc (own := [("one", 1), ("later", 2)]) (g := (gTup K 2 (gCons (gName 1) (gCons (gName 2) gNil)))) (tt := tYes) rfl scStoryGood.nd (RZ.pi_zipA (by rfl) T.m_zip (pa_cons (pv 0) (pa_cons (pe_slice sl_tupA (pv 0) (po_some pe_int) po_none) pa_nil))) (blkOk_by (own := [("one", 1), ("later", 2)]) (N := ["thing", "one", "later"]) (sc := defScope sStoryGood) (by decide +kernel)) (fun _ _ _ _ _ => (pg_tup rfl (pgs_cons (pg_name (i := 1) scStoryGood.nd rfl (Or.inl rfl)) (pgs_cons (pg_name (i := 2) scStoryGood.nd rfl (Or.inl rfl)) pgs_nil)))) (fun _ _ _ _ _ => pts_nil) (fun _ _ _ _ _ => (pe_cmpR op_lt (pe_ix (show IxR _ (rIxT K) from ix_tup) (pv 1) pe_int (fun _ _ => rfl)) (pe_ix (show IxR _ (rIxT K) from ix_tup) (pv 2) pe_int (fun _ _ => rfl)) (nomark _)))) pa_nil))))), ?_⟩
    have l1 := Paired.len hp
    -- isinstance(thing, tuple), len(thing) > MOST_STRETCHES
    refine ⟨.ref a, rfl, .ref a, .ty "tuple", .type "tuple", .type "tuple", true, rfl, .ty _, .base (.tup ha), kit_ty kit_tt, true, rfl, ifF rfl ?_⟩
    refine ⟨.ref a, rfl, a, xs, rfl, .inr (SqT.of ha), _, 200, rfl, rfl, _, rfl, ifF (decide_eq_false (by omega)) ?_⟩
    -- all([is_stretch(one) for one in thing])
    refine rd_not (rd_val (rd_cb (rd_cons ?_)))
    refine lc_tpl (R := IsV V.bl) (G := PairV) (fun ms => ms = s) (fun _ : Int × Int => true) (stays_is _) stays_pair (fun Q' h => ⟨.ref a, rfl, h H a xs s rfl (Same.refl _) ha hp⟩) (fun ms e => by rw [e]; omega) (fun ms e x p hpm H2 s2 hx Q' h => ?_) (fun _ => rfl) (fun ms D H2 ys e s2 nD hD hR => ?_)
    · subst e
      have h1 := hs.ok p hpm
      exact ⟨x, rfl, x, p, rfl, hx, h1.1, h1.2, hb p hpm, h _ _ (Same.refl _) rfl⟩
    · subst e
      refine ⟨D, ms.map fun _ => true, rfl, SqL.of (by rw [hD, is_map hR]), _, rfl, ?_⟩
      have e1 : ((ms.map fun _ : Int × Int => true).all id) = true := by
        rw [all_map_id, List.all_eq_true]
        exact fun _ _ => rfl
      rw [e1]
      refine iteF ?_
      -- all([one[1] < later[0] for one, later in zip(thing, thing[1:])])
      have ha2 := s2 _ _ ha
      have hp2 := pairs_same s2 hp
      refine ⟨.ref a, rfl, .ref a, rfl, 1, rfl, ?_⟩
      refine rd_noPart (sl1 ha2 fun c H3 s3 hc => ?_)
      refine ⟨a, c, xs, xs.drop 1, rfl, .inr ⟨SqT.of (s3 _ _ ha2), hc, fun D2 nD2 => ?_⟩⟩
      have hp3 := pairs_same s3 hp2
      refine lc_it (walk_zipT (K := K) (a := a) (b := c) (xs := xs) (ys := xs.drop 1) (n := xs.length - 1) (by rw [List.length_drop]; omega)) (fun i H' => Same H3 H' ∧ H' D2 = some (.lst (List.replicate i (.bl true)))) ⟨same_upd nD2, upd_same⟩ (fun i H' _ h => ⟨SqT.of (h.1 _ _ (s3 _ _ ha2)), sqt_same h.1 hc⟩) (fun i x H' H'' hi h hy => ?_) (fun H' h => ?_)
      · obtain ⟨sm, hD2⟩ := h
        obtain ⟨tt, x1, x2, rfl, nt, rfl, f1, f2⟩ := hy
        have f2 : (xs.drop 1)[i]? = some x2 := f2
        rw [drop_tail] at f2
        obtain ⟨p, hp1, t1', rfl, ht1⟩ := Paired.get hp3 f1
        obtain ⟨p', hp1', t2', rfl, ht2⟩ := Paired.get hp3 f2
        have sT : Same H' (upd H' tt (.tup [.ref t1', .ref t2'])) := same_upd nt
        have lt : p.2 < p'.1 := by
          obtain ⟨g1, e1⟩ := List.getElem?_eq_some_iff.mp hp1
          obtain ⟨g2, e2⟩ := List.getElem?_eq_some_iff.mp hp1'
          have := List.pairwise_iff_getElem.mp hs.sep i (i + 1) g1 g2 (by omega)
          rw [e1, e2] at this
          exact this
        have hu1 := sT _ _ (sm _ _ ht1)
        have hu2 := sT _ _ (sm _ _ ht2)
        refine ⟨tt, _, rfl, SqT.of upd_same, rfl, _, _, rfl, _, _, rfl, rfl, rfl, yes_if ?_⟩
        refine ⟨.ref t1', rfl, t1', _, _, .int p.2, rfl, rfl, SqT.of hu1, atI_nat (j := 1) rfl, .ref t2', rfl, t2', _, _, .int p'.1, rfl, rfl, SqT.of hu2, atI_nat (j := 0) rfl, p.2, p'.1, rfl, rfl, _, sT _ _ hD2, ?_, ?_, ?_⟩
        · rw [List.length_replicate]
          exact smallL _ (by omega)
        · exact same_over (sm.trans sT) nD2
        · rw [upd_same]
          show some (HO.lst (List.replicate i (V.bl true) ++ [V.bl (decide (p.2 < p'.1))])) = _
          rw [decide_eq_true lt, List.replicate_succ']
      · obtain ⟨sm, hD2⟩ := h
        refine ⟨D2, List.replicate (xs.length - 1) true, rfl, SqL.of (by rw [hD2, List.map_replicate]), ?_⟩
        have e2 : (List.replicate (xs.length - 1) true).all id = true := by
          rw [List.all_eq_true]
          intro b hb'
          exact List.eq_of_mem_replicate hb'
        show Q (.bl ((List.replicate (xs.length - 1) true).all id)) H'
        rw [e2]
        exact q H' ((s2.trans s3).trans sm)
end
end Kp

namespace Kp
open PySem PySem.Spec PyProof.Rows L2
def spChosen : Sp := fun vs H Q _ => ∃ n k : Nat, vs = [.int (n : Int), .int (k : Int)] ∧ n ≤ 8 ∧ k ≤ n ∧ Q (.int (chF n k)) H
def spBeats : Sp := fun vs H Q _ => ∃ n k : Nat, vs = [.int (n : Int), .int (k : Int)] ∧ n ≤ 8 ∧ k ≤ 8 ∧ ∀ (H' : Hp) (a : Addr) (ns : List Int), Same H H' → H' a = some (.lst (ns.map V.int)) → ns.Perm (C n k) → Q (.ref a) H'
def HasNum (H : Hp) (v : V) (x : Int) : Prop := ∃ (m : Nat) (r : Sty), x = (m : Int) ∧ StV H v r ∧ StoryN m r
theorem stays_num : Stays HasNum := by
  refine ⟨fun s h => ?_, fun h z => ?_⟩
  · obtain ⟨m, r, e, h1, h2⟩ := h
    exact ⟨m, r, e, h1.same s, h2⟩
  · obtain ⟨m, r, e, h1, h2⟩ := z
    exact ⟨m, r, e, stays_st.over h h1, h2⟩
def spStoriesWith : Sp := fun vs H Q _ => ∃ n k : Nat, vs = [.int (n : Int), .int (k : Int)] ∧ n ≤ 8 ∧ k ≤ n ∧
  ∀ H' a xs ns, Same H H' → H' a = some (.lst xs) → Paired (HasNum H') xs ns → (∀ m : Nat, m < 2 ^ n → cnt (fun x => m.testBit x) n = (k : Nat) → (m : Int) ∈ ns) → Q (.ref a) H'
/-- a list of ints that is not o -/
def NLo (o : Addr) (H : Hp) (v : V) (ns : List Int) : Prop := ∃ a, v = .ref a ∧ a ≠ o ∧ H a = some (.lst (ns.map V.int))
structure FSt (H : Hp) (o : Addr) (G : Nat → List Int) (k : Nat) (fs : List V) : Prop where
  ob : H o = some (.lst fs)
  len : fs.length = k + 1
  it : ∀ j, j ≤ k → ∃ v, fs[j]? = some v ∧ NLo o H v (G j)
theorem FSt.congr {H : Hp} {o : Addr} {G G' : Nat → List Int} {k : Nat} {fs : List V} (h : FSt H o G k fs) (e : ∀ j, j ≤ k → G j = G' j) : FSt H o G' k fs :=
  ⟨h.ob, h.len, fun j hj => by rw [← e j hj]; exact h.it j hj⟩
theorem FSt.put {H : Hp} {o p : Addr} {G : Nat → List Int} {k j : Nat} {fs : List V} {new : List Int} {H2 : Hp} (h : FSt H o G k fs) (s : Same H H2) (np : H2 p = none) (hj : j ≤ k) :
    FSt (upd (upd H2 p (.lst (new.map V.int))) o (.lst (fs.set j (.ref p)))) o (fun i => if i = j then new else G i) k (fs.set j (.ref p)) := by
  have npo : p ≠ o := fun e => by rw [e, s _ _ h.ob] at np; cases np
  refine ⟨upd_same, by rw [List.length_set]; exact h.len, fun i hi => ?_⟩
  by_cases c : i = j
  · subst c
    refine ⟨.ref p, List.getElem?_set_self (by rw [h.len]; omega), p, rfl, npo, ?_⟩
    rw [upd_ne npo, upd_same, if_pos rfl]
  · obtain ⟨v, hv, a, rfl, nao, ha⟩ := h.it i hi
    refine ⟨.ref a, by rw [List.getElem?_set_ne (Ne.symm c)]; exact hv, a, rfl, nao, ?_⟩
    have nap : a ≠ p := ne_of_none (s _ _ ha) np
    rw [upd_ne nao, upd_ne nap, if_neg c]
    exact s _ _ ha
theorem ixN_nat {n j : Nat} (h : j < n) : ixN n (j : Int) = some j := by
  unfold ixN
  rw [if_pos (by omega), if_pos (by omega), Int.toNat_natCast]
section
variable {P : Program} {w : World} {K : PySem.W.Frag} {mg : Str → Option Value} {base : Heap} {t1 t2 t3 t4 : Tok} {aW : Addr}
abbrev sChosenMany : Stmt := topS 33
theorem scChosenMany : FnScope ["many", "some", "found", "turn"] ["many", "some"] (defScope sChosenMany) := ⟨rfl, rfl, rfl, by decide +kernel, rfl, by decide +kernel, by decide +kernel⟩
theorem ok_chosen {f : Addr} {fd : FuncData} (F : Fun K "chosen_many" "chosen_many" sChosenMany f fd) (T : Txt K mg t1 t2 t3 t4 aW) : FnOk P w K mg base CX0 1 f fd ["many", "some"] spChosen := by
  refine F.ok scChosenMany (fun vs H Q E h => ?_) (fun cdv A outer s H vs Q E hr h => ?_)
  · obtain ⟨n, k, rfl, _⟩ := h
    rfl
  · obtain ⟨n, k, rfl, hn, hk, q⟩ := h
    refine ⟨_, (pss_cons (ps_set (i := 2) scChosenMany.nd rfl (Or.inl rfl) pe_int)
      (pss_cons (ps_for PassesOwn.never rfl (pi_range1 (by rfl) T.m_range (pa_cons (pe_callB (call_min2 rfl) (by rfl) T.m_min b_min (pa_cons (pv 1) (pa_cons (pe_op op_add (pv 0) pe_int) pa_nil))) pa_nil)) (pg_name (i := 3) scChosenMany.nd rfl (Or.inl rfl))
        (pss_one (ps_set (i := 2) scChosenMany.nd rfl (Or.inl rfl) (pe_op op_fdivW (pe_op op_mulW (pv 2) (pe_op op_sub (pv 0) (pv 3))) (pe_op op_add (pv 3) pe_int)))))
      (pss_one (ps_ret (pv 2))))), ?_⟩
    refine ⟨.int k, rfl, .int n, rfl, n, 1, rfl, rfl, (k : Int), _, rfl, (k : Int), ?_, by omega, by omega, ?_⟩
    · rw [if_neg (show ¬ (n : Int) + 1 < (k : Int) by omega)]
    rw [Int.toNat_natCast]
    refine for_range (lo := 0) (n := k) (fun i σ H' => ∃ y3, σ = [some (.int (n : Int)), some (.int (k : Int)), some (.int (chF n i)), y3] ∧ H' = H) ⟨none, rfl, rfl⟩ (fun i σ H' hi h => ?_) (fun σ H' h => ?_)
    · obtain ⟨y3, rfl, rfl⟩ := h
      have b1 := chF_ok n hn i (by omega)
      rw [show (0 : Int) + (i : Int) = (i : Int) by omega]
      have m1 : CMulW (chF n i) ((n : Int) - (i : Int)) := wide_mul (a := 20) (b := 20) (by omega) (by omega) (by decide) (by decide) (by decide)
      have d1 : CDivW (chF n i * ((n : Int) - (i : Int))) ((i : Int) + 1) := wide_div (b := 20) (by omega) (by omega) (by decide) (by decide)
      exact ⟨.int (chF n i), rfl, .int n, rfl, .int i, rfl, n, i, rfl, rfl, _, _, rfl, rfl, m1, .int i, rfl, i, 1, rfl, rfl, _, _, rfl, rfl, d1, _, rfl, rfl⟩
    · obtain ⟨y3, rfl, rfl⟩ := h
      exact ⟨_, rfl, q⟩
abbrev sSilentChoices : Stmt := topS 34
theorem scSilentChoices : FnScope ["many", "silent"] ["many", "silent"] (defScope sSilentChoices) := ⟨rfl, rfl, rfl, by decide +kernel, rfl, by decide +kernel, by decide +kernel⟩
theorem ok_choices {f : Addr} {fd : FuncData} (F : Fun K "silent_choices" "silent_choices" sSilentChoices f fd) (DChosenMany : Def P w K mg base 1 "chosen_many" ["many", "some"] spChosen) : FnOk P w K mg base CX0 2 f fd ["many", "silent"] spChosen := by
  refine F.ok scSilentChoices (fun vs H Q E h => ?_) (fun cdv A outer s H vs Q E hr h => ?_)
  · obtain ⟨n, k, rfl, _⟩ := h
    rfl
  · obtain ⟨n, k, rfl, hn, hk, q⟩ := h
    refine ⟨_, (pss_one (ps_ret (pe_callD DChosenMany hr (pa_cons (pv 0) (pa_cons (pv 1) pa_nil))))), ?_⟩
    exact ⟨_, rfl, _, rfl, n, k, rfl, hn, hk, q⟩
abbrev sBeatsChosen : Stmt := topS 35
theorem scBeatsChosen : FnScope ["many", "silent", "found", "beat", "some", "turn", "number"] ["many", "silent"] (defScope sBeatsChosen) := ⟨rfl, rfl, rfl, by decide +kernel, rfl, by decide +kernel, by decide +kernel⟩
theorem ok_beats {f : Addr} {fd : FuncData} (F : Fun K "beats_chosen" "beats_chosen" sBeatsChosen f fd) (T : Txt K mg t1 t2 t3 t4 aW) : FnOk P w K mg base CX0 1 f fd ["many", "silent"] spBeats := by
  refine F.ok scBeatsChosen (fun vs H Q E h => ?_) (fun cdv A outer s H vs Q E hr h => ?_)
  · obtain ⟨n, k, rfl, _⟩ := h
    rfl
  · obtain ⟨n, k, rfl, hn, hk, q⟩ := h
    refine ⟨_, (pss_cons (ps_set (i := 2) scBeatsChosen.nd rfl (Or.inl rfl) (pe_op op_cat (pe_lst (pa_cons (pe_lst (pa_cons pe_int pa_nil)) pa_nil)) (pe_lc (own := [("turn", 5)]) (g := (gName 5)) (tt := tYes) rfl scBeatsChosen.nd (pi_range1 (by rfl) T.m_range (pa_cons (pv 1) pa_nil)) (blkOk_by (own := [("turn", 5)]) (N := ["many", "silent", "found", "beat", "some", "turn", "number"]) (sc := defScope sBeatsChosen) (by decide +kernel)) (fun _ _ _ _ _ => (pg_name (i := 5) scBeatsChosen.nd rfl (Or.inl rfl))) (fun _ _ _ _ _ => pts_nil) (fun _ _ _ _ _ => (pe_lst pa_nil)))))
      (pss_cons (ps_for PassesOwn.never rfl (pi_range1 (by rfl) T.m_range (pa_cons (pv 0) pa_nil)) (pg_name (i := 3) scBeatsChosen.nd rfl (Or.inr rfl))
        (pss_one (ps_for PassesOwn.never rfl (pi_range3 (by rfl) T.m_range (pa_cons (pv 1) (pa_cons pe_int (pa_cons (pe_un un_neg pe_int) pa_nil)))) (pg_name (i := 4) scBeatsChosen.nd rfl (Or.inl rfl))
          (pss_one (ps_asg (pe_op op_cat (pe_ix ix_list (pv 2) (pv 4) (fun _ _ => rfl)) (pe_lc (own := [("number", 6)]) (g := (gName 6)) (tt := tYes) rfl scBeatsChosen.nd (pi_list (pe_ix ix_list (pv 2) (pe_op op_sub (pv 4) pe_int) (fun _ _ => rfl))) (blkOk_by (own := [("number", 6)]) (N := ["many", "silent", "found", "beat", "some", "turn", "number"]) (sc := defScope sBeatsChosen) (by decide +kernel)) (fun _ _ _ _ _ => (pg_name (i := 6) scBeatsChosen.nd rfl (Or.inl rfl))) (fun _ _ _ _ _ => pts_nil) (fun _ _ _ _ _ => (pe_op op_add (pv 6) (pe_op op_shl pe_int (pv 3)))))) (pg_sub (pv 2) (pv 4) set_list))))))
      (pss_one (ps_ret (pe_callB cr_sortedI (by rfl) T.m_sorted b_sorted (pa_cons (pe_ix ix_list (pv 2) (pv 1) (fun _ _ => rfl)) pa_nil)))))), ?_⟩
    -- [[0]] + [[] for turn in range(silent)]
    refine ⟨small 1 (by decide), fun p0 n0 => ⟨small 1 (by decide), fun p1 n1 => ?_⟩⟩
    have s0 : Same H (upd H p0 (.lst [.int 0])) := same_upd n0
    have s1 : Same H (upd (upd H p0 (.lst [.int 0])) p1 (.lst [.ref p0])) := s0.trans (same_upd n1)
    have h0 : (upd (upd H p0 (.lst [.int 0])) p1 (.lst [.ref p0])) p0 = some (.lst [.int 0]) := (same_upd n1) _ _ upd_same
    have h1 : (upd (upd H p0 (.lst [.int 0])) p1 (.lst [.ref p0])) p1 = some (.lst [.ref p0]) := upd_same
    generalize upd (upd H p0 (.lst [.int 0])) p1 (.lst [.ref p0]) = H1 at *
    refine ⟨.int k, rfl, (k : Int), rfl, by omega, by omega, fun D nD => ?_⟩
    rw [Int.toNat_natCast]
    refine lc_range (lo := 0) (n := k) (fun i H' => Same H1 H' ∧ ∃ ys, H' D = some (.lst ys) ∧ ys.length = i ∧ ∀ y ∈ ys, NLo D H' y []) ⟨same_upd nD, [], upd_same, rfl, fun y hy => by cases hy⟩ (fun i H' hi h => ?_) (fun H' h => ?_)
    · obtain ⟨sm, ys, hy, hl, hall⟩ := h
      refine ⟨rfl, yes_if ⟨Nat.zero_le _, fun d nd => ?_⟩⟩
      have sd : Same H' (upd H' d (.lst [])) := same_upd nd
      have hy2 := sd _ _ hy
      have ndD : d ≠ D := fun e => by rw [e, hy] at nd; cases nd
      refine ⟨ys, hy2, smallL _ (by omega), same_over (sm.trans sd) nD, ys ++ [.ref d], upd_same, by rw [List.length_append, hl]; rfl, fun y hym => ?_⟩
      rcases List.mem_append.mp hym with hym | hym
      · obtain ⟨a, rfl, na, ha⟩ := hall y hym
        exact ⟨a, rfl, na, by rw [upd_ne na]; exact sd _ _ ha⟩
      · rw [List.mem_singleton.mp hym]
        exact ⟨d, rfl, ndD, by rw [upd_ne ndD, upd_same]; rfl⟩
    · obtain ⟨sm, ys, hy, hl, hall⟩ := h
      refine ⟨p1, D, _, _, rfl, rfl, sm _ _ h1, hy, small _ (by rw [hl, List.length_singleton]; omega), fun o no => ?_⟩
      have so : Same H' (upd H' o (.lst ([.ref p0] ++ ys))) := same_upd no
      have F0 : FSt (upd H' o (.lst ([.ref p0] ++ ys))) o (C 0) k ([.ref p0] ++ ys) := by
        refine ⟨upd_same, by rw [List.length_append, hl, List.length_singleton]; omega, fun j hj => ?_⟩
        cases j with
        | zero => exact ⟨.ref p0, rfl, p0, rfl, ne_of_none (sm _ _ h0) no, so _ _ (sm _ _ h0)⟩
        | succ j =>
          have hjl : j < ys.length := by omega
          obtain ⟨a, e, na, ha⟩ := hall ys[j] (List.getElem_mem hjl)
          refine ⟨ys[j], ?_, a, e, ne_of_none ha no, so _ _ ha⟩
          show ys[j]? = _
          exact List.getElem?_eq_getElem hjl
      have sH : Same H (upd H' o (.lst ([.ref p0] ++ ys))) := (s1.trans sm).trans so
      have nHo : H o = none := s1.free (sm.free no)
      generalize upd H' o (.lst ([.ref p0] ++ ys)) = H2 at *
      generalize [.ref p0] ++ ys = fs0 at *
      -- for beat in range(many)
      refine ⟨.int n, rfl, (n : Int), rfl, by omega, by omega, ?_⟩
      rw [Int.toNat_natCast]
      refine for_range (lo := 0) (n := n) (fun b σ H' => ∃ y3 y4 fs, σ = [some (.int (n : Int)), some (.int (k : Int)), some (.ref o), y3, y4, none, none] ∧ Same H H' ∧ FSt H' o (C b) k fs) ⟨none, none, fs0, rfl, sH, F0⟩ (fun b σ H3 hb h => ?_) (fun σ H3 h => ?_)
      · obtain ⟨y3, y4, fs, rfl, sm3, Fb⟩ := h
        rw [show (0 : Int) + (b : Int) = (b : Int) by omega]
        have rg : RgC (k : Int) 0 (-1) k := by
          have z := RgC.neg (i := (k : Int)) (j := 0) (by omega) (by omega) (by omega) (by omega)
          rw [show ((k : Int) - 0).toNat = k by omega] at z
          exact z
        refine ⟨.int k, rfl, 1, rfl, (k : Int), 0, -1, k, rfl, rg, ?_⟩
        refine for_rangeC (lo := (k : Int)) (c := -1) (n := k) (fun i σ H' => ∃ y4 fs, σ = [some (.int (n : Int)), some (.int (k : Int)), some (.ref o), some (.int (b : Int)), y4, none, none] ∧ Same H H' ∧ FSt H' o (fun j => if k - i < j then C (b + 1) j else C b j) k fs)
          ⟨y4, fs, rfl, sm3, Fb.congr fun j hj => by rw [if_neg (by omega)]⟩ (fun i σ H4 hi h => ?_) (fun σ H4 h => ?_)
        · obtain ⟨y4, fs, rfl, sm4, Fi⟩ := h
          obtain ⟨j, hj⟩ : ∃ j, k - i = j + 1 := ⟨k - i - 1, by omega⟩
          rw [show (k : Int) + (i : Int) * (-1) = ((j + 1 : Nat) : Int) by omega]
          obtain ⟨v1, hv1, a1, rfl, na1, ha1⟩ := Fi.it (j + 1) (by omega)
          obtain ⟨v2, hv2, a2, rfl, na2, ha2⟩ := Fi.it j (by omega)
          rw [if_neg (by omega)] at ha1 ha2
          have ln1 := C_len b (j + 1)
          have ln2 := C_len b j
          have p2 : 2 ^ b ≤ 256 := Nat.pow_le_pow_right (n := 2) (by decide) (show b ≤ 8 by omega)
          refine ⟨.ref o, rfl, .int ((j + 1 : Nat) : Int), rfl, o, fs, _, _, rfl, rfl, SqL.of Fi.ob, atI_nat hv1, ?_⟩
          refine lc_lst (R := IsV V.int) (G := IsV V.int) (fun ms => ms = C b j) (fun x : Int => x + (1 : Int) * 2 ^ b) (stays_is _) (stays_is _)
            (fun Q' h => ⟨.ref o, rfl, .int ((j + 1 : Nat) : Int), rfl, _, 1, rfl, rfl, o, fs, _, _, rfl, rfl, SqL.of Fi.ob, at_of (j := j) (by omega) hv2, h H4 a2 _ _ rfl (Same.refl _) ha2 (map_is _)⟩) (fun ms e => by rw [e]; omega)
            (fun ms e x m hm H5 s5 hx Q' h => ?_) (fun _ => rfl) (fun ms D5 H5 zs e s5 nD5 hD5 hR => ?_)
          · obtain rfl : x = V.int m := hx
            exact ⟨.int m, rfl, .int (b : Int), rfl, 1, (b : Int), rfl, rfl, ⟨by omega, by omega, by decide⟩, m, _, rfl, rfl, h _ _ (Same.refl _) rfl⟩
          · subst e
            rw [is_map hR] at hD5
            refine ⟨a1, D5, _, _, rfl, rfl, s5 _ _ ha1, hD5, small _ (by rw [List.length_map, List.length_map, List.length_map]; omega), fun p np => ?_⟩
            rw [← List.map_append]
            have F2 := Fi.put (new := C b (j + 1) ++ (C b j).map fun x : Int => x + (1 : Int) * 2 ^ b) (j := j + 1) s5 np (by omega)
            have so5 := s5 _ _ Fi.ob
            have npo : o ≠ p := ne_of_none so5 np
            refine ⟨.ref o, rfl, .int ((j + 1 : Nat) : Int), rfl, o, fs, _, j + 1, rfl, rfl, by rw [upd_ne npo]; exact so5, ixN_nat (by rw [Fi.len]; omega), ?_⟩
            refine ⟨_, _, rfl, ?_, F2.congr fun i' hi' => ?_⟩
            · exact same_over ((sm4.trans s5).trans (same_upd np)) nHo
            · by_cases c : i' = j + 1
              · rw [if_pos c, c, if_pos (by omega)]
                rfl
              · rw [if_neg c]
                by_cases c2 : k - i < i'
                · rw [if_pos c2, if_pos (by omega)]
                · rw [if_neg c2, if_neg (by omega)]
        · obtain ⟨y4, fs, rfl, sm4, Fi⟩ := h
          refine ⟨_, _, fs, rfl, sm4, Fi.congr fun j hj => ?_⟩
          rw [Nat.sub_self]
          cases j with
          | zero => rw [if_neg (by decide)]; rfl
          | succ j => rw [if_pos (by omega)]
      · obtain ⟨y3, y4, fs, rfl, sm3, Fb⟩ := h
        obtain ⟨v1, hv1, a1, rfl, na1, ha1⟩ := Fb.it k (Nat.le_refl _)
        refine ⟨.ref o, rfl, .int k, rfl, o, fs, _, _, rfl, rfl, SqL.of Fb.ob, atI_nat hv1, a1, C n k, rfl, SqL.of ha1, fun ns' p perm srt np => ?_⟩
        exact q _ p ns' (sm3.trans (same_upd np)) upd_same perm
abbrev sStoriesWith : Stmt := topS 36
theorem scStoriesWith : FnScope ["many", "silent", "found", "whole", "less", "number"] ["many", "silent"] (defScope sStoriesWith) := ⟨rfl, rfl, rfl, by decide +kernel, rfl, by decide +kernel, by decide +kernel⟩
theorem ok_stories_with {f : Addr} {fd : FuncData} (F : Fun K "stories_with" "stories_with" sStoriesWith f fd) (T : Txt K mg t1 t2 t3 t4 aW) (DSilentChoices : Def P w K mg base 2 "silent_choices" ["many", "silent"] spChosen)
    (DBeatsChosen : Def P w K mg base 1 "beats_chosen" ["many", "silent"] spBeats) (DStoryBy : Def P w K mg base 2 "story_by" ["number"] spStoryBy) : FnOk P w K mg base CX0 3 f fd ["many", "silent"] spStoriesWith := by
  refine F.ok scStoriesWith (fun vs H Q E h => ?_) (fun cdv A outer s H vs Q E hr h => ?_)
  · obtain ⟨n, k, rfl, _⟩ := h
    rfl
  · obtain ⟨n, k, rfl, hn, hk, q⟩ := h
    refine ⟨_, (pss_cons (ps_set (i := 2) scStoriesWith.nd rfl (Or.inl rfl) (pe_callD DSilentChoices hr (pa_cons (pv 0) (pa_cons (pv 1) pa_nil))))
      (pss_cons (ps_if (pt_cmpR op_gt (pv 2) (pe_glob (v := .int 300) rfl T.c_MOST_TOLD ⟨_, rfl⟩) (nomark _))
        (pss_one ps_never)
        pss_nil)
      (pss_cons (ps_if (pt_cmpR op_eq (pv 2) pe_int (nomark _))
        (pss_one (ps_ret (pe_lst pa_nil)))
        pss_nil)
      (pss_cons (ps_if (pt_cmpR op_gt (pe_op op_mulW pe_int (pv 1)) (pv 0) (nomark _))
        (pss_cons (ps_set (i := 3) scStoriesWith.nd rfl (Or.inr rfl) (pe_op op_sub (pe_op op_shl pe_int (pv 0)) pe_int))
        (pss_one (ps_ret (pe_lc (own := [("number", 5)]) (g := (gName 5)) (tt := tYes) rfl scStoriesWith.nd (pi_list (pe_callB cr_sortedI (by rfl) T.m_sorted b_sorted (pa_cons (pe_lc (own := [("less", 4)]) (g := (gName 4)) (tt := tYes) rfl scStoriesWith.nd (pi_list (pe_callD DBeatsChosen hr (pa_cons (pv 0) (pa_cons (pe_op op_sub (pv 0) (pv 1)) pa_nil)))) (blkOk_by (own := [("less", 4)]) (N := ["many", "silent", "found", "whole", "less", "number"]) (sc := defScope sStoriesWith) (by decide +kernel)) (fun _ _ _ _ _ => (pg_name (i := 4) scStoriesWith.nd rfl (Or.inl rfl))) (fun _ _ _ _ _ => pts_nil) (fun _ _ _ _ _ => (pe_op op_sub (pv 3) (pv 4)))) pa_nil))) (blkOk_by (own := [("number", 5)]) (N := ["many", "silent", "found", "whole", "less", "number"]) (sc := defScope sStoriesWith) (by decide +kernel)) (fun _ _ _ _ _ => (pg_name (i := 5) scStoriesWith.nd rfl (Or.inl rfl))) (fun _ _ _ _ _ => pts_nil) (fun _ _ _ _ _ => (pe_callD DStoryBy hr (pa_cons (pv 5) pa_nil)))))))
        pss_nil)
      (pss_one (ps_ret (pe_lc (own := [("number", 5)]) (g := (gName 5)) (tt := tYes) rfl scStoriesWith.nd (pi_list (pe_callD DBeatsChosen hr (pa_cons (pv 0) (pa_cons (pv 1) pa_nil)))) (blkOk_by (own := [("number", 5)]) (N := ["many", "silent", "found", "whole", "less", "number"]) (sc := defScope sStoriesWith) (by decide +kernel)) (fun _ _ _ _ _ => (pg_name (i := 5) scStoriesWith.nd rfl (Or.inl rfl))) (fun _ _ _ _ _ => pts_nil) (fun _ _ _ _ _ => (pe_callD DStoryBy hr (pa_cons (pv 5) pa_nil)))))))))), ?_⟩
    have b1 := chF_ok n hn k (by omega)
    have p2 : 2 ^ n ≤ 256 := Nat.pow_le_pow_right (n := 2) (by decide) hn
    refine ⟨.int n, rfl, .int k, rfl, n, k, rfl, hn, hk, ?_⟩
    refine ⟨.int (chF n k), rfl, chF n k, 300, rfl, rfl, _, rfl, ifF (decide_eq_false (by omega)) ?_⟩
    refine ⟨.int (chF n k), rfl, rfl, _, rfl, ifF (decide_eq_false fun z => b1.2.2 hk (V.int.inj z)) ?_⟩
    have m2 : CMulW 2 (k : Int) := wide_mul (a := 20) (b := 20) (by decide) (by omega) (by decide) (by decide) (by decide)
    refine ⟨.int k, rfl, 2, (k : Int), rfl, rfl, m2, .int n, rfl, 2 * (k : Int), (n : Int), rfl, rfl, _, rfl, ite2 (fun c => ?_) (fun c => ?_)⟩
    · have c' : n < 2 * k := by
        have := of_decide_eq_true c
        omega
      have eW : (1 : Int) * 2 ^ ((n : Int)).toNat - 1 = ((2 ^ n - 1 : Nat) : Int) := by
        have z : ((2 ^ n : Nat) : Int) = (2 : Int) ^ n := by rw [Int.natCast_pow]; rfl
        have z2 : 0 < 2 ^ n := Nat.pow_pos (by decide)
        rw [Int.toNat_natCast, Int.one_mul]
        omega
      refine rd_seq (rd_asg ⟨.int n, rfl, 1, (n : Int), rfl, rfl, ⟨by omega, by omega, by decide⟩, _, 1, rfl, rfl, ?_⟩)
      refine rd_name ?_
      dsimp only
      rw [eW]
      refine rd_ret ?_
      have back : ∀ m : Int, m ∈ (C n (n - k)).map (fun x : Int => ((2 ^ n - 1 : Nat) : Int) - x) → ∃ m' : Nat, m = (m' : Int) ∧ m' < 256 := fun m hm => by
        obtain ⟨x, hx, rfl⟩ := List.mem_map.mp hm
        obtain ⟨y, rfl, hy⟩ := C_bd n (n - k) x hx
        exact ⟨2 ^ n - 1 - y, by omega, by omega⟩
      refine lc_lst (R := HasNum) (G := IsV V.int) (fun ms => ms.Perm ((C n (n - k)).map (fun x : Int => ((2 ^ n - 1 : Nat) : Int) - x))) (id : Int → Int) stays_num (stays_is _) (fun Q' h => ?_) (fun ms e => ?_) (fun ms e x m hm H2 s2 hx Q' h => ?_) (fun _ => rfl) (fun ms D H2 ys e s2 nD hD hR => ?_)
      · refine rd_cb (rd_cons ?_)
        refine lc_lst (R := IsV V.int) (G := IsV V.int) (fun ms => ms.Perm (C n (n - k))) (fun x : Int => ((2 ^ n - 1 : Nat) : Int) - x) (stays_is _) (stays_is _) (fun Q2 h2 => ?_) (fun ms e => ?_) (fun ms e x m hm H2 s2 hx Q2 h2 => ?_) (fun _ => rfl) (fun ms D H2 ys e s2 nD hD hR => ?_)
        · refine ⟨.int n, rfl, .int n, rfl, .int k, rfl, n, k, rfl, rfl, n, n - k, ?_, hn, by omega, fun H3 a ns s3 ha perm => h2 H3 a _ ns perm s3 ha (map_is _)⟩
          show [V.int n, V.int ((n : Int) - (k : Int))] = [V.int n, V.int ((n - k : Nat) : Int)]
          rw [show (n : Int) - (k : Int) = ((n - k : Nat) : Int) by omega]
        · have := C_len n (n - k)
          rw [e.length_eq]
          omega
        · obtain rfl : x = V.int m := hx
          exact ⟨_, rfl, .int m, rfl, _, m, rfl, rfl, h2 _ _ (Same.refl _) rfl⟩
        · rw [is_map hR] at hD
          refine ⟨D, _, rfl, SqL.of hD, fun ns' p perm srt np => ?_⟩
          exact h _ p _ ns' (perm.trans (e.map _)) (s2.trans (same_upd np)) upd_same (map_is _)
      · have := C_len n (n - k)
        rw [e.length_eq, List.length_map]
        omega
      · obtain rfl : x = V.int m := hx
        obtain ⟨m', rfl, hm'⟩ := back m (e.mem_iff.mp hm)
        exact ⟨_, rfl, m', rfl, by omega, fun H3 y r s3 hy hr2 => h y H3 s3 ⟨m', r, rfl, hy, hr2⟩⟩
      · rw [List.map_id] at hR
        refine q H2 D ys ms s2 hD hR fun m hm hc => e.mem_iff.mpr (List.mem_map.mpr ⟨((2 ^ n - 1 - m : Nat) : Int), C_has n (n - k) (2 ^ n - 1 - m) (by omega) ?_, by omega⟩)
        rw [cnt_flip hm, hc]
        omega
    · refine rd_next ?_
      dsimp only
      refine rd_ret ?_
      refine lc_lst (R := HasNum) (G := IsV V.int) (fun ms => ms.Perm (C n k)) (id : Int → Int) stays_num (stays_is _) (fun Q' h => ?_) (fun ms e => ?_) (fun ms e x m hm H2 s2 hx Q' h => ?_) (fun _ => rfl) (fun ms D H2 ys e s2 nD hD hR => ?_)
      · exact ⟨.int n, rfl, .int k, rfl, n, k, rfl, hn, by omega, fun H3 a ns s3 ha perm => h H3 a _ ns perm s3 ha (map_is _)⟩
      · have := C_len n k
        rw [e.length_eq]
        omega
      · obtain rfl : x = V.int m := hx
        obtain ⟨m', rfl, hm'⟩ := C_bd n k m (e.mem_iff.mp hm)
        exact ⟨_, rfl, m', rfl, by omega, fun H3 y r s3 hy hr2 => h y H3 s3 ⟨m', r, rfl, hy, hr2⟩⟩
      · rw [List.map_id] at hR
        exact q H2 D ys ms s2 hD hR fun m hm hc => e.mem_iff.mpr (C_has n k m hm hc)
end
end Kp

namespace Kp
open PySem PySem.Spec PyProof.Rows L2
open KpS (wd)
/-- a tuple of looks -/
def LksV (H : Hp) (v : V) (L : List Lk) : Prop := ∃ a xs, v = .ref a ∧ H a = some (.tup xs) ∧ Paired (LkV H) xs L
theorem LkV.same {H H' : Hp} (s : Same H H') {v : V} {l : Lk} (h : LkV H v l) : LkV H' v l := stays_lk.same s h
theorem lks_same {H H' : Hp} (s : Same H H') {xs : List V} {L : List Lk} (h : Paired (LkV H) xs L) : Paired (LkV H') xs L := Paired.imp (fun _ _ z => LkV.same s z) h
theorem lks_over {H : Hp} {p : Addr} {o : HO} {xs : List V} (h : H p = some (.lst xs)) {l : List V} {s : List Lk} (z : Paired (LkV H) l s) : Paired (LkV (upd H p o)) l s := Paired.imp (fun v b q => by
  obtain ⟨t, rfl, e⟩ := q
  exact ⟨t, rfl, by rw [upd_ne (ne_of e h (by intro q; cases q))]; exact e⟩) z
theorem LksV.same {H H' : Hp} (s : Same H H') {v : V} {L : List Lk} (h : LksV H v L) : LksV H' v L := by
  obtain ⟨a, xs, e, h1, h2⟩ := h
  exact ⟨a, xs, e, s _ _ h1, lks_same s h2⟩
structure LksOk (L : List Lk) : Prop where
  len : L.length ≤ 12
  rng : ∀ l ∈ L, 0 ≤ l.1 ∧ l.1 < 1000000
def spIsLook : Sp := fun vs H Q _ => ∃ (v : V) (l : Lk), vs = [v] ∧ LkV H v l ∧ 0 ≤ l.1 ∧ l.1 < 1000000 ∧ Q (.bl true) H
def spAreLooks : Sp := fun vs H Q _ => ∃ (v : V) (L : List Lk), vs = [v] ∧ LksV H v L ∧ LksOk L ∧ ∀ H', Same H H' → Q (.bl true) H'
def spHolds : Sp := fun vs H Q _ => ∃ (v u : V) (s : Sty) (L : List Lk), vs = [v, u] ∧ StV H v s ∧ s.length ≤ 1000 ∧ LksV H u L ∧ LksOk L ∧ (∀ l ∈ L, sil s l.1 = !l.2) ∧ ∀ H', Same H H' → Q (.bl true) H'
def spStoryFor : Sp := fun vs H Q _ => ∃ (v : V) (L : List Lk) (r : Sty), vs = [v] ∧ LksV H v L ∧ LksOk L ∧ (∀ L' : List Lk, L'.Perm L → L'.Pairwise lkLe → sfRun L' ([], true) = some (r, true)) ∧ ∀ H' y, Same H H' → StV H' y r → Q y H'
theorem wd_in : ∀ b : Bool, inV (.str (wd b)) [.str "silent", .str "sound"] = true := by decide +kernel
theorem wd_so : ∀ b : Bool, decide (V.str (wd b) = V.str "sound") = b := by decide +kernel
theorem wd_si : ∀ b : Bool, decide (V.str (wd b) = V.str "silent") = !b := by decide +kernel
theorem words_at {K : PySem.W.Frag} {mg : Str → Option Value} {t1 t2 t3 t4 : Tok} {aW : Addr} (T : Txt K mg t1 t2 t3 t4 aW) (H : Hp) : SqT K H aW [.str "silent", .str "sound"] := by
  obtain ⟨od, n, sl, u1, u2, e⟩ := T.w_WORDS
  exact .inr ⟨_, _, n, e, rfl, rfl, small 2 (by decide), .cons ⟨u1, rfl⟩ (.cons ⟨u2, rfl⟩ .nil)⟩
section
variable {K : PySem.W.Frag} {σ : L2.St} {H : Hp} {Q : VK} {te : TE} {vs : List Nat} {β γ : Type} {R : Hp → V → β → Prop}
/-- [e for x, y in t], t a tuple of pairs of any kind -/
theorem lc_two {tl : TE} {a : Addr} {xs : List V} {s : List γ} {i j : Nat} (g1 g2 : γ → V) (f : γ → β) (S : Stays R) (hv : ∀ Q' : VK, ∀ H0, Same H H0 → Q' (.ref a) H0 → tl σ H0 Q') {H0 : Hp} (h0 : Same H H0)
    (ha : H0 a = some (.tup xs)) (hp : Paired (fun v m => ∃ t, v = V.ref t ∧ H0 t = some (.tup [g1 m, g2 m])) xs s) (hlen : s.length < 16777216)
    (he : ∀ p ∈ s, ∀ (H' : Hp) (Q' : VK), Same H0 H' → (∀ v H'', Same H' H'' → R H'' v (f p) → Q' v H'') → te (((wipe σ vs).set i (some (g1 p))).set j (some (g2 p))) H' Q')
    (hw : ∀ x y, wipe (((wipe σ vs).set i x).set j y) vs = wipe σ vs)
    (hd : ∀ (D : Addr) (H' : Hp) (ys : List V), Same H0 H' → H0 D = none → H' D = some (.lst ys) → Paired (R H') ys (s.map f) → Q (.ref D) H') :
    tLc (iTup K tl) (gTup K 2 (gCons (gName i) (gCons (gName j) gNil))) tYes te vs σ H0 Q := by
  refine hv _ H0 h0 ⟨a, rfl, ⟨xs, SqT.of ha⟩, fun D hD => ?_⟩
  have hl : xs.length = s.length := Paired.len hp
  refine lc_tup (K := K) (a := a) (xs := xs) (fun n H' => Same H0 H' ∧ ∃ ys, H' D = some (.lst ys) ∧ Paired (R H') ys ((s.take n).map f)) ⟨same_upd hD, [], upd_same, .nil⟩ (fun n H' _ h => SqT.of (h.1 _ _ ha)) (fun n x H' hx h => ?_) (fun H' h => ?_)
  · obtain ⟨sm, ys, hy, hR⟩ := h
    obtain ⟨p, hsp, t, rfl, htp⟩ := Paired.get hp hx
    have hm : p ∈ s := List.mem_of_getElem? hsp
    refine ⟨t, _, rfl, SqT.of (sm _ _ htp), rfl, _, _, rfl, _, _, rfl, rfl, hw _ _, yes_if (he p hm H' _ sm fun v H'' s2 hv2 => ?_)⟩
    have hy2 := s2 _ _ hy
    have hln : ys.length < 16777216 := by
      rw [Paired.len hR, List.length_map, List.length_take]
      omega
    refine ⟨ys, hy2, smallL _ hln, same_over (sm.trans s2) hD, ys ++ [v], upd_same, ?_⟩
    rw [take_snoc hsp, List.map_append]
    exact pair_snoc (Paired.imp (fun _ _ z => S.over hy2 (S.same s2 z)) hR) (S.over hy2 hv2)
  · obtain ⟨sm, ys, hy, hR⟩ := h
    rw [hl, List.take_length] at hR
    exact hd D H' ys sm hD hy hR
end
section
variable {P : Program} {w : World} {K : PySem.W.Frag} {mg : Str → Option Value} {base : Heap} {t1 t2 t3 t4 : Tok} {aW : Addr}
abbrev sIsLook : Stmt := topS 37
theorem scIsLook : FnScope ["thing"] ["thing"] (defScope sIsLook) := ⟨rfl, rfl, rfl, by decide +kernel, rfl, by decide +kernel, by decide +kernel⟩
theorem ok_is_look {f : Addr} {fd : FuncData} (F : Fun K "is_look" "is_look" sIsLook f fd) (T : Txt K mg t1 t2 t3 t4 aW) (DIsBeat : Def P w K mg base 2 "is_beat" ["thing"] spIsBeat) : FnOk P w K mg base CX0 3 f fd ["thing"] spIsLook := by
  refine F.ok scIsLook (fun vs H Q E h => ?_) (fun cdv A outer s H vs Q E hr h => ?_)
  · obtain ⟨v, l, rfl, _⟩ := h
    rfl
  · obtain ⟨v, l, rfl, ⟨t, rfl, ht⟩, h0, h1, q⟩ := h
    refine ⟨_, (pss_cons (ps_if (PW.pt (pw_or (pt_not (pt_val (pe_callB call_isi (by rfl) T.m_isinstance b_isinstance (pa_cons (pv 0) (pa_cons (pe_bltn (v := .ty "tuple") rfl T.m_tuple b_tuple rfl) pa_nil))))) (pw_or (pt_cmpR op_ne (pe_callB call_len_seq (by rfl) T.m_len b_len (pa_cons (pv 0) pa_nil)) pe_int (nomark _)) (pw_or (pt_not (pt_val (pe_callD DIsBeat hr (pa_cons (pe_ix ix_tup (pv 0) pe_int (fun _ _ => rfl)) pa_nil)))) (pw_or1 (pt_cmpR op_eq (pe_ix ix_tup (pv 0) pe_int (fun _ _ => rfl)) (pe_glob (v := .int 1000000) rfl T.c_MOST_BEAT ⟨_, rfl⟩) (nomark _)))))))
        (pss_one (ps_ret pe_bl))
        pss_nil)
      (pss_one (ps_ret (pe_and (pe_callB call_isi (by rfl) T.m_isinstance b_isinstance (pa_cons (pe_ix ix_tup (pv 0) pe_int (fun _ _ => rfl)) (pa_cons (pe_bltn (v := .ty "str") rfl T.m_str b_str rfl) pa_nil))) (pe_one (pe_cmpR op_in_seq (pe_ix ix_tup (pv 0) pe_int (fun _ _ => rfl)) (pe_glob (v := .ref aW) rfl T.c_WORDS rfl) (by rfl))))))), ?_⟩
    have hs : SqT K H t [.int l.1, .str (wd l.2)] := SqT.of ht
    refine ⟨.ref t, rfl, .ref t, .ty "tuple", .type "tuple", .type "tuple", true, rfl, .ty _, .base (.tup ht), kit_ty kit_tt, true, rfl, ifF rfl ?_⟩
    refine ⟨.ref t, rfl, t, _, rfl, .inr hs, rfl, _, rfl, ifF rfl ?_⟩
    refine ⟨.ref t, rfl, t, _, _, .int l.1, rfl, rfl, hs, atI_nat (j := 0) rfl, l.1, rfl, h0, by omega, true, rfl, ifF rfl ?_⟩
    refine ⟨.ref t, rfl, t, _, _, .int l.1, rfl, rfl, hs, atI_nat (j := 0) rfl, rfl, _, rfl, ifF (decide_eq_false fun z => ?_) ?_⟩
    · have := V.int.inj z
      omega
    · refine ⟨.ref t, rfl, t, _, _, .str (wd l.2), rfl, rfl, hs, atI_nat (j := 1) rfl, .str (wd l.2), .ty "str", .type "str", .type "str", true, rfl, .ty _, .base (.str _), kit_ty kit_ss, true, rfl, iteT ?_⟩
      refine ⟨.ref t, rfl, t, _, _, .str (wd l.2), rfl, rfl, hs, atI_nat (j := 1) rfl, aW, _, rfl, .inr (words_at T H), rfl, rfl, ?_⟩
      show Q (.bl (inV (.str (wd l.2)) [.str "silent", .str "sound"])) H
      rw [wd_in]
      exact q
abbrev sAreLooks : Stmt := topS 38
theorem scAreLooks : FnScope ["thing", "one"] ["thing"] (defScope sAreLooks) := ⟨rfl, rfl, rfl, by decide +kernel, rfl, by decide +kernel, by decide +kernel⟩
theorem ok_are_looks {f : Addr} {fd : FuncData} (F : Fun K "are_looks" "are_looks" sAreLooks f fd) (T : Txt K mg t1 t2 t3 t4 aW) (DIsLook : Def P w K mg base 3 "is_look" ["thing"] spIsLook) : FnOk P w K mg base CX0 4 f fd ["thing"] spAreLooks := by
  refine F.ok scAreLooks (fun vs H Q E h => ?_) (fun cdv A outer s H vs Q E hr h => ?_)
  · obtain ⟨v, L, rfl, _⟩ := h
    rfl
  · obtain ⟨v, L, rfl, ⟨a, xs, rfl, ha, hp⟩, hok, q⟩ := h
    refine ⟨_, (pss_one (ps_ret (pe_and (pe_callB call_isi (by rfl) T.m_isinstance b_isinstance (pa_cons (pv 0) (pa_cons (pe_bltn (v := .ty "tuple") rfl T.m_tuple b_tuple rfl) pa_nil))) (pe_and (pe_cmpR op_le (pe_callB call_len_seq (by rfl) T.m_len b_len (pa_cons (pv 0) pa_nil)) (pe_glob (v := .int 12) rfl T.c_MOST_LOOKS ⟨_, rfl⟩) (nomark _)) (pe_one (pe_callB (cr_all rfl) (by rfl) T.m_all b_all (pa_cons (pe_lc (own := [("one", 1)]) (g := (gName 1)) (tt := tYes) rfl scAreLooks.nd (pi_tup (pv 0)) (blkOk_by (own := [("one", 1)]) (N := ["thing", "one"]) (sc := defScope sAreLooks) (by decide +kernel)) (fun _ _ _ _ _ => (pg_name (i := 1) scAreLooks.nd rfl (Or.inl rfl))) (fun _ _ _ _ _ => pts_nil) (fun _ _ _ _ _ => (pe_callD DIsLook hr (pa_cons (pv 1) pa_nil)))) pa_nil))))))), ?_⟩
    have l1 := Paired.len hp
    have l2 := hok.len
    refine ⟨.ref a, rfl, .ref a, .ty "tuple", .type "tuple", .type "tuple", true, rfl, .ty _, .base (.tup ha), kit_ty kit_tt, true, rfl, iteT ?_⟩
    refine ⟨.ref a, rfl, a, xs, rfl, .inr (SqT.of ha), _, 12, rfl, rfl, _, rfl, ifT (decide_eq_true (by omega)) ?_⟩
    refine rd_cb (rd_cons ?_)
    refine lc_tpl (R := IsV V.bl) (G := LkV) (fun ms => ms = L) (fun _ : Lk => true) (stays_is _) stays_lk (fun Q' h => ⟨.ref a, rfl, h H a xs L rfl (Same.refl _) ha hp⟩) (fun ms e => by rw [e]; omega) (fun ms e x l hlm H2 s2 hx Q' h => ?_) (fun _ => rfl) (fun ms D H2 ys e s2 nD hD hR => ?_)
    · subst e
      have h1 := hok.rng l hlm
      exact ⟨x, rfl, x, l, rfl, hx, h1.1, h1.2, h _ _ (Same.refl _) rfl⟩
    · subst e
      refine ⟨D, ms.map fun _ => true, rfl, SqL.of (by rw [hD, is_map hR]), ?_⟩
      have e1 : ((ms.map fun _ : Lk => true).all id) = true := by
        rw [all_map_id, List.all_eq_true]
        exact fun _ _ => rfl
      rw [e1]
      exact q _ s2
abbrev sHolds : Stmt := topS 39
theorem scHolds : FnScope ["story", "thing", "beat", "word"] ["story", "thing"] (defScope sHolds) := ⟨rfl, rfl, rfl, by decide +kernel, rfl, by decide +kernel, by decide +kernel⟩
theorem ok_holds {f : Addr} {fd : FuncData} (F : Fun K "holds" "holds" sHolds f fd) (T : Txt K mg t1 t2 t3 t4 aW) (DAreLooks : Def P w K mg base 4 "are_looks" ["thing"] spAreLooks) (DSilentAt : Def P w K mg base 1 "silent_at" ["story", "beat"] spSilentAt) : FnOk P w K mg base CX0 5 f fd ["story", "thing"] spHolds := by
  refine F.ok scHolds (fun vs H Q E h => ?_) (fun cdv A outer s H vs Q E hr h => ?_)
  · obtain ⟨v, u, s, L, rfl, _⟩ := h
    rfl
  · obtain ⟨v, u, s, L, rfl, hs, hsl, hu, hok, hold, q⟩ := h
    refine ⟨_, (pss_one (ps_ret (pe_and (pe_callD DAreLooks hr (pa_cons (pv 1) pa_nil)) (pe_one (pe_callB (cr_all rfl) (by rfl) T.m_all b_all (pa_cons (pe_lc (own := [("beat", 2), ("word", 3)]) (g := (gTup K 2 (gCons (gName 2) (gCons (gName 3) gNil)))) (tt := tYes) rfl scHolds.nd (pi_tup (pv 1)) (blkOk_by (own := [("beat", 2), ("word", 3)]) (N := ["story", "thing", "beat", "word"]) (sc := defScope sHolds) (by decide +kernel)) (fun _ _ _ _ _ => (pg_tup rfl (pgs_cons (pg_name (i := 2) scHolds.nd rfl (Or.inl rfl)) (pgs_cons (pg_name (i := 3) scHolds.nd rfl (Or.inl rfl)) pgs_nil)))) (fun _ _ _ _ _ => pts_nil) (fun _ _ _ _ _ => (pe_cmpR op_eq (pe_callD DSilentAt hr (pa_cons (pv 0) (pa_cons (pv 2) pa_nil))) (pe_cmpR op_eq (pv 3) pe_str (nomark _)) (nomark _)))) pa_nil)))))), ?_⟩
    refine ⟨u, rfl, u, L, rfl, hu, hok, fun H1 s1 => ⟨true, rfl, iteT ?_⟩⟩
    have l2 := hok.len
    obtain ⟨a, xs, rfl, ha, hp⟩ := hu
    refine rd_cb (rd_cons ?_)
    refine lc_two (R := IsV V.bl) (fun l : Lk => V.int l.1) (fun l : Lk => V.str (wd l.2)) (fun _ : Lk => true) (stays_is _) (fun Q' H0 _ h => ⟨_, rfl, h⟩) s1 (s1 _ _ ha) (lks_same s1 hp) (by omega) (fun l hlm H2 Q' s2 h => ?_) (fun _ _ => rfl) (fun D H2 ys s2 nD hD hR => ?_)
    · refine ⟨v, rfl, .int l.1, rfl, v, s, l.1, rfl, hs.same (s1.trans s2), hsl, fun H3 s3 => ?_⟩
      refine ⟨.str (wd l.2), rfl, rfl, rfl, h _ _ s3 ?_⟩
      show V.bl (decide (V.bl (sil s l.1) = V.bl (decide (V.str (wd l.2) = V.str "silent")))) = V.bl true
      rw [wd_si, hold l hlm, decide_eq_true rfl]
    · refine ⟨D, L.map fun _ => true, rfl, SqL.of (by rw [hD, is_map hR]), ?_⟩
      have e1 : ((L.map fun _ : Lk => true).all id) = true := by
        rw [all_map_id, List.all_eq_true]
        exact fun _ _ => rfl
      rw [e1]
      exact q _ (s1.trans s2)
abbrev sStoryFor : Stmt := topS 40
theorem scStoryFor : FnScope ["looks", "found", "apart", "beat", "word"] ["looks"] (defScope sStoryFor) := ⟨rfl, rfl, rfl, by decide +kernel, rfl, by decide +kernel, by decide +kernel⟩
theorem ok_story_for {f : Addr} {fd : FuncData} (F : Fun K "story_for" "story_for" sStoryFor f fd) (T : Txt K mg t1 t2 t3 t4 aW) (DAreLooks : Def P w K mg base 4 "are_looks" ["thing"] spAreLooks) : FnOk P w K mg base CX0 5 f fd ["looks"] spStoryFor := by
  refine F.ok scStoryFor (fun vs H Q E h => ?_) (fun cdv A outer s H vs Q E hr h => ?_)
  · obtain ⟨v, L, r, rfl, _⟩ := h
    rfl
  · obtain ⟨v, L, r, rfl, hv, hok, hrun, q⟩ := h
    refine ⟨_, (pss_cons (ps_if (pt_not (pt_val (pe_callD DAreLooks hr (pa_cons (pv 0) pa_nil))))
        (pss_one ps_never)
        pss_nil)
      (pss_cons (ps_set (i := 1) scStoryFor.nd rfl (Or.inl rfl) (pe_lst pa_nil))
      (pss_cons (ps_set (i := 2) scStoryFor.nd rfl (Or.inl rfl) pe_bl)
      (pss_cons (ps_for PassesOwn.never rfl (pi_list (pe_callB cr_sortedLk (by rfl) T.m_sorted b_sorted (pa_cons (pv 0) pa_nil))) (pg_tup rfl (pgs_cons (pg_name (i := 3) scStoryFor.nd rfl (Or.inl rfl)) (pgs_cons (pg_name (i := 4) scStoryFor.nd rfl (Or.inl rfl)) pgs_nil)))
        (pss_one (ps_if (pt_cmpR op_eq (pv 4) pe_str (nomark _))
          (pss_cons (ps_if (PW.pt (pw_and (pt_cmpR (op_neD hr.units) (pv 1) (pe_lst pa_nil) (nomark _)) (pw_and1 (pt_cmpR op_gt (pe_ix ix_tup (pe_ix ix_list (pv 1) (pe_un un_neg pe_int) (fun _ _ => rfl)) pe_int (fun _ _ => rfl)) (pv 3) (nomark _)))))
            (pss_one (ps_ret pe_non))
            pss_nil)
          (pss_one (ps_set (i := 2) scStoryFor.nd rfl (Or.inl rfl) pe_bl)))
          (pss_one (ps_if (pt_val (pv 2))
            (pss_cons (ps_expr (pe_bm PySem.F.plainAttrs_list PySem.F.slot_list_append PySem.F.type_list_append mt_append (pv 1) (pa_cons (pe_tup (pa_cons (pv 3) (pa_cons (pe_op op_add (pv 3) pe_int) pa_nil))) pa_nil)))
            (pss_one (ps_set (i := 2) scStoryFor.nd rfl (Or.inl rfl) pe_bl)))
            (pss_one (ps_asg (pe_tup (pa_cons (pe_ix ix_tup (pe_ix ix_list (pv 1) (pe_un un_neg pe_int) (fun _ _ => rfl)) pe_int (fun _ _ => rfl)) (pa_cons (pe_op op_add (pv 3) pe_int) pa_nil))) (pg_sub (pv 1) (pe_un un_neg pe_int) set_list))))))))
      (pss_one (ps_ret (pe_callTy call_tuple_of (by rfl) T.m_tuple b_tuple (pa_cons (pv 1) pa_nil)))))))), ?_⟩
    have l2 := hok.len
    refine ⟨v, rfl, v, L, rfl, hv, hok, fun H1 s1 => ⟨true, rfl, ifF rfl ?_⟩⟩
    obtain ⟨a, xs, rfl, ha, hp⟩ := hv
    refine ⟨Nat.zero_le _, fun o no => ?_⟩
    have s2 : Same H (upd H1 o (.lst [])) := s1.trans (same_upd no)
    -- apart = True; sorted(looks)
    refine ⟨.ref a, rfl, a, xs, L, rfl, .inr (SqT.of (s2 _ _ ha)), lks_same s2 hp, fun ys L' p perm srt hys np => ?_⟩
    have hr0 := hrun L' perm srt
    have npo : o ≠ p := ne_of_none upd_same np
    have sp : Same (upd H1 o (.lst [])) (upd (upd H1 o (.lst [])) p (.lst ys)) := same_upd np
    have ho3 := sp _ _ (upd_same (H := H1) (a := o) (o := .lst []))
    have hys3 := lks_same sp hys
    have s3 := s2.trans sp
    have nHo : H o = none := s1.free no
    have hp3 : (upd (upd H1 o (.lst [])) p (.lst ys)) p = some (.lst ys) := upd_same
    have lys := Paired.len hys
    have lp := perm.length_eq
    generalize upd (upd H1 o (.lst [])) p (.lst ys) = H3 at *
    refine ⟨p, rfl, ⟨ys, SqL.of hp3⟩, for_list (K := K) (a := p) (xs := ys) (fun i σ H' => ∃ st fs y3 y4, σ = [some (.ref a), some (.ref o), some (.bl st.2), y3, y4] ∧ sfRun (L'.take i) ([], true) = some st ∧ Same H H' ∧ H' p = some (.lst ys) ∧ Paired (LkV H') ys L' ∧ H' o = some (.lst fs) ∧ Paired (PairV H') fs st.1 ∧ fs.length ≤ i)
      ⟨([], true), [], none, none, rfl, rfl, s3, hp3, hys3, ho3, .nil, Nat.le_refl _⟩ (fun i σ H' _ h => ?_) (fun i x σ H' hx h => ?_) (fun σ H' h => ?_)⟩
    · obtain ⟨_, _, _, _, _, _, _, h, _⟩ := h
      exact SqL.of h
    · obtain ⟨st, fs, y3, y4, rfl, hst, sm, hpy, hyy, hfo, hfs, hfl⟩ := h
      obtain ⟨l, hsl, t, rfl, htl⟩ := Paired.get hyy hx
      have hi : i < ys.length := (List.getElem?_eq_some_iff.mp hx).1
      obtain ⟨st', est, hst'⟩ := sfRun_next hr0 hsl hst
      refine ⟨t, _, rfl, SqT.of htl, rfl, _, _, rfl, _, _, rfl, rfl, ?_⟩
      refine ⟨.str (wd l.2), rfl, rfl, _, rfl, ?_⟩
      show (if decide (V.str (wd l.2) = V.str "sound") = true then _ else _)
      rw [wd_so]
      unfold sfStep at est
      cases el : l.2 with
      | true =>
        rw [el] at est
        refine iteT ?_
        -- found != [] and found[-1][1] > beat
        refine ⟨.ref o, rfl, Nat.zero_le _, fun e ne => ?_⟩
        have se : Same H' (upd H' e (.lst [])) := same_upd ne
        have hfo2 := se _ _ hfo
        have hfs2 := pairs_same se hfs
        refine ⟨dL st.1, dL [], dp_list ⟨o, fs, rfl, hfo2, hfs2⟩, dp_list ⟨e, [], rfl, upd_same, .nil⟩, dL_shaped _, dL_shaped _, _, rfl, ?_⟩
        rw [dL_eqv]
        have hyy2 := lks_same se hyy
        have hpy2 := se _ _ hpy
        have sm2 := sm.trans se
        generalize upd H' e (.lst []) = H2 at *
        rcases snoc_cases st.1 with c | ⟨m, z, c⟩
        · rw [c, decide_eq_true (rfl : ([] : Sty) = [])]
          rw [c] at est
          have est : some (([], true) : Sty × Bool) = some st' := est
          obtain rfl := Option.some.inj est
          rw [c] at hfs2
          exact iteF (iteF ⟨_, fs, _, _, rfl, hst', sm2, hpy2, hyy2, hfo2, hfs2, by omega⟩)
        · rw [c, decide_eq_false (by simp)]
          rw [c] at hfs2 est
          have est : (match (m ++ [z]).getLast? with | none => some (m ++ [z], true) | some q => if q.2 > l.1 then none else some (m ++ [z], true)) = some st' := est
          rw [List.getLast?_concat] at est
          have est : (if z.2 > l.1 then none else some (m ++ [z], true)) = some st' := est
          by_cases c2 : z.2 > l.1
          · rw [if_pos c2] at est
            cases est
          · rw [if_neg c2] at est
            obtain rfl := Option.some.inj est
            obtain ⟨l', u, rfl, hl', u', rfl, hu⟩ := Paired.snoc_inv hfs2
            refine iteT ⟨.ref o, rfl, 1, rfl, o, _, _, _, rfl, rfl, SqL.of hfo2, atI_last _ _, u', _, _, .int z.2, rfl, rfl, SqT.of hu, atI_nat (j := 1) rfl, .int l.1, rfl, z.2, l.1, rfl, rfl, _, rfl, ifF (decide_eq_false c2) ?_⟩
            exact ⟨_, _, _, _, rfl, hst', sm2, hpy2, hyy2, hfo2, hfs2, by omega⟩
      | false =>
        rw [el] at est
        refine iteF ?_
        cases ea : st.2 with
        | true =>
          rw [ea] at est
          have est : some ((st.1 ++ [(l.1, l.1 + 1)], false) : Sty × Bool) = some st' := est
          obtain rfl := Option.some.inj est
          refine ⟨.bl true, rfl, true, rfl, iteT ?_⟩
          refine ⟨.ref o, rfl, .inl ⟨rfl, _, SqL.of hfo⟩, .int l.1, rfl, .int l.1, rfl, l.1, 1, rfl, rfl, two _ _, fun d nd => ?_⟩
          have sd : Same H' (upd H' d (.tup [.int l.1, .int (l.1 + 1)])) := same_upd nd
          have hd : PairV (upd H' d (.tup [.int l.1, .int (l.1 + 1)])) (.ref d) (l.1, l.1 + 1) := ⟨d, rfl, upd_same⟩
          have hfo3 := sd _ _ hfo
          refine ⟨o, fs, .ref d, rfl, rfl, hfo3, smallL _ (by omega), _, fs ++ [.ref d], _, _, rfl, hst', same_over (sm.trans sd) nHo, ?_, lks_over hfo3 (lks_same sd hyy), upd_same, pair_snoc (pairs_over hfo3 (pairs_same sd hfs)) (PairV.over hfo3 hd), ?_⟩
          · rw [upd_ne npo.symm]
            exact sd _ _ hpy
          · rw [List.length_append, List.length_singleton]
            omega
        | false =>
          rw [ea] at est
          refine ⟨.bl false, rfl, false, rfl, iteF ?_⟩
          rcases snoc_cases st.1 with c | ⟨m, z, c⟩
          · rw [c] at est
            cases est
          · rw [c] at est hfs
            have est : (match (m ++ [z]).getLast? with | none => none | some q => some ((m ++ [z]).dropLast ++ [(q.1, l.1 + 1)], false)) = some st' := est
            rw [List.getLast?_concat, List.dropLast_concat] at est
            have est : some ((m ++ [(z.1, l.1 + 1)], false) : Sty × Bool) = some st' := est
            obtain rfl := Option.some.inj est
            obtain ⟨l', u, rfl, hl', u', rfl, hu⟩ := Paired.snoc_inv hfs
            refine ⟨.ref o, rfl, 1, rfl, o, _, _, _, rfl, rfl, SqL.of hfo, atI_last _ _, u', _, _, .int z.1, rfl, rfl, SqT.of hu, atI_nat (j := 0) rfl, ?_⟩
            refine ⟨.int l.1, rfl, l.1, 1, rfl, rfl, two _ _, fun d nd => ?_⟩
            have sd : Same H' (upd H' d (.tup [.int z.1, .int (l.1 + 1)])) := same_upd nd
            have hd : PairV (upd H' d (.tup [.int z.1, .int (l.1 + 1)])) (.ref d) (z.1, l.1 + 1) := ⟨d, rfl, upd_same⟩
            have hfo3 := sd _ _ hfo
            refine ⟨.ref o, rfl, 1, rfl, o, _, _, _, rfl, rfl, hfo3, ixN_last _ _, ?_⟩
            rw [set_last]
            refine ⟨_, _, _, _, rfl, hst', same_over (sm.trans sd) nHo, ?_, lks_over hfo3 (lks_same sd hyy), upd_same, pair_snoc (pairs_over hfo3 (pairs_same sd hl')) (PairV.over hfo3 hd), ?_⟩
            · rw [upd_ne npo.symm]
              exact sd _ _ hpy
            · rw [List.length_append, List.length_singleton] at hfl ⊢
              omega
    · obtain ⟨st, fs, y3, y4, rfl, hst, sm, hpy, hyy, hfo, hfs, hfl⟩ := h
      rw [lys, List.take_length, hr0] at hst
      obtain rfl := Option.some.inj hst
      refine ⟨.ref o, rfl, o, fs, rfl, .inl ⟨SqL.of hfo, fun d nd => ?_⟩⟩
      exact q _ _ (sm.trans (same_upd nd)) ⟨d, fs, rfl, upd_same, pairs_same (same_upd nd) hfs⟩
end
end Kp

namespace Kp
open PySem PySem.Spec PyProof.Rows L2
def PenV (H : Hp) (p : Addr) : Prop := ∃ l f s : Int, H p = some (.lst [.int l, .int f, .int s]) ∧ 0 ≤ l ∧ 0 ≤ s ∧ s < 4294967296
/-- all but what stands at p is as it was -/
def SameBut (p : Addr) (H H' : Hp) : Prop := ∀ b o, b ≠ p → H b = some o → H' b = some o
def spCellAt (K : PySem.W.Frag) : Sp := fun vs H Q _ => ∃ (a : Addr) (ns : List Int), vs = [.ref a, .int 0] ∧ SqL K H a (ns.map V.int) ∧ ∀ z : Int, Q (.int z) H
def spNext : Sp := fun vs H Q _ => ∃ s : Int, vs = [.int s] ∧ 0 ≤ s ∧ s < 4294967296 ∧ ∀ r : Int, 0 ≤ r → r < 2147483629 → Q (.int r) H
def spPenOf : Sp := fun vs H Q _ => ∃ c : Int, vs = [.int c] ∧ ∀ H' p, Same H H' → PenV H' p → H p = none → Q (.ref p) H'
def spDraw : Sp := fun vs H Q _ => ∃ (p : Addr) (m : Int), vs = [.ref p, .int m] ∧ PenV H p ∧ 0 < m ∧ m ≤ 16777216 ∧ ∀ H' (r : Int), SameBut p H H' → PenV H' p → 0 ≤ r → r < m → Q (.int r) H'
def spMarks : Sp := fun vs H Q _ => ∃ (v : V) (s : Sty) (n : Nat), vs = [v, .int (n : Int)] ∧ StV H v s ∧ s.length ≤ 1000 ∧ n ≤ 2000 ∧ ∀ H' a, Same H H' → H' a = some (.lst ((marksF s n).map V.bl)) → Q (.ref a) H'
theorem abs_lt {x : Int} {b : Nat} (h0 : 0 ≤ x) (h : x < (b : Int)) : x.natAbs < b := by omega
section
variable {P : Program} {w : World} {K : PySem.W.Frag} {mg : Str → Option Value} {base : Heap} {t1 t2 t3 t4 : Tok} {aW : Addr}
abbrev sLawCellAt : Stmt := topS 42
theorem scLawCellAt : FnScope ["_law_script", "_law_k"] ["_law_script", "_law_k"] (defScope sLawCellAt) := ⟨rfl, rfl, rfl, by decide +kernel, rfl, by decide +kernel, by decide +kernel⟩
theorem ok_cell_at {f : Addr} {fd : FuncData} (F : Fun K "_law_cell_at" "_law_cell_at" sLawCellAt f fd) (T : Txt K mg t1 t2 t3 t4 aW) : FnOk P w K mg base CX0 1 f fd ["_law_script", "_law_k"] (spCellAt K) := by
  refine F.ok scLawCellAt (fun vs H Q E h => ?_) (fun cdv A outer s H vs Q E hr h => ?_)
  · obtain ⟨a, ns, rfl, _⟩ := h
    rfl
  · obtain ⟨a, ns, rfl, ha, q⟩ := h
    refine ⟨_, (pss_cons (ps_if (pt_cmpR op_lt (pv 1) (pe_callB call_len_seq (by rfl) T.m_len b_len (pa_cons (pv 0) pa_nil)) (nomark _))
        (pss_one (ps_ret (pe_ix ix_list (pv 0) (pv 1) (fun _ _ => rfl))))
        pss_nil)
      (pss_one (ps_ret pe_int))), ?_⟩
    refine ⟨.int 0, rfl, .ref a, rfl, a, _, rfl, .inl ha, 0, _, rfl, rfl, _, rfl, ite2 (fun c => ?_) (fun c => ?_)⟩
    · cases ns with
      | nil => exact absurd (of_decide_eq_true c) (by decide)
      | cons z r => exact ⟨.ref a, rfl, .int 0, rfl, a, _, _, .int z, rfl, rfl, ha, atI_nat (j := 0) rfl, q z⟩
    · exact q 0
abbrev sLawNext : Stmt := topS 43
theorem scLawNext : FnScope ["_law_seed"] ["_law_seed"] (defScope sLawNext) := ⟨rfl, rfl, rfl, by decide +kernel, rfl, by decide +kernel, by decide +kernel⟩
theorem ok_next {f : Addr} {fd : FuncData} (F : Fun K "_law_next" "_law_next" sLawNext f fd) : FnOk P w K mg base CX0 1 f fd ["_law_seed"] spNext := by
  refine F.ok scLawNext (fun vs H Q E h => ?_) (fun cdv A outer s H vs Q E hr h => ?_)
  · obtain ⟨z, rfl, _⟩ := h
    rfl
  · obtain ⟨z, rfl, h0, h1, q⟩ := h
    refine ⟨_, (pss_cons (ps_set (i := 0) scLawNext.nd rfl (Or.inl rfl) (pe_op op_mod (pe_op op_add (pv 0) pe_int) pe_int))
      (pss_one (ps_ret (pe_op op_mod (pe_op op_add (pe_op op_add (pe_op op_mulW (pv 0) (pv 0)) (pe_op op_mulW pe_int (pv 0))) pe_int) pe_int)))), ?_⟩
    refine ⟨.int z, rfl, z, 7919, rfl, rfl, _, 2147483647, rfl, rfl, (by show (0 : Int) < 2147483647; decide), ?_⟩
    have b0 : 0 ≤ (z + 7919) % 2147483647 := Int.emod_nonneg _ (by decide)
    have b1 : (z + 7919) % 2147483647 < 2147483647 := Int.emod_lt_of_pos _ (by decide)
    refine rd_name ?_
    dsimp only
    generalize (z + 7919) % 2147483647 = y at *
    have m1 : CMulW y y := wide_mul (a := 40) (b := 40) (by omega) (by omega) (by decide) (by decide) (by decide)
    have m2 : CMulW 48271 y := wide_mul (a := 40) (b := 40) (by decide) (by omega) (by decide) (by decide) (by decide)
    refine ⟨.int y, rfl, .int y, rfl, y, y, rfl, rfl, m1, .int y, rfl, 48271, y, rfl, rfl, m2, _, _, rfl, rfl, _, 12345, rfl, rfl, _, 2147483629, rfl, rfl, (by show (0 : Int) < 2147483629; decide), ?_⟩
    exact q _ (Int.emod_nonneg _ (by decide)) (Int.emod_lt_of_pos _ (by decide))
abbrev sLawPenOf : Stmt := topS 44
theorem scLawPenOf : FnScope ["_law_cell", "_law_left"] ["_law_cell"] (defScope sLawPenOf) := ⟨rfl, rfl, rfl, by decide +kernel, rfl, by decide +kernel, by decide +kernel⟩
theorem ok_pen_of {f : Addr} {fd : FuncData} (F : Fun K "_law_pen_of" "_law_pen_of" sLawPenOf f fd) (T : Txt K mg t1 t2 t3 t4 aW) : FnOk P w K mg base CX0 1 f fd ["_law_cell"] spPenOf := by
  refine F.ok scLawPenOf (fun vs H Q E h => ?_) (fun cdv A outer s H vs Q E hr h => ?_)
  · obtain ⟨c, rfl, _⟩ := h
    rfl
  · obtain ⟨c, rfl, q⟩ := h
    refine ⟨_, (pss_cons (ps_set (i := 1) scLawPenOf.nd rfl (Or.inl rfl) (pe_callB (call_max2 rfl) (by rfl) T.m_max b_max (pa_cons (pv 0) (pa_cons (pe_op op_sub pe_int (pv 0)) pa_nil))))
      (pss_one (ps_ret (pe_lst (pa_cons (pv 1) (pa_cons (pe_callTy call_int1 (by rfl) T.m_int b_int (pa_cons (pe_cmpR op_ge (pv 1) (pe_op op_pow pe_int pe_int) (nomark _)) pa_nil)) (pa_cons (pe_op op_mod (pv 1) pe_int) pa_nil))))))), ?_⟩
    refine ⟨.int c, rfl, .int c, rfl, 0, c, rfl, rfl, c, 0 - c, rfl, ?_⟩
    have b0 : 0 ≤ (if 0 - c > c then 0 - c else c) := by split <;> omega
    refine rd_name ?_
    dsimp only
    generalize (if 0 - c > c then 0 - c else c) = y at *
    refine ⟨.int y, rfl, .int y, rfl, 10, 18, rfl, rfl, ⟨by decide, by decide, by decide⟩, y, _, rfl, rfl, .inr ⟨_, rfl, .int y, rfl, y, 1000003, rfl, rfl, (by show (0 : Int) < 1000003; decide), small 3 (by decide), fun p np => ?_⟩⟩
    refine q _ p (same_upd np) ⟨y, _, y % 1000003, upd_same, b0, Int.emod_nonneg _ (by decide), ?_⟩ np
    have := Int.emod_lt_of_pos y (show (0 : Int) < 1000003 by decide)
    omega
abbrev sLawDraw : Stmt := topS 45
theorem scLawDraw : FnScope ["_law_pen", "_law_many", "_law_found"] ["_law_pen", "_law_many"] (defScope sLawDraw) := ⟨rfl, rfl, rfl, by decide +kernel, rfl, by decide +kernel, by decide +kernel⟩
theorem ok_draw {f : Addr} {fd : FuncData} (F : Fun K "_law_draw" "_law_draw" sLawDraw f fd) (DLawNext : Def P w K mg base 1 "_law_next" ["_law_seed"] spNext) : FnOk P w K mg base CX0 2 f fd ["_law_pen", "_law_many"] spDraw := by
  refine F.ok scLawDraw (fun vs H Q E h => ?_) (fun cdv A outer s H vs Q E hr h => ?_)
  · obtain ⟨p, m, rfl, _⟩ := h
    rfl
  · obtain ⟨p, m, rfl, ⟨l, fl, sd, hp, hl, hs0, hs1⟩, h0, h1, q⟩ := h
    refine ⟨_, (pss_cons (ps_if (PW.pt (pw_and (pt_cmpR op_eq (pe_ix ix_list (pv 0) pe_int (fun _ _ => rfl)) pe_int (nomark _)) (pw_and1 (pt_cmpR op_gt (pe_ix ix_list (pv 0) pe_int (fun _ _ => rfl)) pe_int (nomark _)))))
        (pss_cons (ps_set (i := 2) scLawDraw.nd rfl (Or.inl rfl) (pe_op op_mod (pe_ix ix_list (pv 0) pe_int (fun _ _ => rfl)) (pv 1)))
        (pss_cons (ps_asg (pe_op op_fdivW (pe_ix ix_list (pv 0) pe_int (fun _ _ => rfl)) (pv 1)) (pg_sub (pv 0) pe_int set_list))
        (pss_one (ps_ret (pv 2)))))
        pss_nil)
      (pss_cons (ps_asg (pe_callD DLawNext hr (pa_cons (pe_op op_add (pe_callD DLawNext hr (pa_cons (pe_ix ix_list (pv 0) pe_int (fun _ _ => rfl)) pa_nil)) pe_int) pa_nil)) (pg_sub (pv 0) pe_int set_list))
      (pss_one (ps_ret (pe_op op_mod (pe_op op_fdivW (pe_ix ix_list (pv 0) pe_int (fun _ _ => rfl)) pe_int) (pv 1)))))), ?_⟩
    have hsl : SqL K H p [.int l, .int fl, .int sd] := SqL.of hp
    have rest : tSeq (tAsg (tCall spNext [] E0 (tCons (tOp (rI0 fun i j => .int (i + j)) (tCall spNext [] E0 (tCons (tOp (rIxL K) (tVar 0) (tC (.int 2))) tNil)) (tC (.int 7))) tNil)) (gSub (tVar 0) (tC (.int 2)) rSetL))
        (tRet (tOp (rI (fun _ j => 0 < j) fun i j => .int (i % j)) (tOp (rI CDivW fun i j => .int (i / j)) (tOp (rIxL K) (tVar 0) (tC (.int 2))) (tC (.int 64))) (tVar 1))) { nx := fun _ H' => Q .non H', rt := Q } [some (.ref p), some (.int m), none] H := by
      refine ⟨.ref p, rfl, p, _, _, .int sd, rfl, rfl, hsl, atI_nat (j := 2) rfl, sd, rfl, hs0, hs1, fun r1 r10 r11 => ⟨r1, 7, rfl, rfl, r1 + 7, rfl, by omega, by omega, fun r2 r20 r21 => ?_⟩⟩
      refine ⟨.ref p, rfl, p, _, _, 2, rfl, rfl, hp, rfl, ?_⟩
      have hp2 : (upd H p (.lst [.int l, .int fl, .int r2])) p = some (.lst [.int l, .int fl, .int r2]) := upd_same
      have d64 : CDivW r2 64 := wide_div (b := 20) (by decide) (by decide) (by decide) (by decide)
      refine ⟨.ref p, rfl, p, _, _, .int r2, rfl, rfl, SqL.of hp2, atI_nat (j := 2) rfl, r2, 64, rfl, rfl, d64, .int m, rfl, _, m, rfl, rfl, h0, ?_⟩
      refine q _ _ (fun b o nb e => by rw [upd_ne nb]; exact e) ⟨l, fl, r2, hp2, hl, r20, by omega⟩ (Int.emod_nonneg _ (by omega)) (Int.emod_lt_of_pos _ h0)
    refine ⟨.ref p, rfl, p, _, _, .int fl, rfl, rfl, hsl, atI_nat (j := 1) rfl, rfl, _, rfl, ite2 (fun c => ?_) (fun c => ?_)⟩
    · refine ⟨.ref p, rfl, p, _, _, .int l, rfl, rfl, hsl, atI_nat (j := 0) rfl, l, 0, rfl, rfl, _, rfl, ite2 (fun c2 => ?_) (fun c2 => ?_)⟩
      · have dm : CDivW l m := wide_div (b := 40) h0 (by omega) (by decide) (by decide)
        refine ⟨.ref p, rfl, p, _, _, .int l, rfl, rfl, hsl, atI_nat (j := 0) rfl, .int m, rfl, l, m, rfl, rfl, h0, ?_⟩
        refine ⟨.ref p, rfl, p, _, _, .int l, rfl, rfl, hsl, atI_nat (j := 0) rfl, .int m, rfl, l, m, rfl, rfl, dm, ?_⟩
        refine ⟨.ref p, rfl, p, _, _, 0, rfl, rfl, hp, rfl, ?_⟩
        refine ⟨_, rfl, ?_⟩
        exact q _ _ (fun b o nb e => by rw [upd_ne nb]; exact e) ⟨l / m, fl, sd, upd_same, Int.ediv_nonneg hl (by omega), hs0, hs1⟩ (Int.emod_nonneg _ (by omega)) (Int.emod_lt_of_pos _ h0)
      · exact rest
    · exact iteF rest
abbrev sLawMarks : Stmt := topS 46
theorem scLawMarks : FnScope ["_law_story", "_law_most", "_law_beat"] ["_law_story", "_law_most"] (defScope sLawMarks) := ⟨rfl, rfl, rfl, by decide +kernel, rfl, by decide +kernel, by decide +kernel⟩
theorem ok_marks {f : Addr} {fd : FuncData} (F : Fun K "_law_marks" "_law_marks" sLawMarks f fd) (T : Txt K mg t1 t2 t3 t4 aW) (DSilentAt : Def P w K mg base 1 "silent_at" ["story", "beat"] spSilentAt) : FnOk P w K mg base CX0 2 f fd ["_law_story", "_law_most"] spMarks := by
  refine F.ok scLawMarks (fun vs H Q E h => ?_) (fun cdv A outer s H vs Q E hr h => ?_)
  · obtain ⟨v, s, n, rfl, _⟩ := h
    rfl
  · obtain ⟨v, s, n, rfl, hs, hsl, hn, q⟩ := h
    refine ⟨_, (pss_one (ps_ret (pe_lc (own := [("_law_beat", 2)]) (g := (gName 2)) (tt := tYes) rfl scLawMarks.nd (pi_range1 (by rfl) T.m_range (pa_cons (pv 1) pa_nil)) (blkOk_by (own := [("_law_beat", 2)]) (N := ["_law_story", "_law_most", "_law_beat"]) (sc := defScope sLawMarks) (by decide +kernel)) (fun _ _ _ _ _ => (pg_name (i := 2) scLawMarks.nd rfl (Or.inl rfl))) (fun _ _ _ _ _ => pts_nil) (fun _ _ _ _ _ => (pe_callD DSilentAt hr (pa_cons (pv 0) (pa_cons (pv 2) pa_nil))))))), ?_⟩
    refine rd_ret ?_
    refine lc_rng (n := n) (R := IsV V.bl) (fun i : Nat => sil s (i : Int)) (fun _ => true) (stays_is _) (fun Q' h => ⟨.int (n : Int), rfl, h⟩) (by omega) (fun m hm H' Q' _ h => h) (fun m hm _ H' Q' sm h => ?_) (fun _ => rfl) (fun D H' ys sm hD hy hR => ?_)
    · exact ⟨v, rfl, .int (m : Int), rfl, v, s, (m : Int), rfl, hs.same sm, hsl, fun H2 s2 => h _ _ s2 rfl⟩
    · rw [is_map hR, List.filter_eq_self.mpr (fun _ _ => rfl)] at hy
      exact q H' D sm hy
end
end Kp

namespace Kp
open PySem PySem.Spec PyProof.Rows L2
def spOneRight : Sp := fun vs H Q _ => ∃ (v : V) (s : Sty) (n : Nat), vs = [v, .int (n : Int)] ∧ StV H v s ∧ 1 ≤ n ∧ n ≤ 24 ∧ Rs s ∧ Below (n : Int) s ∧ ∀ H', Same H H' → Q (.bl true) H'
theorem ne_no {x y : V} (h : x = y) : (!decide (x = y)) = false := by rw [decide_eq_true h]; rfl
section
variable {P : Program} {w : World} {K : PySem.W.Frag} {mg : Str → Option Value} {base : Heap} {t1 t2 t3 t4 : Tok} {aW : Addr}
abbrev sLawOneRight : Stmt := topS 47
theorem scLawOneRight : FnScope ["_law_story", "_law_most", "_law_marks_here", "_law_beat", "_law_sound", "_law_silent", "_law_great", "_law_begin", "_law_end"] ["_law_story", "_law_most"] (defScope sLawOneRight) := ⟨rfl, rfl, rfl, by decide +kernel, rfl, by decide +kernel, by decide +kernel⟩
theorem ok_one_right {f : Addr} {fd : FuncData} (F : Fun K "_law_one_right" "_law_one_right" sLawOneRight f fd) (T : Txt K mg t1 t2 t3 t4 aW)
    (DLawMarks : Def P w K mg base 2 "_law_marks" ["_law_story", "_law_most"] spMarks) (DStoryGood : Def P w K mg base 4 "story_good" ["thing"] spStoryGood) (DStoryOf : Def P w K mg base 3 "story_of" ["things"] spStoryOf)
    (DStoryAt : Def P w K mg base 3 "story_at" ["number", "many"] spStoryAt) (DNumberOf : Def P w K mg base 1 "number_of" ["story"] spNumberOf) (DHealedAt : Def P w K mg base 1 "healed_at" ["story"] spHealed)
    (DSilentMany : Def P w K mg base 1 "silent_many" ["story", "first", "last"] spSilentMany) (DNextSound : Def P w K mg base 1 "next_sound" ["story", "beat"] spNextSound) (DNextSilent : Def P w K mg base 1 "next_silent" ["story", "beat"] spNextSilent)
    (DSilentAt : Def P w K mg base 1 "silent_at" ["story", "beat"] spSilentAt) (DLongestOf : Def P w K mg base 1 "longest_of" ["story"] spLongest) : FnOk P w K mg base CX0 5 f fd ["_law_story", "_law_most"] spOneRight := by
  refine F.ok scLawOneRight (fun vs H Q E h => ?_) (fun cdv A outer s H vs Q E hr h => ?_)
  · obtain ⟨v, s, n, rfl, _⟩ := h
    rfl
  · obtain ⟨v, s, n, rfl, hv, h1n, hn, hs, hb, q⟩ := h
    refine ⟨_, (pss_cons (ps_set (i := 2) scLawOneRight.nd rfl (Or.inr rfl) (pe_callD DLawMarks hr (pa_cons (pv 0) (pa_cons (pv 1) pa_nil))))
      (pss_cons (ps_if (PW.pt (pw_or (pt_cmpR op_notBl (pe_callD DStoryGood hr (pa_cons (pv 0) pa_nil)) pe_bl (nomark _)) (pw_or1 (pt_cmpR (op_neD hr.units) (pe_callD DStoryOf hr (pa_cons (pe_lc (own := [("_law_beat", 3)]) (g := (gName 3)) rfl scLawOneRight.nd (pi_range1 (by rfl) T.m_range (pa_cons (pv 1) pa_nil)) (blkOk_by (own := [("_law_beat", 3)]) (N := ["_law_story", "_law_most", "_law_marks_here", "_law_beat", "_law_sound", "_law_silent", "_law_great", "_law_begin", "_law_end"]) (sc := defScope sLawOneRight) (by decide +kernel)) (fun _ _ _ _ _ => (pg_name (i := 3) scLawOneRight.nd rfl (Or.inl rfl))) (fun _ _ _ _ _ => (pts_one (pt_val (pe_ix (show IxR _ (rIxL K) from ix_list) (pv 2) (pv 3) (fun _ _ => rfl))))) (fun _ _ _ _ _ => (pv 3))) pa_nil)) (pv 0) (nomark _)))))
        (pss_one (ps_ret pe_bl))
        pss_nil)
      (pss_cons (ps_if (PW.pt (pw_or (pt_cmpR (op_neD hr.units) (pe_callD DStoryAt hr (pa_cons (pe_callD DNumberOf hr (pa_cons (pv 0) pa_nil)) (pa_cons (pv 1) pa_nil))) (pv 0) (nomark _)) (pw_or1 (pt_cmpR op_gt (pe_callD DHealedAt hr (pa_cons (pv 0) pa_nil)) (pv 1) (nomark _)))))
        (pss_one (ps_ret pe_bl))
        pss_nil)
      (pss_cons (ps_if (PW.pt (pw_or (pt_cmpR op_ne (pe_callD DSilentMany hr (pa_cons (pv 0) (pa_cons pe_int (pa_cons (pv 1) pa_nil)))) (pe_bm PySem.F.plainAttrs_list PySem.F.slot_list_count PySem.F.type_list_count mt_countB (pv 2) (pa_cons pe_bl pa_nil)) (nomark _)) (pw_or1 (pt_cmpR op_ne (pe_callD DSilentMany hr (pa_cons (pv 0) (pa_cons pe_int (pa_cons (pe_op op_pow pe_int pe_int) pa_nil)))) (pe_bm PySem.F.plainAttrs_list PySem.F.slot_list_count PySem.F.type_list_count mt_countB (pv 2) (pa_cons pe_bl pa_nil)) (nomark _)))))
        (pss_one (ps_ret pe_bl))
        pss_nil)
      (pss_cons (ps_for PassesOwn.never rfl (pi_range1 (by rfl) T.m_range (pa_cons (pv 1) pa_nil)) (pg_name (i := 3) scLawOneRight.nd rfl (Or.inl rfl))
        (pss_cons (ps_par (i := 4) (j := 5) (by rfl) scLawOneRight.nd rfl rfl (by decide) rfl rfl (pa_cons (pe_callD DNextSound hr (pa_cons (pv 0) (pa_cons (pv 3) pa_nil))) (pa_cons (pe_callD DNextSilent hr (pa_cons (pv 0) (pa_cons (pv 3) pa_nil))) pa_nil)) (by rfl))
        (pss_cons (ps_if (PW.pt (pw_or (pt_cmpR op_ne (pe_callD DSilentMany hr (pa_cons (pv 0) (pa_cons (pv 3) (pa_cons (pv 4) pa_nil)))) (pe_op op_sub (pv 4) (pv 3)) (nomark _)) (pw_or1 (pt_val (pe_callD DSilentAt hr (pa_cons (pv 0) (pa_cons (pv 4) pa_nil)))))))
          (pss_one (ps_ret pe_bl))
          pss_nil)
        (pss_cons (ps_if (PW.pt (pw_and (pt_cmpR op_notN (pv 5) pe_non (nomark _)) (pw_and1 (PW.pt (pw_or (pt_not (pt_val (pe_callD DSilentAt hr (pa_cons (pv 0) (pa_cons (pv 5) pa_nil))))) (pw_or1 (pt_cmpR op_ne (pe_callD DSilentMany hr (pa_cons (pv 0) (pa_cons (pv 3) (pa_cons (pv 5) pa_nil)))) pe_int (nomark _))))))))
          (pss_one (ps_ret pe_bl))
          pss_nil)
        (pss_one (ps_if (PW.pt (pw_and (pt_cmpR op_isN (pv 5) pe_non (nomark _)) (pw_and1 (PW.pt (pw_or (pt_cmpR op_gt (pe_callD DHealedAt hr (pa_cons (pv 0) pa_nil)) (pv 3) (nomark _)) (pw_or1 (pt_cmpR op_ne (pe_callD DSilentMany hr (pa_cons (pv 0) (pa_cons (pv 3) (pa_cons (pv 1) pa_nil)))) pe_int (nomark _))))))))
          (pss_one (ps_ret pe_bl))
          pss_nil))))))
      (pss_cons (ps_set (i := 6) scLawOneRight.nd rfl (Or.inl rfl) (pe_callD DLongestOf hr (pa_cons (pv 0) pa_nil)))
      (pss_cons (ps_if (pt_cmpR op_isN (pv 6) pe_non (nomark _))
        (pss_one (ps_ret (pe_and (pe_cmpR (op_eqD hr.units) (pv 0) (pe_tup pa_nil) (nomark _)) (pe_one (pe_cmpR op_eq (pe_bm PySem.F.plainAttrs_list PySem.F.slot_list_count PySem.F.type_list_count mt_countB (pv 2) (pa_cons pe_bl pa_nil)) pe_int (nomark _))))))
        pss_nil)
      (pss_one (ps_ret (pe_and (pe_cmpR (op_inDT (hu65 hr)) (pv 6) (pv 0) (by rfl)) (pe_one (pe_cmpR op_eq (pe_callB (cr_max rfl) (by rfl) T.m_max b_max (pa_cons (pe_lc (own := [("_law_begin", 7), ("_law_end", 8)]) (g := (gTup K 2 (gCons (gName 7) (gCons (gName 8) gNil)))) (tt := tYes) rfl scLawOneRight.nd (pi_tup (pv 0)) (blkOk_by (own := [("_law_begin", 7), ("_law_end", 8)]) (N := ["_law_story", "_law_most", "_law_marks_here", "_law_beat", "_law_sound", "_law_silent", "_law_great", "_law_begin", "_law_end"]) (sc := defScope sLawOneRight) (by decide +kernel)) (fun _ _ _ _ _ => (pg_tup rfl (pgs_cons (pg_name (i := 7) scLawOneRight.nd rfl (Or.inl rfl)) (pgs_cons (pg_name (i := 8) scLawOneRight.nd rfl (Or.inl rfl)) pgs_nil)))) (fun _ _ _ _ _ => pts_nil) (fun _ _ _ _ _ => (pe_op op_sub (pv 8) (pv 7)))) pa_nil)) (pe_op op_sub (pe_ix ix_tup (pv 6) pe_int (fun _ _ => rfl)) (pe_ix ix_tup (pv 6) pe_int (fun _ _ => rfl))) (nomark _))))))))))))), ?_⟩
    have hl2 := hs.len hb (by omega)
    have hl : s.length ≤ 12 := by omega
    have ec : silMany s 0 (n : Int) = (((marksF s n).count true : Nat) : Int) := by rw [silMany_all hs hb (Int.le_refl _), marks_count]
    have ec6 : silMany s 0 ((10 : Int) ^ ((6 : Int)).toNat) = (((marksF s n).count true : Nat) : Int) := by
      rw [silMany_all hs hb (by show (n : Int) ≤ 1000000; omega), marks_count]
    -- marks
    refine ⟨v, rfl, .int n, rfl, v, s, n, rfl, hv, by omega, by omega, fun H1 a1 s1 h1 => ?_⟩
    -- story_good(story) is not True
    refine ⟨v, rfl, v, s, rfl, hv.same s1, hs, hb.le (by omega), by omega, fun H2 s2 => ⟨true, true, rfl, rfl, _, rfl, ifF rfl ?_⟩⟩
    -- story_of([..]) != story
    refine rd_test (rd_op (rd_call (rd_cons ?_)))
    refine lc_rng (n := n) (R := IsV V.int) (fun i : Nat => (i : Int)) (fun i => sil s (i : Int)) (stays_is _) (fun Q' h => ⟨.int (n : Int), rfl, h⟩) (by omega) (fun m hm H' Q' sm h => ?_) (fun m hm _ H' Q' sm h => ⟨_, rfl, h _ _ (Same.refl _) rfl⟩) (fun _ => rfl) (fun D H3 ys s3 nD hD hR => ?_)
    · have gm : ((marksF s n).map V.bl)[m]? = some (.bl (sil s (m : Int))) := by
        unfold marksF
        rw [List.getElem?_map, List.getElem?_map, List.getElem?_range hm]
        rfl
      exact ⟨.ref a1, rfl, .int (m : Int), rfl, a1, _, _, .bl (sil s (m : Int)), rfl, rfl, SqL.of ((s2.trans sm) _ _ h1), atI_nat gm, _, rfl, h⟩
    rw [is_map hR] at hD
    have hmem : ∀ b ∈ ((List.range n).filter fun i : Nat => sil s (i : Int)).map (fun i : Nat => (i : Int)), 0 ≤ b ∧ b < 200 := fun b hbm => by
      obtain ⟨i, hi, rfl⟩ := List.mem_map.mp hbm
      have := List.mem_range.mp (List.mem_filter.mp hi).1
      omega
    have hml : (((List.range n).filter fun i : Nat => sil s (i : Int)).map (fun i : Nat => (i : Int))).length ≤ 1000 := by
      rw [List.length_map]
      have := List.length_filter_le (fun i : Nat => sil s (i : Int)) (List.range n)
      rw [List.length_range] at this
      omega
    refine ⟨D, _, rfl, hD, hml, hmem, fun H4 y r s4 hy hr2 hsil => ?_⟩
    have s14 : Same H H4 := ((s1.trans s2).trans s3).trans s4
    have h14 : H4 a1 = some (.lst ((marksF s n).map V.bl)) := ((s2.trans s3).trans s4) _ _ h1
    have e1 : r = s := uniq hr2 hs fun x => by
      rw [hsil, Bool.eq_iff_iff, decide_eq_true_eq, List.mem_map]
      constructor
      · rintro ⟨i, hi, rfl⟩
        exact (List.mem_filter.mp hi).2
      · intro hx
        have g0 := hs.sil_nonneg hx
        have g1 := hb.sil hx
        refine ⟨x.toNat, List.mem_filter.mpr ⟨List.mem_range.mpr (by omega), ?_⟩, by omega⟩
        rw [show ((x.toNat : Nat) : Int) = x by omega]
        exact hx
    refine ⟨v, rfl, dS r, dS s, dp_story hy, dp_story (hv.same s14), dS_shaped _, dS_shaped _, _, rfl, ?_⟩
    rw [dS_eqv, decide_eq_true e1]
    refine iteF ?_
    -- story_at(number_of(story), most) != story
    obtain ⟨m, em, hm, hN⟩ := numOf_ok hs hb
    refine ⟨v, rfl, v, s, rfl, hv.same s14, by omega, hs, hb.le (by omega), fun H5 s5 => ⟨.int n, rfl, m, n, by rw [em]; rfl, hn, hm, fun H6 y2 r2 s6 hy2 hN2 => ?_⟩⟩
    have s16 : Same H H6 := (s14.trans s5).trans s6
    refine ⟨v, rfl, dS r2, dS s, dp_story hy2, dp_story (hv.same s16), dS_shaped _, dS_shaped _, _, rfl, ?_⟩
    rw [dS_eqv, decide_eq_true (hN2.uniq hN)]
    refine iteF ?_
    -- healed_at(story) > most
    refine ⟨v, rfl, v, s, rfl, hv.same s16, fun H7 s7 => ⟨.int n, rfl, healed s, n, rfl, rfl, _, rfl, ifF (decide_eq_false ?_) ?_⟩⟩
    · have := healed_le hb (by omega)
      omega
    have s17 := s16.trans s7
    have h17 : H7 a1 = some (.lst ((marksF s n).map V.bl)) := ((s5.trans s6).trans s7) _ _ h14
    -- silent_many(story, 0, most) != marks.count(True)
    refine ⟨v, rfl, .int n, rfl, v, s, 0, n, rfl, hv.same s17, by omega, fun H8 s8 => ?_⟩
    have s18 := s17.trans s8
    have h18 := s8 _ _ h17
    refine ⟨.ref a1, rfl, .inl ⟨rfl, _, SqL.of h18⟩, a1, marksF s n, rfl, rfl, SqL.of h18, rfl, _, rfl, ifF (ne_no (by rw [ec])) ?_⟩
    refine ⟨v, rfl, 10, 6, rfl, rfl, ⟨by decide, by decide, by decide⟩, v, s, 0, _, rfl, hv.same s18, by omega, fun H9 s9 => ?_⟩
    have s19 := s18.trans s9
    have h19 := s9 _ _ h18
    refine ⟨.ref a1, rfl, .inl ⟨rfl, _, SqL.of h19⟩, a1, marksF s n, rfl, rfl, SqL.of h19, rfl, _, rfl, ifF (ne_no (by rw [ec6])) ?_⟩
    -- the loop
    refine ⟨.int n, rfl, (n : Int), rfl, by omega, by omega, ?_⟩
    rw [Int.toNat_natCast]
    refine for_range (lo := 0) (n := n) (fun i σ H' => ∃ y3 y4 y5, σ = [some v, some (.int (n : Int)), some (.ref a1), y3, y4, y5, none, none, none] ∧ Same H9 H') ⟨none, none, none, rfl, Same.refl _⟩ (fun i σ H' hi h => ?_) (fun σ H' h => ?_)
    · obtain ⟨y3, y4, y5, rfl, sm⟩ := h
      rw [show (0 : Int) + (i : Int) = (i : Int) by omega]
      have sH := s19.trans sm
      have f0 := nextSound_ge s (i : Int)
      have f1 := silMany_full (b := nextSound s (i : Int)) hs hb (show (0 : Int) ≤ (i : Int) by omega) f0 fun x => nextSound_all x
      have f2 := nextSound_sound (b := (i : Int)) hs
      refine ⟨v, rfl, .int i, rfl, v, s, (i : Int), rfl, hv.same sH, v, rfl, .int i, rfl, v, s, (i : Int), rfl, hv.same sH, _, _, rfl, ?_⟩
      -- silent_many(story, beat, sound) != sound - beat or silent_at(story, sound)
      refine ⟨v, rfl, .int i, rfl, .int (nextSound s (i : Int)), rfl, v, s, (i : Int), _, rfl, hv.same sH, by omega, fun Ha sa => ?_⟩
      have sHa := sH.trans sa
      refine ⟨.int (nextSound s (i : Int)), rfl, .int i, rfl, nextSound s (i : Int), (i : Int), rfl, rfl, rfl, _, rfl, ifF (ne_no (by rw [f1])) ?_⟩
      refine ⟨v, rfl, .int (nextSound s (i : Int)), rfl, v, s, _, rfl, hv.same sHa, by omega, fun Hb sb => ⟨_, rfl, ifF f2 ?_⟩⟩
      have sHb := sHa.trans sb
      cases e : nextSilent s (i : Int) with
      | some y =>
        obtain ⟨g1, g2, g3⟩ := nextSilent_some hs e
        have g4 := silMany_empty (a := (i : Int)) (b := y) hs hb g3
        refine ⟨.int y, rfl, rfl, _, rfl, ifT rfl ?_⟩
        refine ⟨v, rfl, .int y, rfl, v, s, y, rfl, hv.same sHb, by omega, fun Hc sc => ⟨_, rfl, ifF (by rw [g1]; rfl) ?_⟩⟩
        have sHc := sHb.trans sc
        refine ⟨v, rfl, .int i, rfl, .int y, rfl, v, s, (i : Int), y, rfl, hv.same sHc, by omega, fun Hd sd => ⟨rfl, _, rfl, ifF (ne_no (by rw [g4])) ?_⟩⟩
        refine ⟨.int y, rfl, rfl, _, rfl, ifF rfl ⟨_, _, _, rfl, sm.trans (((sa.trans sb).trans sc).trans sd)⟩⟩
      | none =>
        have g1 := nextSilent_none e
        have g4 := silMany_empty (a := (i : Int)) (b := (n : Int)) hs hb fun x hx _ => below_sil g1 hx
        have g5 := healed_le g1 (by omega)
        refine ⟨.non, rfl, rfl, _, rfl, ifF rfl ?_⟩
        refine ⟨.non, rfl, rfl, _, rfl, ifT rfl ?_⟩
        refine ⟨v, rfl, v, s, rfl, hv.same sHb, fun Hc sc => ⟨.int i, rfl, healed s, (i : Int), rfl, rfl, _, rfl, ifF (decide_eq_false (by omega)) ?_⟩⟩
        have sHc := sHb.trans sc
        refine ⟨v, rfl, .int i, rfl, .int n, rfl, v, s, (i : Int), (n : Int), rfl, hv.same sHc, by omega, fun Hd sd => ⟨rfl, _, rfl, ifF (ne_no (by rw [g4])) ?_⟩⟩
        exact ⟨_, _, _, rfl, sm.trans (((sa.trans sb).trans sc).trans sd)⟩
    · obtain ⟨y3, y4, y5, rfl, sm⟩ := h
      have sH := s19.trans sm
      have hH := sm _ _ h19
      -- longest_of(story)
      refine ⟨v, rfl, v, s, rfl, hv.same sH, fun Ha u sa hu => ?_⟩
      have sHa := sH.trans sa
      have hHa := sa _ _ hH
      rcases hu with ⟨es, rfl⟩ | ⟨p, hp, hup⟩
      · refine ⟨.non, rfl, rfl, _, rfl, ifT rfl ?_⟩
        refine ⟨v, rfl, Nat.zero_le _, fun d nd => ?_⟩
        have sd : Same Ha (upd Ha d (.tup [])) := same_upd nd
        refine ⟨dS s, dS [], dp_story (hv.same (sHa.trans sd)), dp_story ⟨d, [], rfl, upd_same, .nil⟩, dS_shaped _, dS_shaped _, _, rfl, ?_⟩
        rw [dS_eqv, decide_eq_true es]
        refine iteT ?_
        have hd := sd _ _ hHa
        have ec0 : (((marksF s n).count true : Nat) : Int) = 0 := by
          rw [← ec, es]
          rfl
        refine ⟨.ref a1, rfl, .inl ⟨rfl, _, SqL.of hd⟩, a1, marksF s n, rfl, rfl, SqL.of hd, rfl, ?_⟩
        show Q (.bl (decide (V.int (((marksF s n).count true : Nat) : Int) = V.int 0))) _
        rw [ec0, decide_eq_true rfl]
        exact q _ (sHa.trans sd)
      · obtain ⟨t, rfl, ht⟩ := id hup
        refine ⟨.ref t, rfl, rfl, _, rfl, ifF rfl ?_⟩
        -- great in story
        refine ⟨.ref t, rfl, v, rfl, dP p, s.map dP, dp_pair hup, dp_story (hv.same sHa), dP_shaped _, dL_shaped s, _, rfl, ifT ?_ ?_⟩
        · rw [List.any_eq_true]
          refine ⟨dP p, List.mem_map.mpr ⟨p, hp.1, rfl⟩, ?_⟩
          rw [dP_eqv, decide_eq_true rfl]
        · refine rd_op (rd_cb (rd_cons ?_))
          obtain ⟨av, xs, rfl, hav, hxs⟩ := hv.same sHa
          refine lc_pairs (R := IsV V.int) (fun p : Int × Int => p.2 - p.1) (stays_is _) (fun Q' h => ⟨_, rfl, h⟩) hav hxs (by omega) (fun p _ H' Q' _ h => h) (fun p hm H' Q' sm h => ?_) (fun _ _ => rfl) (fun D2 H2 zs sm2 hD2 hz hR2 => ?_)
          · exact ⟨.int p.2, rfl, .int p.1, rfl, p.2, p.1, rfl, rfl, h _ _ (Same.refl _) rfl⟩
          · refine ⟨D2, s.map fun p : Int × Int => p.2 - p.1, rfl, SqL.of (by rw [hz, is_map hR2]), ?_, fun mv hmv hle => ?_⟩
            · rw [List.length_map]
              exact List.length_pos_of_mem hp.1
            · have ht2 := sm2 _ _ ht
              refine ⟨.ref t, rfl, t, _, _, .int p.2, rfl, rfl, SqT.of ht2, atI_nat (j := 1) rfl, .ref t, rfl, t, _, _, .int p.1, rfl, rfl, SqT.of ht2, atI_nat (j := 0) rfl, p.2, p.1, rfl, rfl, rfl, ?_⟩
              show Q (.bl (decide (V.int mv = V.int (p.2 - p.1)))) H2
              obtain ⟨p', hp', rfl⟩ := List.mem_map.mp hmv
              have e1 := hle _ (List.mem_map.mpr ⟨p, hp.1, rfl⟩)
              have e2 := hp.2 p' hp'
              have e1 : p.2 - p.1 ≤ p'.2 - p'.1 := e1
              rw [show p'.2 - p'.1 = p.2 - p.1 by omega, decide_eq_true rfl]
              exact q H2 (sHa.trans sm2)
end
end Kp

namespace Kp
open PySem PySem.Spec PyProof.Rows L2
open KpS (wd)
/-! ### what a story turned about is -/
section
variable {s t r : Sty} {n : Nat}
theorem T_rs (hs : Rs s) (hb : Below (n : Int) s) : Rs (otherF s n) := (otherF_ok hs hb).1
theorem T_sil (hs : Rs s) (hb : Below (n : Int) s) (x : Int) : sil (otherF s n) x = (decide (0 ≤ x) && decide (x < (n : Int)) && !sil s x) := (otherF_ok hs hb).2 x
theorem T_below (hs : Rs s) (hb : Below (n : Int) s) : Below (n : Int) (otherF s n) := below_of (T_rs hs hb) fun x e => by
  rw [T_sil hs hb, Bool.and_eq_true, Bool.and_eq_true, decide_eq_true_eq, decide_eq_true_eq] at e
  exact e.1.2
theorem T_back (hs : Rs s) (hb : Below (n : Int) s) : otherF (otherF s n) n = s := uniq (T_rs (T_rs hs hb) (T_below hs hb)) hs fun x => by
  rw [T_sil (T_rs hs hb) (T_below hs hb), T_sil hs hb]
  have z : sil s x = true → 0 ≤ x ∧ x < n := fun e => ⟨hs.sil_nonneg e, hb.sil e⟩
  cases e : sil s x with
  | true =>
    have := z e
    rw [decide_eq_true this.1, decide_eq_true this.2]
    rfl
  | false => cases decide (0 ≤ x) <;> cases decide (x < (n : Int)) <;> rfl
theorem or_below (hs : Below (n : Int) s) (ht : Below (n : Int) t) (hr : Rs r) (e : ∀ x, sil r x = (sil s x || sil t x)) : Below (n : Int) r := below_of hr fun x h => by
  rw [e, Bool.or_eq_true] at h
  rcases h with h | h
  · exact hs.sil h
  · exact ht.sil h
theorem and_below (hs : Below (n : Int) s) (hr : Rs r) (e : ∀ x, sil r x = (sil s x && sil t x)) : Below (n : Int) r := below_of hr fun x h => by
  rw [e, Bool.and_eq_true] at h
  exact hs.sil h.1
theorem T_or {q : Sty} (hs : Rs s) (hb : Below (n : Int) s) (ht : Rs t) (hc : Below (n : Int) t) (hr : Rs r) (e : ∀ x, sil r x = (sil s x || sil t x)) (hq : Rs q) (f : ∀ x, sil q x = (sil (otherF s n) x && sil (otherF t n) x)) : otherF r n = q :=
  uniq (T_rs hr (or_below hb hc hr e)) hq fun x => by
    rw [T_sil hr (or_below hb hc hr e), f, T_sil hs hb, T_sil ht hc, e]
    cases decide (0 ≤ x) <;> cases decide (x < (n : Int)) <;> cases sil s x <;> cases sil t x <;> rfl
theorem T_and {q : Sty} (hs : Rs s) (hb : Below (n : Int) s) (ht : Rs t) (hc : Below (n : Int) t) (hr : Rs r) (e : ∀ x, sil r x = (sil s x && sil t x)) (hq : Rs q) (f : ∀ x, sil q x = (sil (otherF s n) x || sil (otherF t n) x)) : otherF r n = q :=
  uniq (T_rs hr (and_below hb hr e)) hq fun x => by
    rw [T_sil hr (and_below hb hr e), f, T_sil hs hb, T_sil ht hc, e]
    cases decide (0 ≤ x) <;> cases decide (x < (n : Int)) <;> cases sil s x <;> cases sil t x <;> rfl
theorem T_many (hs : Rs s) (hb : Below (n : Int) s) : silMany s 0 n + silMany (otherF s n) 0 n = n := by
  rw [silMany_all hs hb (Int.le_refl _), silMany_all (T_rs hs hb) (T_below hs hb) (Int.le_refl _)]
  have e := cnt_split (n := n) (g := fun x => sil s x) (h := fun x => sil (otherF s n) x) (u := fun _ => true) (v := fun _ => false) fun x hx => by
    show (if sil s x = true then (1 : Int) else 0) + (if sil (otherF s n) x = true then 1 else 0) = (if true = true then 1 else 0) + (if false = true then 1 else 0)
    rw [T_sil hs hb, decide_eq_true (by omega : (0 : Int) ≤ x), decide_eq_true (by omega : (x : Int) < n)]
    cases sil s x <;> rfl
  rw [e, cnt_true, cnt_false]
  omega
theorem two_many {q : Sty} (hs : Rs s) (hb : Below (n : Int) s) (ht : Rs t) (hc : Below (n : Int) t) (hr : Rs r) (e : ∀ x, sil r x = (sil s x || sil t x)) (hq : Rs q) (f : ∀ x, sil q x = (sil s x && sil t x)) : silMany r 0 n + silMany q 0 n = silMany s 0 n + silMany t 0 n := by
  rw [silMany_all hs hb (Int.le_refl _), silMany_all ht hc (Int.le_refl _), silMany_all hr (or_below hb hc hr e) (Int.le_refl _), silMany_all hq (and_below hb hq f) (Int.le_refl _)]
  refine cnt_split fun x hx => ?_
  show (if sil r x = true then (1 : Int) else 0) + (if sil q x = true then 1 else 0) = (if sil s x = true then 1 else 0) + (if sil t x = true then 1 else 0)
  rw [e, f]
  cases sil s x <;> cases sil t x <;> rfl
theorem len12 (hs : Rs s) (hb : Below (n : Int) s) (hn : n ≤ 24) : s.length ≤ 12 := by
  have := hs.len hb (by omega)
  omega
end
def spTwoRight : Sp := fun vs H Q _ => ∃ (v u : V) (s t : Sty) (n : Nat), vs = [v, u, .int (n : Int)] ∧ StV H v s ∧ StV H u t ∧ n ≤ 24 ∧ Rs s ∧ Below (n : Int) s ∧ Rs t ∧ Below (n : Int) t ∧ ∀ H', Same H H' → Q (.bl true) H'
section
variable {P : Program} {w : World} {K : PySem.W.Frag} {mg : Str → Option Value} {base : Heap} {t1 t2 t3 t4 : Tok} {aW : Addr}
abbrev sLawTwoRight : Stmt := topS 48
theorem scLawTwoRight : FnScope ["_law_one", "_law_other", "_law_most", "_law_turned", "_law_together", "_law_story"] ["_law_one", "_law_other", "_law_most"] (defScope sLawTwoRight) := ⟨rfl, rfl, rfl, by decide +kernel, rfl, by decide +kernel, by decide +kernel⟩
theorem ok_two_right {f : Addr} {fd : FuncData} (F : Fun K "_law_two_right" "_law_two_right" sLawTwoRight f fd)
    (DOtherWay : Def P w K mg base 2 "other_way" ["story", "beat"] spOther) (DEither : Def P w K mg base 2 "either" ["one", "other"] spEither) (DBoth : Def P w K mg base 2 "both" ["one", "other"] spBoth)
    (DSilentMany : Def P w K mg base 1 "silent_many" ["story", "first", "last"] spSilentMany) : FnOk P w K mg base CX0 3 f fd ["_law_one", "_law_other", "_law_most"] spTwoRight := by
  refine F.ok scLawTwoRight (fun vs H Q E h => ?_) (fun cdv A outer s H vs Q E hr h => ?_)
  · obtain ⟨v, u, s, t, n, rfl, _⟩ := h
    rfl
  · obtain ⟨v, u, s, t, n, rfl, hv, hu, hn, hs, hb, ht, hc, q⟩ := h
    refine ⟨_, (pss_cons (ps_setLc (i := 3) (own := [("_law_story", 5)]) (g := (gName 5)) (tt := tYes) rfl scLawTwoRight.nd rfl rfl (sw_true rfl rfl rfl (by decide +kernel)) (pi_tup (pe_tup (pa_cons (pv 0) (pa_cons (pv 1) pa_nil)))) (blkOk_by (own := [("_law_story", 5)]) (N := ["_law_one", "_law_other", "_law_most", "_law_turned", "_law_together", "_law_story"]) (sc := defScope sLawTwoRight) (by decide +kernel)) (fun _ _ _ _ _ => (pg_name (i := 5) scLawTwoRight.nd rfl (Or.inl rfl))) (fun _ _ _ _ _ => pts_nil) (fun _ _ _ _ _ => (pe_callD DOtherWay hr (pa_cons (pv 5) (pa_cons (pv 2) pa_nil)))))
      (pss_cons (ps_if (pt_cmpR (op_neD hr.units) (pe_lc (own := [("_law_story", 5)]) (g := (gName 5)) (tt := tYes) rfl scLawTwoRight.nd (pi_list (pv 3)) (blkOk_by (own := [("_law_story", 5)]) (N := ["_law_one", "_law_other", "_law_most", "_law_turned", "_law_together", "_law_story"]) (sc := defScope sLawTwoRight) (by decide +kernel)) (fun _ _ _ _ _ => (pg_name (i := 5) scLawTwoRight.nd rfl (Or.inl rfl))) (fun _ _ _ _ _ => pts_nil) (fun _ _ _ _ _ => (pe_callD DOtherWay hr (pa_cons (pv 5) (pa_cons (pv 2) pa_nil))))) (pe_lst (pa_cons (pv 0) (pa_cons (pv 1) pa_nil))) (nomark _))
        (pss_one (ps_ret pe_bl))
        pss_nil)
      (pss_cons (ps_if (pt_cmpR (op_neD hr.units) (pe_callD DOtherWay hr (pa_cons (pe_callD DEither hr (pa_cons (pv 0) (pa_cons (pv 1) pa_nil))) (pa_cons (pv 2) pa_nil))) (pe_callD DBoth hr (pa_cons (pe_ix ix_list (pv 3) pe_int (fun _ _ => rfl)) (pa_cons (pe_ix ix_list (pv 3) pe_int (fun _ _ => rfl)) pa_nil))) (nomark _))
        (pss_one (ps_ret pe_bl))
        pss_nil)
      (pss_cons (ps_if (pt_cmpR (op_neD hr.units) (pe_callD DOtherWay hr (pa_cons (pe_callD DBoth hr (pa_cons (pv 0) (pa_cons (pv 1) pa_nil))) (pa_cons (pv 2) pa_nil))) (pe_callD DEither hr (pa_cons (pe_ix ix_list (pv 3) pe_int (fun _ _ => rfl)) (pa_cons (pe_ix ix_list (pv 3) pe_int (fun _ _ => rfl)) pa_nil))) (nomark _))
        (pss_one (ps_ret pe_bl))
        pss_nil)
      (pss_cons (ps_if (pt_cmpR op_ne (pe_op op_add (pe_callD DSilentMany hr (pa_cons (pv 0) (pa_cons pe_int (pa_cons (pv 2) pa_nil)))) (pe_callD DSilentMany hr (pa_cons (pe_ix ix_list (pv 3) pe_int (fun _ _ => rfl)) (pa_cons pe_int (pa_cons (pv 2) pa_nil))))) (pv 2) (nomark _))
        (pss_one (ps_ret pe_bl))
        pss_nil)
      (pss_cons (ps_set (i := 4) scLawTwoRight.nd rfl (Or.inl rfl) (pe_op op_add (pe_callD DSilentMany hr (pa_cons (pe_callD DEither hr (pa_cons (pv 0) (pa_cons (pv 1) pa_nil))) (pa_cons pe_int (pa_cons (pv 2) pa_nil)))) (pe_callD DSilentMany hr (pa_cons (pe_callD DBoth hr (pa_cons (pv 0) (pa_cons (pv 1) pa_nil))) (pa_cons pe_int (pa_cons (pv 2) pa_nil))))))
      (pss_one (ps_ret (pe_cmpR op_eq (pv 4) (pe_op op_add (pe_callD DSilentMany hr (pa_cons (pv 0) (pa_cons pe_int (pa_cons (pv 2) pa_nil)))) (pe_callD DSilentMany hr (pa_cons (pv 1) (pa_cons pe_int (pa_cons (pv 2) pa_nil))))) (nomark _)))))))))), ?_⟩
    have ls := len12 hs hb hn
    have lt := len12 ht hc hn
    have lts := len12 (T_rs hs hb) (T_below hs hb) hn
    have ltt := len12 (T_rs ht hc) (T_below ht hc) hn
    have mul12 : ∀ a b : Nat, a ≤ 12 → b ≤ 12 → a * b ≤ 200 := fun a b h1 h2 => Nat.le_trans (Nat.mul_le_mul h1 h2) (by decide)
    -- turned = [other_way(story, most) for story in (one, other)]
    refine rd_seq (rd_asg ?_)
    refine lc_tpl (R := StV) (G := StV) (fun ms => ms = [s, t]) (fun m : Sty => otherF m (n : Int)) stays_st stays_st (fun Q' h => ⟨v, rfl, u, rfl, two _ _, fun p np => h _ p _ _ rfl (same_upd np) upd_same (.cons (hv.same (same_upd np)) (.cons (hu.same (same_upd np)) .nil))⟩)
      (fun ms e => by rw [e]; exact (by decide : 2 < 16777216)) (fun ms e x m hm H2 s2 hx Q' h => ?_) (fun _ => rfl) (fun ms D H1 ys e s1 nD hD hR => ?_)
    · have hml : m.length ≤ 100 := by
        rw [e] at hm
        rcases List.mem_cons.mp hm with e | hm
        · rw [e]; omega
        · rw [List.mem_singleton.mp hm]; omega
      exact ⟨x, rfl, .int n, rfl, x, m, (n : Int), rfl, hx, hml, fun H3 y s3 hy => h y H3 s3 hy⟩
    subst e
    refine rd_name ?_
    dsimp only
    cases hR with
    | cons hy0 hR =>
    rename_i y0 ys
    cases hR with
    | cons hy1 hR =>
    rename_i y1 ys
    cases hR
    have hy0 : StV H1 y0 (otherF s n) := hy0
    have hy1 : StV H1 y1 (otherF t n) := hy1
    -- [other_way(story, most) for story in turned] != [one, other]
    refine rd_seq (rd_if (rd_test (rd_op ?_)))
    refine lc_lst (R := StV) (G := StV) (fun ms => ms = [otherF s n, otherF t n]) (fun m : Sty => otherF m (n : Int)) stays_st stays_st (fun Q' h => ⟨.ref D, rfl, h H1 D _ _ rfl (Same.refl _) hD (.cons hy0 (.cons hy1 .nil))⟩)
      (fun ms e => by rw [e]; exact (by decide : 2 < 16777216)) (fun ms e x m hm H2 s2 hx Q' h => ?_) (fun _ => rfl) (fun ms D2 H2 zs e s2 nD2 hD2 hR2 => ?_)
    · have hml : m.length ≤ 100 := by
        rw [e] at hm
        rcases List.mem_cons.mp hm with e | hm
        · rw [e]; omega
        · rw [List.mem_singleton.mp hm]; omega
      exact ⟨x, rfl, .int n, rfl, x, m, (n : Int), rfl, hx, hml, fun H3 y s3 hy => h y H3 s3 hy⟩
    subst e
    have hR2 : Paired (StV H2) zs [otherF (otherF s n) n, otherF (otherF t n) n] := hR2
    rw [T_back hs hb, T_back ht hc] at hR2
    refine ⟨v, rfl, u, rfl, two _ _, fun p np => ?_⟩
    have s3 : Same H2 (upd H2 p (.lst [v, u])) := same_upd np
    have s13 := (s1.trans s2).trans s3
    have dz : Dp K (upd H2 p (.lst [v, u])) (.ref D2) (dSs [s, t]) := dp_stories (s3 _ _ hD2) (Paired.imp (fun _ _ z => StV.same s3 z) hR2)
    have dp : Dp K (upd H2 p (.lst [v, u])) (.ref p) (dSs [s, t]) := dp_stories upd_same (.cons (hv.same s13) (.cons (hu.same s13) .nil))
    refine ⟨dSs [s, t], dSs [s, t], dz, dp, dSs_shaped _, dSs_shaped _, _, rfl, ?_⟩
    rw [dSs_eqv, decide_eq_true rfl]
    refine iteF ?_
    have sD : Same H1 (upd H2 p (.lst [v, u])) := s2.trans s3
    generalize upd H2 p (.lst [v, u]) = H3 at *
    have hD3 : SqL K H3 D [y0, y1] := SqL.of (sD _ _ hD)
    have hy03 := hy0.same sD
    have hy13 := hy1.same sD
    -- other_way(either(one, other), most) != both(turned[0], turned[1])
    refine ⟨v, rfl, u, rfl, v, u, s, t, rfl, hv.same s13, hu.same s13, hs, ht, by omega, fun H4 y4 r4 s4 h4 hr4 e4 => ?_⟩
    have l4 := len12 hr4 (or_below hb hc hr4 e4) hn
    refine ⟨.int n, rfl, y4, r4, (n : Int), rfl, h4, by omega, fun H5 y5 s5 h5 => ?_⟩
    have s35 := s4.trans s5
    refine ⟨.ref D, rfl, D, _, _, y0, rfl, rfl, s35.seq hD3, atI_nat (j := 0) rfl, .ref D, rfl, D, _, _, y1, rfl, rfl, s35.seq hD3, atI_nat (j := 1) rfl, ?_⟩
    refine ⟨y0, y1, otherF s n, otherF t n, rfl, hy03.same s35, hy13.same s35, T_rs hs hb, T_rs ht hc, mul12 _ _ lts ltt, fun H6 y6 r6 s6 h6 hr6 e6 => ?_⟩
    refine ⟨dS (otherF r4 n), dS r6, dp_story (h5.same s6), dp_story h6, dS_shaped _, dS_shaped _, _, rfl, ?_⟩
    rw [dS_eqv, decide_eq_true (T_or hs hb ht hc hr4 e4 hr6 e6)]
    refine iteF ?_
    have s36 := s35.trans s6
    have s16 := s13.trans s36
    -- other_way(both(one, other), most) != either(turned[0], turned[1])
    refine ⟨v, rfl, u, rfl, v, u, s, t, rfl, hv.same s16, hu.same s16, hs, ht, mul12 _ _ ls lt, fun H7 y7 r7 s7 h7 hr7 e7 => ?_⟩
    have l7 := len12 hr7 (and_below hb hr7 e7) hn
    refine ⟨.int n, rfl, y7, r7, (n : Int), rfl, h7, by omega, fun H8 y8 s8 h8 => ?_⟩
    have s38 := (s36.trans s7).trans s8
    refine ⟨.ref D, rfl, D, _, _, y0, rfl, rfl, s38.seq hD3, atI_nat (j := 0) rfl, .ref D, rfl, D, _, _, y1, rfl, rfl, s38.seq hD3, atI_nat (j := 1) rfl, ?_⟩
    refine ⟨y0, y1, otherF s n, otherF t n, rfl, hy03.same s38, hy13.same s38, T_rs hs hb, T_rs ht hc, by omega, fun H9 y9 r9 s9 h9 hr9 e9 => ?_⟩
    refine ⟨dS (otherF r7 n), dS r9, dp_story (h8.same s9), dp_story h9, dS_shaped _, dS_shaped _, _, rfl, ?_⟩
    rw [dS_eqv, decide_eq_true (T_and hs hb ht hc hr7 e7 hr9 e9)]
    refine iteF ?_
    have s39 := s38.trans s9
    have s19 := s13.trans s39
    -- silent_many(one, 0, most) + silent_many(turned[0], 0, most) != most
    refine ⟨v, rfl, .int n, rfl, v, s, 0, (n : Int), rfl, hv.same s19, by omega, fun Ha sa => ?_⟩
    have s3a := s39.trans sa
    refine ⟨.ref D, rfl, D, _, _, y0, rfl, rfl, s3a.seq hD3, atI_nat (j := 0) rfl, .int n, rfl, y0, otherF s n, 0, (n : Int), rfl, hy03.same s3a, by omega, fun Hb sb => ?_⟩
    have s1b := (s13.trans s3a).trans sb
    refine ⟨_, _, rfl, rfl, .int n, rfl, rfl, _, rfl, ifF (ne_no ?_) ?_⟩
    · show V.int (silMany s 0 n + silMany (otherF s n) 0 n) = V.int n
      rw [T_many hs hb]
    -- together
    refine ⟨v, rfl, u, rfl, v, u, s, t, rfl, hv.same s1b, hu.same s1b, hs, ht, by omega, fun Hc yc rc sc hyc hrc ec => ?_⟩
    have lc := len12 hrc (or_below hb hc hrc ec) hn
    refine ⟨.int n, rfl, yc, rc, 0, (n : Int), rfl, hyc, by omega, fun Hd sd => ?_⟩
    have s1d := (s1b.trans sc).trans sd
    refine ⟨v, rfl, u, rfl, v, u, s, t, rfl, hv.same s1d, hu.same s1d, hs, ht, mul12 _ _ ls lt, fun He ye re se hye hre ee => ?_⟩
    have le := len12 hre (and_below hb hre ee) hn
    refine ⟨.int n, rfl, ye, re, 0, (n : Int), rfl, hye, by omega, fun Hf sf => ?_⟩
    have s1f := (s1d.trans se).trans sf
    refine ⟨_, _, rfl, rfl, ?_⟩
    refine ⟨_, rfl, v, rfl, .int n, rfl, v, s, 0, (n : Int), rfl, hv.same s1f, by omega, fun Hg sg => ?_⟩
    have s1g := s1f.trans sg
    refine ⟨u, rfl, .int n, rfl, u, t, 0, (n : Int), rfl, hu.same s1g, by omega, fun Hh sh => ⟨_, _, rfl, rfl, rfl, ?_⟩⟩
    show Q (.bl (decide (V.int (silMany rc 0 n + silMany re 0 n) = V.int (silMany s 0 n + silMany t 0 n)))) Hh
    rw [two_many hs hb ht hc hrc ec hre ee, decide_eq_true rfl]
    exact q _ (s1g.trans sh)
def spLooksRight : Sp := fun vs H Q _ => ∃ (v : V) (s : Sty), vs = [v] ∧ StV H v s ∧ Rs s ∧ Below 24 s ∧ ∀ H', Same H H' → Q (.bl true) H'
theorem cut4 (xs : List V) : cutV xs none (some 4) = xs.take 4 := by
  unfold cutV
  rw [HT.sIx_none, show HT.sIx xs.length xs.length (some 4) = min 4 xs.length from HT.sIx_nat xs.length xs.length 4]
  show xs.take (min 4 xs.length - 0) = xs.take 4
  rw [Nat.sub_zero]
  by_cases c : 4 ≤ xs.length
  · rw [Nat.min_eq_left c]
  · rw [Nat.min_eq_right (by omega), List.take_length, List.take_of_length_le (by omega)]
theorem sl4 {a : Addr} {xs : List V} {H : Hp} {Q : VK} (ha : H a = some (.tup xs)) (h : ∀ c H3, Same H H3 → H3 c = some (.tup (xs.take 4)) → Q (.ref c) H3) : rSlA K (.ref a) none (some 4) H Q := by
  refine ⟨a, xs, rfl, SqT.of ha, fun e => h a H (Same.refl _) ?_, fun e p np => h p _ (same_upd np) ?_⟩
  · have e1 : min 4 xs.length = xs.length := (HT.sIx_nat xs.length xs.length 4).symm.trans e.2
    rw [ha, List.take_of_length_le (by omega)]
  · rw [cut4, upd_same]
theorem looks_take {t : Sty} {i : Nat} {p : Int × Int} (h : t[i]? = some p) : looksOf (t.take (i + 1)) = looksOf (t.take i) ++ lkOf p := by
  rw [take_snoc h]
  unfold looksOf
  rw [List.flatMap_append]
  simp
theorem looks_ok {t : Sty} (ht : Rs t) (hb : Below 24 t) (hl : t.length ≤ 4) : LksOk (looksOf t) := by
  refine ⟨by rw [looks_len]; omega, fun l hm => ?_⟩
  obtain ⟨p, hp, hm⟩ := List.mem_flatMap.mp hm
  have h1 := ht.ok p hp
  have h2 := hb p hp
  have hm : l ∈ [((p.2, true) : Lk), (p.1, false), (p.2 - 1, false)] := hm
  rcases List.mem_cons.mp hm with e | hm
  · rw [e]; exact ⟨by show 0 ≤ p.2; omega, by show p.2 < 1000000; omega⟩
  · rcases List.mem_cons.mp hm with e | hm
    · rw [e]; exact ⟨h1.1, by show p.1 < 1000000; omega⟩
    · rw [List.mem_singleton.mp hm]; exact ⟨by show 0 ≤ p.2 - 1; omega, by show p.2 - 1 < 1000000; omega⟩
abbrev sLawLooksRight : Stmt := topS 49
theorem scLawLooksRight : FnScope ["_law_story", "_law_looks", "_law_begin", "_law_end", "_law_found"] ["_law_story"] (defScope sLawLooksRight) := ⟨rfl, rfl, rfl, by decide +kernel, rfl, by decide +kernel, by decide +kernel⟩
theorem ok_looks_right {f : Addr} {fd : FuncData} (F : Fun K "_law_looks_right" "_law_looks_right" sLawLooksRight f fd) (T : Txt K mg t1 t2 t3 t4 aW)
    (DStoryFor : Def P w K mg base 5 "story_for" ["looks"] spStoryFor) (DHolds : Def P w K mg base 5 "holds" ["story", "thing"] spHolds) : FnOk P w K mg base CX0 6 f fd ["_law_story"] spLooksRight := by
  refine F.ok scLawLooksRight (fun vs H Q E h => ?_) (fun cdv A outer s H vs Q E hr h => ?_)
  · obtain ⟨v, s, rfl, _⟩ := h
    rfl
  · obtain ⟨v, s, rfl, hv, hs, hb, q⟩ := h
    refine ⟨_, (pss_cons (ps_set (i := 1) scLawLooksRight.nd rfl (Or.inl rfl) (pe_lst pa_nil))
      (pss_cons (ps_for PassesOwn.never rfl (pi_tup (pe_slice sl_tupA (pv 0) po_none (po_some pe_int))) (pg_tup rfl (pgs_cons (pg_name (i := 2) scLawLooksRight.nd rfl (Or.inl rfl)) (pgs_cons (pg_name (i := 3) scLawLooksRight.nd rfl (Or.inl rfl)) pgs_nil)))
        (pss_one (ps_set (i := 1) scLawLooksRight.nd rfl (Or.inl rfl) (pe_op op_cat (pv 1) (pe_lst (pa_cons (pe_tup (pa_cons (pv 3) (pa_cons pe_str pa_nil))) (pa_cons (pe_tup (pa_cons (pv 2) (pa_cons pe_str pa_nil))) (pa_cons (pe_tup (pa_cons (pe_op op_sub (pv 3) pe_int) (pa_cons pe_str pa_nil))) pa_nil))))))))
      (pss_cons (ps_set (i := 4) scLawLooksRight.nd rfl (Or.inl rfl) (pe_callD DStoryFor hr (pa_cons (pe_callTy call_tuple_of (by rfl) T.m_tuple b_tuple (pa_cons (pv 1) pa_nil)) pa_nil)))
      (pss_one (ps_ret (pe_and (pe_cmpR (op_eqD hr.units) (pv 4) (pe_slice sl_tupA (pv 0) po_none (po_some pe_int)) (nomark _)) (pe_and (pe_cmpR op_isBl (pe_callD DHolds hr (pa_cons (pv 0) (pa_cons (pe_callTy call_tuple_of (by rfl) T.m_tuple b_tuple (pa_cons (pv 1) pa_nil)) pa_nil))) pe_bl (nomark _)) (pe_one (pe_cmpR op_isBl (pe_callD DHolds hr (pa_cons (pv 4) (pa_cons (pe_callTy call_tuple_of (by rfl) T.m_tuple b_tuple (pa_cons (pv 1) pa_nil)) pa_nil))) pe_bl (nomark _)))))))))), ?_⟩
    have ls : s.length ≤ 12 := len12 (n := 24) hs hb (by decide)
    obtain ⟨a, xs, rfl, ha, hp⟩ := hv
    have hst : ∀ H', Same H H' → StV H' (.ref a) s := fun H' sm => StV.same sm ⟨a, xs, rfl, ha, hp⟩
    have hts : Rs (s.take 4) := hs.take 4
    have htb : Below 24 (s.take 4) := fun p m => hb p (List.mem_of_mem_take m)
    have htl : (s.take 4).length ≤ 4 := by
      rw [List.length_take]
      omega
    have hok := looks_ok hts htb htl
    -- looks = []
    refine ⟨Nat.zero_le _, fun o no => ?_⟩
    have s0 : Same H (upd H o (.lst [])) := same_upd no
    -- for begin, end in story[:4]
    refine ⟨.ref a, rfl, ?_⟩
    refine rd_noPart ?_
    refine ⟨4, rfl, ?_⟩
    refine sl4 (s0 _ _ ha) fun c H1 s1 hc => ?_
    have hp1 : Paired (PairV H1) (xs.take 4) (s.take 4) := Paired.tk 4 (pairs_same (s0.trans s1) hp)
    have ho1 := s1 _ _ (upd_same (H := H) (a := o) (o := .lst []))
    have lt := Paired.len hp1
    refine ⟨c, rfl, ⟨_, SqT.of hc⟩, for_tup (K := K) (a := c) (xs := xs.take 4) (fun i σ H' => ∃ b lx y2 y3, σ = [some (.ref a), some (.ref b), y2, y3, none] ∧ Same H1 H' ∧ H' b = some (.lst lx) ∧ Paired (LkV H') lx (looksOf ((s.take 4).take i)))
      ⟨o, [], none, none, rfl, Same.refl _, ho1, .nil⟩ (fun i σ H' _ h => ?_) (fun i x σ H' hx h => ?_) (fun σ H' h => ?_)⟩
    · obtain ⟨_, _, _, _, _, sm, _⟩ := h
      exact SqT.of (sm _ _ hc)
    · obtain ⟨b, lx, y2, y3, rfl, sm, hb2, hlx⟩ := h
      obtain ⟨p, hsp, t, rfl, htp⟩ := Paired.get hp1 hx
      have hi : i < (s.take 4).length := (List.getElem?_eq_some_iff.mp hsp).1
      have lxl : lx.length ≤ 12 := by
        rw [Paired.len hlx, looks_len, List.length_take]
        omega
      refine ⟨t, _, rfl, SqT.of (sm _ _ htp), rfl, _, _, rfl, _, _, rfl, rfl, ?_⟩
      refine ⟨.ref b, rfl, ?_⟩
      refine ⟨.int p.2, rfl, two _ _, fun d1 n1 => ⟨.int p.1, rfl, two _ _, fun d2 n2 => ⟨.int p.2, rfl, p.2, 1, rfl, rfl, two _ _, fun d3 n3 => ⟨small 3 (by decide), fun d4 n4 => ?_⟩⟩⟩⟩
      have q1 : Same H' (upd H' d1 (.tup [.int p.2, .str "sound"])) := same_upd n1
      have k1 : LkV (upd H' d1 (.tup [.int p.2, .str "sound"])) (.ref d1) (p.2, true) := ⟨d1, rfl, upd_same⟩
      generalize upd H' d1 (.tup [.int p.2, .str "sound"]) = Ha at *
      have q2 : Same Ha (upd Ha d2 (.tup [.int p.1, .str "silent"])) := same_upd n2
      have k2 : LkV (upd Ha d2 (.tup [.int p.1, .str "silent"])) (.ref d2) (p.1, false) := ⟨d2, rfl, upd_same⟩
      generalize upd Ha d2 (.tup [.int p.1, .str "silent"]) = Hb at *
      have q3 : Same Hb (upd Hb d3 (.tup [.int (p.2 - 1), .str "silent"])) := same_upd n3
      have k3 : LkV (upd Hb d3 (.tup [.int (p.2 - 1), .str "silent"])) (.ref d3) (p.2 - 1, false) := ⟨d3, rfl, upd_same⟩
      generalize upd Hb d3 (.tup [.int (p.2 - 1), .str "silent"]) = Hc at *
      have q4 : Same Hc (upd Hc d4 (.lst [.ref d1, .ref d2, .ref d3])) := same_upd n4
      have hd4 : (upd Hc d4 (.lst [.ref d1, .ref d2, .ref d3])) d4 = some (.lst [.ref d1, .ref d2, .ref d3]) := upd_same
      generalize upd Hc d4 (.lst [.ref d1, .ref d2, .ref d3]) = Hd at *
      have q14 : Same H' Hd := ((q1.trans q2).trans q3).trans q4
      refine ⟨b, d4, _, _, rfl, rfl, q14 _ _ hb2, hd4, small _ (by show lx.length + 3 ≤ 16777216; omega), fun e ne => ?_⟩
      have q5 : Same Hd (upd Hd e (.lst (lx ++ [.ref d1, .ref d2, .ref d3]))) := same_upd ne
      refine ⟨e, _, _, _, rfl, sm.trans (q14.trans q5), upd_same, ?_⟩
      rw [looks_take hsp]
      exact Paired.app (lks_same (q14.trans q5) hlx) (.cons (k1.same (((q2.trans q3).trans q4).trans q5)) (.cons (k2.same ((q3.trans q4).trans q5)) (.cons (k3.same (q4.trans q5)) .nil)))
    · obtain ⟨b, lx, y2, y3, rfl, sm, hb2, hlx⟩ := h
      rw [lt, List.take_length] at hlx
      have s01 := (s0.trans s1).trans sm
      -- found = story_for(tuple(looks))
      refine ⟨.ref b, rfl, b, lx, rfl, .inl ⟨SqL.of hb2, fun d nd => ?_⟩⟩
      have sd : Same H' (upd H' d (.tup lx)) := same_upd nd
      have kd : LksV (upd H' d (.tup lx)) (.ref d) (looksOf (s.take 4)) := ⟨d, lx, rfl, upd_same, lks_same sd hlx⟩
      refine ⟨.ref d, looksOf (s.take 4), s.take 4, rfl, kd, hok, fun L' perm srt => ?_, fun H3 y s3 hy => ?_⟩
      · have e : L' = looksIn (s.take 4) := sorted_one (fun a b h k => lkLe_antisymm h k) (perm.trans (looks_perm _).symm) srt (looksIn_sorted hts)
        rw [e]
        exact sfRun_looks [] hts
      have s03 := (s01.trans sd).trans s3
      -- found == story[:4]
      refine ⟨y, rfl, .ref a, rfl, ?_⟩
      refine rd_noPart ?_
      refine ⟨4, rfl, ?_⟩
      refine sl4 (s03 _ _ ha) fun c2 H4 s4 hc2 => ?_
      have s04 := s03.trans s4
      refine ⟨dS (s.take 4), dS (s.take 4), dp_story (hy.same s4), dp_story ⟨c2, _, rfl, hc2, Paired.tk 4 (pairs_same s04 hp)⟩, dS_shaped _, dS_shaped _, _, rfl, ?_⟩
      rw [dS_eqv, decide_eq_true rfl]
      refine iteT ?_
      -- holds(story, tuple(looks)) is True
      have hb4 := ((sd.trans s3).trans s4) _ _ hb2
      have hl4 := lks_same ((sd.trans s3).trans s4) hlx
      refine ⟨.ref a, rfl, .ref b, rfl, b, lx, rfl, .inl ⟨SqL.of hb4, fun d5 nd5 => ?_⟩⟩
      have sd5 : Same H4 (upd H4 d5 (.tup lx)) := same_upd nd5
      refine ⟨.ref a, .ref d5, s, looksOf (s.take 4), rfl, hst _ (s04.trans sd5), by omega, ⟨d5, lx, rfl, upd_same, lks_same sd5 hl4⟩, hok, held_of hs fun p m => List.mem_of_mem_take m, fun H6 s6 => ⟨true, true, rfl, rfl, _, rfl, iteT ?_⟩⟩
      have s46 := sd5.trans s6
      have s06 := s04.trans s46
      refine ⟨y, rfl, .ref b, rfl, b, lx, rfl, .inl ⟨SqL.of (s46 _ _ hb4), fun d7 nd7 => ?_⟩⟩
      have sd7 : Same H6 (upd H6 d7 (.tup lx)) := same_upd nd7
      refine ⟨y, .ref d7, s.take 4, looksOf (s.take 4), rfl, hy.same ((s4.trans s46).trans sd7), by omega, ⟨d7, lx, rfl, upd_same, lks_same (s46.trans sd7) hl4⟩, hok, held_of hts fun p m => m, fun H8 s8 => ⟨true, true, rfl, rfl, ?_⟩⟩
      exact q _ ((s06.trans sd7).trans s8)
end
end Kp

namespace Kp
open PySem PySem.Spec PyProof.Rows L2
def spLaw (K : PySem.W.Frag) : Sp := fun vs H Q _ => ∃ (a : Addr) (ns : List Int), vs = [.ref a] ∧ SqL K H a (ns.map V.int) ∧ ns.length ≤ 63 ∧ ∀ H', Q (.bl true) H'
theorem SameBut.same {H H1 H2 : Hp} {p : Addr} (s : Same H H1) (np : H p = none) (b : SameBut p H1 H2) : Same H H2 := fun c o e => b c o (ne_of_none e np) (s c o e)
theorem StV.but {H1 H2 : Hp} {p : Addr} (b : SameBut p H1 H2) (hp : PenV H1 p) {v : V} {s : Sty} (h : StV H1 v s) : StV H2 v s := by
  obtain ⟨l, f, d, hl, _⟩ := hp
  obtain ⟨a, xs, rfl, ha, hx⟩ := h
  refine ⟨a, xs, rfl, b a _ (ne_of ha hl (by intro q; cases q)) ha, Paired.imp (fun v q z => ?_) hx⟩
  obtain ⟨t, rfl, e⟩ := z
  exact ⟨t, rfl, b t _ (ne_of e hl (by intro q; cases q)) e⟩
theorem PenV.same {H H' : Hp} {p : Addr} (s : Same H H') (h : PenV H p) : PenV H' p := by
  obtain ⟨l, f, d, hl, r⟩ := h
  exact ⟨l, f, d, s _ _ hl, r⟩
theorem PenV.some {H : Hp} {p : Addr} (h : PenV H p) : ∃ o, H p = some o := by
  obtain ⟨l, f, d, hl, _⟩ := h
  exact ⟨_, hl⟩
theorem cut_ints {ns : List Int} {lo hi : Option Int} {x : V} (h : x ∈ cutV (ns.map V.int) lo hi) : ∃ i, x = V.int i := by
  unfold cutV at h
  obtain ⟨i, _, e⟩ := List.mem_map.mp (List.mem_of_mem_drop (List.mem_of_mem_take h))
  exact ⟨i, e.symm⟩
theorem marks_shift {s : Sty} (hs : Rs s) (k n : Nat) : marksF (shift s (k : Int)) (k + n) = List.replicate k false ++ marksF s n := by
  have e1 : List.range (k + n) = List.range k ++ (List.range n).map (k + ·) := List.range_add
  unfold marksF
  rw [e1, List.map_append, List.map_map]
  congr 1
  · refine List.eq_replicate_iff.mpr ⟨by rw [List.length_map, List.length_range], fun b hb => ?_⟩
    obtain ⟨i, hi, rfl⟩ := List.mem_map.mp hb
    have hi := List.mem_range.mp hi
    rw [sil_shift, Bool.eq_false_iff]
    intro e
    have := hs.sil_nonneg e
    omega
  · refine List.map_congr_left fun i _ => ?_
    show sil (shift s (k : Int)) ((k + i : Nat) : Int) = sil s (i : Int)
    rw [sil_shift, show ((k + i : Nat) : Int) - (k : Int) = (i : Int) by omega]
theorem rep_false (k : Nat) : (List.replicate k [V.bl false]).flatten = (List.replicate k false).map V.bl := by
  induction k with
  | zero => rfl
  | succ k ih =>
    rw [List.replicate_succ, List.flatten_cons, ih, List.replicate_succ]
    rfl
theorem nums_stories {H : Hp} : ∀ {xs : List V} {ns : List Int}, Paired (HasNum H) xs ns → ∃ ss : List Sty, Paired (StV H) xs ss ∧ ∀ (m : Nat) (s : Sty), (m : Int) ∈ ns → StoryN m s → s ∈ ss
  | _, _, .nil => ⟨[], .nil, fun m s h _ => by cases h⟩
  | _, _, .cons r t => by
    obtain ⟨ss, h1, h2⟩ := nums_stories t
    obtain ⟨m, q, e, hq, hN⟩ := r
    refine ⟨q :: ss, .cons hq h1, fun m' s h hs => ?_⟩
    rcases List.mem_cons.mp h with e' | h
    · have em : m' = m := by omega
      subst em
      rw [hs.uniq hN]
      exact List.mem_cons_self
    · exact List.mem_cons_of_mem _ (h2 m' s h hs)
theorem silMany_bits {m n : Nat} {s : Sty} (h : StoryN m s) (hm : m < 2 ^ n) : silMany s 0 n = cnt (fun x => m.testBit x) n := by
  rw [silMany_all h.rs (h.below hm) (Int.le_refl _)]
  refine cnt_congr fun x _ => ?_
  rw [h.sil, decide_eq_true (by omega : (0 : Int) ≤ (x : Int)), Bool.true_and, Int.toNat_natCast]
section
variable {P : Program} {w : World} {K : PySem.W.Frag} {mg : Str → Option Value} {base : Heap} {t1 t2 t3 t4 : Tok} {aW : Addr}
abbrev sLaw : Stmt := topS 50
theorem scLaw : FnScope ["_law_script", "_law_cell", "_law_pen", "_law_most", "_law_by", "_law_one", "_law_other", "_law_few", "_law_turn"] ["_law_script"] (defScope sLaw) := ⟨rfl, rfl, rfl, by decide +kernel, rfl, by decide +kernel, by decide +kernel⟩
theorem ok_law {f : Addr} {fd : FuncData} (F : Fun K "law" "law" sLaw f fd) (T : Txt K mg t1 t2 t3 t4 aW)
    (DLawCellAt : Def P w K mg base 1 "_law_cell_at" ["_law_script", "_law_k"] (spCellAt K)) (DLawPenOf : Def P w K mg base 1 "_law_pen_of" ["_law_cell"] spPenOf) (DLawDraw : Def P w K mg base 2 "_law_draw" ["_law_pen", "_law_many"] spDraw)
    (DStoryAt : Def P w K mg base 3 "story_at" ["number", "many"] spStoryAt) (DLawOneRight : Def P w K mg base 5 "_law_one_right" ["_law_story", "_law_most"] spOneRight) (DLawTwoRight : Def P w K mg base 3 "_law_two_right" ["_law_one", "_law_other", "_law_most"] spTwoRight)
    (DLaterBy : Def P w K mg base 1 "later_by" ["story", "by"] spLater) (DLawLooksRight : Def P w K mg base 6 "_law_looks_right" ["_law_story"] spLooksRight) (DLawMarks : Def P w K mg base 2 "_law_marks" ["_law_story", "_law_most"] spMarks)
    (DSilentMany : Def P w K mg base 1 "silent_many" ["story", "first", "last"] spSilentMany) (DStoriesWith : Def P w K mg base 3 "stories_with" ["many", "silent"] spStoriesWith) : FnOk P w K mg base CX0 7 f fd ["_law_script"] (spLaw K) := by
  refine F.ok scLaw (fun vs H Q E h => ?_) (fun cdv A outer s H vs Q E hr h => ?_)
  · obtain ⟨a, ns, rfl, _⟩ := h
    rfl
  · obtain ⟨a, ns, rfl, hS, hlen, q⟩ := h
    refine ⟨_, (pss_cons (ps_for PassesOwn.never rfl (pi_list (pe_op op_cat (pe_lst (pa_cons (pe_callD DLawCellAt hr (pa_cons (pv 0) (pa_cons pe_int pa_nil))) pa_nil)) (pe_slice sl_list (pv 0) (po_some pe_int) (po_some pe_int)))) (pg_name (i := 1) scLaw.nd rfl (Or.inl rfl))
        (pss_cons (ps_set (i := 2) scLaw.nd rfl (Or.inr rfl) (pe_callD DLawPenOf hr (pa_cons (pv 1) pa_nil)))
        (pss_cons (ps_asg (pe_tup (pa_cons (pe_op op_add pe_int (pe_callD DLawDraw hr (pa_cons (pv 2) (pa_cons pe_int pa_nil)))) (pa_cons (pe_callD DLawDraw hr (pa_cons (pv 2) (pa_cons pe_int pa_nil))) pa_nil))) (pg_tup rfl (pgs_cons (pg_name (i := 3) scLaw.nd rfl (Or.inr rfl)) (pgs_cons (pg_name (i := 4) scLaw.nd rfl (Or.inl rfl)) pgs_nil))))
        (pss_cons (ps_asg (pe_lc (own := [("_law_turn", 8)]) (g := (gName 8)) (tt := tYes) rfl scLaw.nd (pi_range1 (by rfl) T.m_range (pa_cons pe_int pa_nil)) (blkOk_by (own := [("_law_turn", 8)]) (N := ["_law_script", "_law_cell", "_law_pen", "_law_most", "_law_by", "_law_one", "_law_other", "_law_few", "_law_turn"]) (sc := defScope sLaw) (by decide +kernel)) (fun _ _ _ _ _ => (pg_name (i := 8) scLaw.nd rfl (Or.inl rfl))) (fun _ _ _ _ _ => pts_nil) (fun _ _ _ _ _ => (pe_callD DStoryAt hr (pa_cons (pe_callD DLawDraw hr (pa_cons (pv 2) (pa_cons (pe_op op_shl pe_int (pv 3)) pa_nil))) (pa_cons (pv 3) pa_nil))))) (pg_lst rfl (pgs_cons (pg_name (i := 5) scLaw.nd rfl (Or.inl rfl)) (pgs_cons (pg_name (i := 6) scLaw.nd rfl (Or.inl rfl)) pgs_nil))))
        (pss_cons (ps_if (PW.pt (pw_or (pt_not (pt_val (pe_callD DLawOneRight hr (pa_cons (pv 5) (pa_cons (pv 3) pa_nil))))) (pw_or (pt_not (pt_val (pe_callD DLawOneRight hr (pa_cons (pv 6) (pa_cons (pv 3) pa_nil))))) (pw_or1 (pt_not (pt_val (pe_callD DLawTwoRight hr (pa_cons (pv 5) (pa_cons (pv 6) (pa_cons (pv 3) pa_nil))))))))))
          (pss_one (ps_ret pe_bl))
          pss_nil)
        (pss_cons (ps_if (PW.pt (pw_or (pt_cmpR (op_neD hr.units) (pe_callD DLaterBy hr (pa_cons (pe_callD DLaterBy hr (pa_cons (pv 5) (pa_cons (pv 4) pa_nil))) (pa_cons (pe_op op_sub pe_int (pv 4)) pa_nil))) (pv 5) (nomark _)) (pw_or (pt_not (pt_val (pe_callD DLawLooksRight hr (pa_cons (pv 5) pa_nil)))) (pw_or1 (pt_not (pt_val (pe_callD DLawLooksRight hr (pa_cons (pv 6) pa_nil))))))))
          (pss_one (ps_ret pe_bl))
          pss_nil)
        (pss_cons (ps_if (pt_cmpR (op_neD hr.units) (pe_callD DLawMarks hr (pa_cons (pe_callD DLaterBy hr (pa_cons (pv 5) (pa_cons (pv 4) pa_nil))) (pa_cons (pe_op op_add (pv 4) (pv 3)) pa_nil))) (pe_op op_cat (pe_op op_rep (pe_lst (pa_cons pe_bl pa_nil)) (pv 4)) (pe_callD DLawMarks hr (pa_cons (pv 5) (pa_cons (pv 3) pa_nil)))) (nomark _))
          (pss_one (ps_ret pe_bl))
          pss_nil)
        (pss_cons (ps_set (i := 7) scLaw.nd rfl (Or.inl rfl) (pe_callD DSilentMany hr (pa_cons (pv 5) (pa_cons pe_int (pa_cons (pv 3) pa_nil)))))
        (pss_one (ps_if (PW.pt (pw_and (pt_cmpR op_lt (pv 3) pe_int (nomark _)) (pw_and1 (pt_cmpR (op_notInD (hu65 hr)) (pv 5) (pe_callD DStoriesWith hr (pa_cons (pv 3) (pa_cons (pv 7) pa_nil))) (by rfl)))))
          (pss_one (ps_ret pe_bl))
          pss_nil))))))))))
      (pss_one (ps_ret pe_bl))), ?_⟩
    -- [cell_at(script, 0)] + script[1:4]
    refine ⟨.ref a, rfl, a, ns, rfl, hS, fun z => ⟨small 1 (by decide), fun p0 n0 => ?_⟩⟩
    have s0 : Same H (upd H p0 (.lst [.int z])) := same_upd n0
    refine ⟨.ref a, rfl, 1, rfl, 4, rfl, a, _, rfl, s0.seq hS, fun p1 n1 => ?_⟩
    have s1 := same_upd (o := .lst (cutV (ns.map V.int) (some 1) (some 4))) n1
    have hcl : (cutV (ns.map V.int) (some 1) (some 4)).length ≤ 63 := by
      have := cutV_length (ns.map V.int) (some 1) (some 4)
      rw [List.length_map] at this
      omega
    refine ⟨p0, p1, _, _, rfl, rfl, s1 _ _ upd_same, upd_same, small _ (by rw [List.length_singleton]; omega), fun D nD => ?_⟩
    have hint : ∀ x ∈ [V.int z] ++ cutV (ns.map V.int) (some 1) (some 4), ∃ i, x = V.int i := fun x hx => by
      rcases List.mem_append.mp hx with hx | hx
      · exact ⟨z, List.mem_singleton.mp hx⟩
      · exact cut_ints hx
    generalize [V.int z] ++ cutV (ns.map V.int) (some 1) (some 4) = xs at *
    have hD : (upd (upd (upd H p0 (.lst [.int z])) p1 (.lst (cutV (ns.map V.int) (some 1) (some 4)))) D (.lst xs)) D = some (.lst xs) := upd_same
    generalize upd (upd (upd H p0 (.lst [.int z])) p1 (.lst (cutV (ns.map V.int) (some 1) (some 4)))) D (.lst xs) = H1 at *
    refine ⟨D, rfl, ⟨xs, SqL.of hD⟩, for_list (K := K) (a := D) (xs := xs) (fun i σ H' => ∃ y1 y2 y3 y4 y5 y6 y7, σ = [some (.ref a), y1, y2, y3, y4, y5, y6, y7, none] ∧ Same H1 H')
      ⟨none, none, none, none, none, none, none, rfl, Same.refl _⟩ (fun i σ H' _ h => ?_) (fun i x σ H' hx h => ?_) (fun σ H' h => ?_)⟩
    · obtain ⟨_, _, _, _, _, _, _, _, sm⟩ := h
      exact SqL.of (sm _ _ hD)
    · obtain ⟨y1, y2, y3, y4, y5, y6, y7, rfl, sm⟩ := h
      obtain ⟨c, rfl⟩ := hint x (List.mem_of_getElem? hx)
      -- pen = pen_of(cell)
      refine ⟨.int c, rfl, c, rfl, fun H2 p s2 pen2 np => ?_⟩
      -- most, by = 1 + draw(pen, 24), draw(pen, 1000)
      refine ⟨.ref p, rfl, p, 24, rfl, pen2, by decide, by decide, fun H3 r1 b3 pen3 r10 r11 => ⟨1, r1, rfl, rfl, .ref p, rfl, p, 1000, rfl, pen3, by decide, by decide, fun H4 r2 b4 pen4 r20 r21 => ⟨two _ _, fun d nd => ?_⟩⟩⟩
      obtain ⟨n, en⟩ : ∃ n : Nat, (1 : Int) + r1 = (n : Int) := ⟨(1 + r1).toNat, by omega⟩
      obtain ⟨k, ek⟩ : ∃ k : Nat, r2 = (k : Int) := ⟨r2.toNat, by omega⟩
      subst ek
      have h1n : 1 ≤ n := by omega
      have hn : n ≤ 24 := by omega
      refine ⟨d, _, rfl, SqT.of upd_same, rfl, _, _, rfl, _, _, rfl, rfl, ?_⟩
      dsimp only
      rw [en]
      have s4 : Same H' H4 := SameBut.same (SameBut.same s2 np b3) np b4
      have s5 := s4.trans (same_upd (o := .tup [.int (n : Int), .int (k : Int)]) nd)
      have pen5 := pen4.same (same_upd (o := .tup [.int (n : Int), .int (k : Int)]) nd)
      generalize upd H4 d (.tup [.int (n : Int), .int (k : Int)]) = H5 at *
      have ep : (1 : Int) * 2 ^ ((n : Int)).toNat = ((2 ^ n : Nat) : Int) := by
        rw [Int.toNat_natCast, Int.one_mul, Int.natCast_pow]
        rfl
      have p24 : 2 ^ n ≤ 16777216 := Nat.pow_le_pow_right (n := 2) (by decide) hn
      have pp : 0 < 2 ^ n := Nat.pow_pos (by decide)
      -- one, other = [story_at(draw(pen, 1 << most), most) for turn in range(2)]
      refine rd_seq (rd_asg ?_)
      refine ⟨2, rfl, by decide, by decide, fun D2 nD2 => ?_⟩
      obtain ⟨po, hpo⟩ := pen5.some
      have npD : p ≠ D2 := ne_of_none hpo nD2
      refine lc_range (lo := 0) (n := 2) (fun i Hx => Same H' Hx ∧ PenV Hx p ∧ ∃ ys, Hx D2 = some (.lst ys) ∧ ys.length = i ∧ ∀ y ∈ ys, ∃ (m : Nat) (r : Sty), m < 2 ^ n ∧ StV Hx y r ∧ StoryN m r)
        ⟨s5.trans (same_upd nD2), pen5.same (same_upd nD2), [], upd_same, rfl, fun y hy => by cases hy⟩ (fun i Hx hi h => ?_) (fun Hx h => ?_)
      · obtain ⟨sx, penx, ys, hys, hyl, hall⟩ := h
        refine ⟨rfl, yes_if ?_⟩
        refine ⟨.ref p, rfl, .int n, rfl, 1, (n : Int), rfl, rfl, ⟨by omega, by omega, by decide⟩, p, _, rfl, penx, by rw [ep]; omega, by rw [ep]; omega, fun Hy r by_ peny r0 rlt => ?_⟩
        rw [ep] at rlt
        obtain ⟨m, rfl⟩ : ∃ m : Nat, r = (m : Int) := ⟨r.toNat, by omega⟩
        have hm : m < 2 ^ n := by omega
        refine ⟨.int n, rfl, m, n, rfl, hn, hm, fun Hz y st sz hy hN => ?_⟩
        have hD2 := sz _ _ (by_ D2 _ npD.symm hys)
        have nHD : H' D2 = none := s5.free nD2
        refine ⟨ys, hD2, smallL _ (by omega), same_over ((SameBut.same sx np by_).trans sz) nHD, ?_, ys ++ [y], upd_same, by rw [List.length_append, hyl]; rfl, fun y' hy' => ?_⟩
        · obtain ⟨l, f, dd, hl, rr⟩ := peny.same sz
          exact ⟨l, f, dd, by rw [upd_ne npD]; exact hl, rr⟩
        · rcases List.mem_append.mp hy' with hy' | hy'
          · obtain ⟨m', r', h1, h2, h3⟩ := hall y' hy'
            exact ⟨m', r', h1, stays_st.over hD2 ((h2.but by_ penx).same sz), h3⟩
          · rw [List.mem_singleton.mp hy']
            exact ⟨m, st, hm, stays_st.over hD2 hy, hN⟩
      · obtain ⟨sx, penx, ys, hys, hyl, hall⟩ := h
        obtain ⟨y0, y1, rfl⟩ : ∃ y0 y1, ys = [y0, y1] := by
          match ys, hyl with
          | [y0, y1], _ => exact ⟨y0, y1, rfl⟩
        obtain ⟨m, s, hm, hv, hN⟩ := hall y0 (by simp)
        obtain ⟨m', t, hm', hu, hM⟩ := hall y1 (by simp)
        have hs := hN.rs
        have ht := hM.rs
        have hb := hN.below hm
        have hc := hM.below hm'
        have ls := len12 hs hb hn
        refine ⟨D2, [y0, y1], rfl, SqL.of hys, rfl, _, _, rfl, _, _, rfl, rfl, ?_⟩
        dsimp only
        have sm1 := sm.trans sx
        -- not one_right(one, most) or not one_right(other, most) or not two_right(one, other, most)
        refine ⟨y0, rfl, .int n, rfl, y0, s, n, rfl, hv, h1n, hn, hs, hb, fun Ha sa => ⟨true, rfl, ifF rfl ?_⟩⟩
        refine ⟨y1, rfl, .int n, rfl, y1, t, n, rfl, hu.same sa, h1n, hn, ht, hc, fun Hb sb => ⟨true, rfl, ifF rfl ?_⟩⟩
        have sab := sa.trans sb
        refine ⟨y0, rfl, y1, rfl, .int n, rfl, y0, y1, s, t, n, rfl, hv.same sab, hu.same sab, hn, hs, hb, ht, hc, fun Hc sc => ⟨true, rfl, ifF rfl ?_⟩⟩
        have sac := sab.trans sc
        -- later_by(later_by(one, by), 0 - by) != one
        have c1 : ∀ q ∈ s, 0 ≤ q.1 + (k : Int) ∧ 0 < q.2 + (k : Int) ∧ q.2 + (k : Int) ≤ 1000000 := fun q hq => by
          have z1 := hs.ok q hq
          have z2 := hb q hq
          omega
        have c2 : ∀ q ∈ shift s (k : Int), 0 ≤ q.1 + (0 - (k : Int)) ∧ 0 < q.2 + (0 - (k : Int)) ∧ q.2 + (0 - (k : Int)) ≤ 1000000 := fun q hq => by
          obtain ⟨q', hq', rfl⟩ := List.mem_map.mp hq
          have z1 := hs.ok q' hq'
          have z2 := hb q' hq'
          show 0 ≤ q'.1 + (k : Int) + (0 - (k : Int)) ∧ 0 < q'.2 + (k : Int) + (0 - (k : Int)) ∧ q'.2 + (k : Int) + (0 - (k : Int)) ≤ 1000000
          omega
        have lsh : (shift s (k : Int)).length ≤ 12 := by
          unfold shift
          rw [List.length_map]
          exact ls
        refine ⟨y0, rfl, .int k, rfl, y0, s, (k : Int), rfl, hv.same sac, by omega, c1, fun Hd zd sd hzd => ?_⟩
        refine ⟨.int k, rfl, 0, (k : Int), rfl, rfl, zd, shift s (k : Int), 0 - (k : Int), rfl, hzd, by omega, c2, fun He ze se hze => ?_⟩
        have sae := (sac.trans sd).trans se
        refine ⟨y0, rfl, dS (shift (shift s (k : Int)) (0 - (k : Int))), dS s, dp_story hze, dp_story (hv.same sae), dS_shaped _, dS_shaped _, _, rfl, ?_⟩
        rw [dS_eqv, decide_eq_true (shift_back s (k : Int))]
        refine iteF ?_
        have b24 : Below 24 s := hb.le (by omega)
        have c24 : Below 24 t := hc.le (by omega)
        refine ⟨y0, rfl, y0, s, rfl, hv.same sae, hs, b24, fun Hf sf => ⟨true, rfl, ifF rfl ?_⟩⟩
        have saf := sae.trans sf
        refine ⟨y1, rfl, y1, t, rfl, hu.same saf, ht, c24, fun Hg sg => ⟨true, rfl, ifF rfl ?_⟩⟩
        have sag := saf.trans sg
        -- marks(later_by(one, by), by + most) != [False] * by + marks(one, most)
        refine ⟨y0, rfl, .int k, rfl, y0, s, (k : Int), rfl, hv.same sag, by omega, c1, fun Hh zh sh hzh => ?_⟩
        refine ⟨.int k, rfl, .int n, rfl, (k : Int), (n : Int), rfl, rfl, zh, shift s (k : Int), k + n, by rw [Int.natCast_add]; rfl, hzh, by omega, by omega, fun Hi ai si hai => ?_⟩
        have sai := (sag.trans sh).trans si
        refine ⟨small 1 (by decide), fun dj nj => ?_⟩
        have sj := same_upd (o := .lst [.bl false]) nj
        refine ⟨.int k, rfl, dj, (k : Int), _, rfl, rfl, upd_same, by omega, by omega, small _ (by rw [List.length_singleton, Int.toNat_natCast]; omega), fun dk nk => ?_⟩
        rw [Int.toNat_natCast, rep_false]
        have sk := same_upd (o := .lst ((List.replicate k false).map V.bl)) nk
        have hdk : (upd (upd Hi dj (.lst [.bl false])) dk (.lst ((List.replicate k false).map V.bl))) dk = some (.lst ((List.replicate k false).map V.bl)) := upd_same
        have sik := sj.trans sk
        generalize upd (upd Hi dj (.lst [.bl false])) dk (.lst ((List.replicate k false).map V.bl)) = Hk at *
        refine ⟨y0, rfl, .int n, rfl, y0, s, n, rfl, hv.same (sai.trans sik), by omega, by omega, fun Hl al sl hal => ?_⟩
        refine ⟨dk, al, _, _, rfl, rfl, sl _ _ hdk, hal, small _ ?_, fun dm nm => ?_⟩
        · have e1 : (marksF s n).length = n := by
            unfold marksF
            rw [List.length_map, List.length_range]
          rw [List.length_map, List.length_map, List.length_replicate, e1]
          omega
        have smm := same_upd (o := .lst ((List.replicate k false).map V.bl ++ (marksF s n).map V.bl)) nm
        have sim := (sik.trans sl).trans smm
        refine ⟨dB (marksF (shift s (k : Int)) (k + n)), dB (List.replicate k false ++ marksF s n), dp_bools (sim _ _ hai), dp_bools (by rw [upd_same, List.map_append]), dB_shaped _, dB_shaped _, _, rfl, ?_⟩
        rw [dB_eqv, decide_eq_true (marks_shift hs k n)]
        refine iteF ?_
        have sam := sai.trans sim
        -- few = silent_many(one, 0, most)
        refine ⟨y0, rfl, .int n, rfl, y0, s, 0, (n : Int), rfl, hv.same sam, by omega, fun Hn sn => ?_⟩
        have san := sam.trans sn
        have eb := silMany_bits hN hm
        have k0 := cnt_nonneg (fun x => m.testBit x) n
        have k1 := cnt_le (fun x => m.testBit x) n
        obtain ⟨kf, ekf⟩ : ∃ kf : Nat, silMany s 0 (n : Int) = (kf : Int) := ⟨(silMany s 0 (n : Int)).toNat, by omega⟩
        refine ⟨.int n, rfl, (n : Int), 9, rfl, rfl, _, rfl, ite2 (fun c9 => ?_) (fun c9 => ?_)⟩
        · have c9' : n < 9 := by
            have := of_decide_eq_true c9
            omega
          refine ⟨y0, rfl, .int n, rfl, _, rfl, n, kf, by rw [ekf]; rfl, by omega, by omega, fun Ho ao zs ns' so hao hnum hmem => ?_⟩
          obtain ⟨ss, hss, hin⟩ := nums_stories hnum
          refine ⟨dS s, ss.map dS, dp_story (hv.same (san.trans so)), dp_stories hao hss, dS_shaped _, dSs_shaped ss, _, rfl, ifF ?_ ?_⟩
          · have e1 : ((ss.map dS).any fun z => PyData.eqv z (dS s)) = true := by
              rw [List.any_eq_true]
              refine ⟨dS s, List.mem_map.mpr ⟨s, hin m s (hmem m hm (by rw [← eb]; exact ekf)) hN, rfl⟩, ?_⟩
              rw [dS_eqv, decide_eq_true rfl]
            rw [e1]
            rfl
          · exact ⟨_, _, _, _, _, _, _, rfl, sm1.trans (san.trans so)⟩
        · exact iteF ⟨_, _, _, _, _, _, _, rfl, sm1.trans san⟩
    · exact q _
end
end Kp

namespace Kp
open PySem PySem.Spec PyProof.Rows L2
/-! ### what the top has left: each def at its name -/
def At (K : PySem.W.Frag) (x : Str) (st : Stmt) : Prop := ∃ (f : Addr) (od an : Option Addr) (sl : Array (Option Value)) (oc kV dc pm cd ct : Value), PySem.W.nsIn K mainGlobals x = some (some (.ref f)) ∧
  K.lookup f = some ⟨oc, od, .func (PySem.W.fnOf x x (defArgs st) (defBody st) (defScope st) .none kV dc pm an cd ct), sl⟩ ∧ PySem.W.codeIn K cd x = true ∧ PySem.W.keepIn K (.ref f) = true
theorem at_mk {K : PySem.W.Frag} {x : Str} {st : Stmt} {f : Addr} {od an : Option Addr} {sl : Array (Option Value)} {oc kV dc pm cd ct : Value} (a : PySem.W.nsIn K mainGlobals x = some (some (.ref f)))
    (l : K.lookup f = some ⟨oc, od, .func (PySem.W.fnOf x x (defArgs st) (defBody st) (defScope st) .none kV dc pm an cd ct), sl⟩) (c : PySem.W.codeIn K cd x = true) (k : PySem.W.keepIn K (.ref f) = true) : At K x st :=
  ⟨f, od, an, sl, oc, kV, dc, pm, cd, ct, a, l, c, k⟩
theorem At.fun_ {K : PySem.W.Frag} {x : Str} {st : Stmt} {h : Heap} {mg : Str → Option Value} (A : At K x st) (X : K.In h) (G : h.Ns mainGlobals mg) : ∃ (f : Addr) (kV dc pm cd ct : Value) (an : Option Addr),
    Fun K x x st f (PySem.W.fnOf x x (defArgs st) (defBody st) (defScope st) .none kV dc pm an cd ct) ∧ mg x = some (.ref f) := by
  obtain ⟨f, od, an, sl, oc, kV, dc, pm, cd, ct, a, l, c, k⟩ := A
  exact ⟨f, kV, dc, pm, cd, ct, an, fun_mk l c k, PySem.W.mg_of X G a⟩
theorem def_of {P : Program} {w : World} {K : PySem.W.Frag} {mg : Str → Option Value} {base : Heap} {x : Str} {st : Stmt} {f : Addr} {fd : FuncData} {ps : List Str} {k : Nat} {sp : Sp} (F : Fun K x x st f fd) (m : mg x = some (.ref f)) (b : Binds K fd ps [])
    (G : FnOk P w K mg base CX0 k f fd ps sp) : Def P w K mg base k x ps sp := ⟨f, fd, G, m, F.kp, b⟩

theorem all_mk {l : PySem.W.OpenLaw} {w : World} {K : PySem.W.Frag} {h : Heap} {mg : Str → Option Value} {fa aW : Addr} {t1 t2 t3 t4 u1 u2 : Tok} {odW : Option Addr} {nW : Nat} {slW : Array (Option Value)} (X : K.In h) (G : h.Ns mainGlobals mg) (hfa : mg "law" = some (.ref fa))
    (AIsWhole : At K "is_whole" sIsWhole)
    (AIsBeat : At K "is_beat" sIsBeat)
    (AIsStretch : At K "is_stretch" sIsStretch)
    (AStoryGood : At K "story_good" sStoryGood)
    (AJoined : At K "joined" sJoined)
    (ACheckStretches : At K "check_stretches" sCheckStretches)
    (AStoryOf : At K "story_of" sStoryOf)
    (ASilentAt : At K "silent_at" sSilentAt)
    (AHealedAt : At K "healed_at" sHealedAt)
    (ANextSound : At K "next_sound" sNextSound)
    (ANextSilent : At K "next_silent" sNextSilent)
    (ASilentMany : At K "silent_many" sSilentMany)
    (ALongestOf : At K "longest_of" sLongestOf)
    (AEither : At K "either" sEither)
    (ABoth : At K "both" sBoth)
    (AOtherWay : At K "other_way" sOtherWay)
    (ALaterBy : At K "later_by" sLaterBy)
    (AStoryBy : At K "story_by" sStoryBy)
    (AStoryAt : At K "story_at" sStoryAt)
    (ANumberOf : At K "number_of" sNumberOf)
    (AChosenMany : At K "chosen_many" sChosenMany)
    (ASilentChoices : At K "silent_choices" sSilentChoices)
    (ABeatsChosen : At K "beats_chosen" sBeatsChosen)
    (AStoriesWith : At K "stories_with" sStoriesWith)
    (AIsLook : At K "is_look" sIsLook)
    (AAreLooks : At K "are_looks" sAreLooks)
    (AHolds : At K "holds" sHolds)
    (AStoryFor : At K "story_for" sStoryFor)
    (ALawCellAt : At K "_law_cell_at" sLawCellAt)
    (ALawNext : At K "_law_next" sLawNext)
    (ALawPenOf : At K "_law_pen_of" sLawPenOf)
    (ALawDraw : At K "_law_draw" sLawDraw)
    (ALawMarks : At K "_law_marks" sLawMarks)
    (ALawOneRight : At K "_law_one_right" sLawOneRight)
    (ALawTwoRight : At K "_law_two_right" sLawTwoRight)
    (ALawLooksRight : At K "_law_looks_right" sLawLooksRight)
    (ALaw : At K "law" sLaw)
    (z_isinstance : PySem.W.nsIn K mainGlobals "isinstance" = some none)
    (z_int : PySem.W.nsIn K mainGlobals "int" = some none)
    (z_bool : PySem.W.nsIn K mainGlobals "bool" = some none)
    (z_tuple : PySem.W.nsIn K mainGlobals "tuple" = some none)
    (z_str : PySem.W.nsIn K mainGlobals "str" = some none)
    (z_len : PySem.W.nsIn K mainGlobals "len" = some none)
    (z_all : PySem.W.nsIn K mainGlobals "all" = some none)
    (z_any : PySem.W.nsIn K mainGlobals "any" = some none)
    (z_zip : PySem.W.nsIn K mainGlobals "zip" = some none)
    (z_sorted : PySem.W.nsIn K mainGlobals "sorted" = some none)
    (z_max : PySem.W.nsIn K mainGlobals "max" = some none)
    (z_min : PySem.W.nsIn K mainGlobals "min" = some none)
    (z_sum : PySem.W.nsIn K mainGlobals "sum" = some none)
    (z_range : PySem.W.nsIn K mainGlobals "range" = some none)
    (z_enumerate : PySem.W.nsIn K mainGlobals "enumerate" = some none)
    (k1 : PySem.W.nsIn K mainGlobals "MOST_BEAT" = some (some (.int 1000000 t1))) (k2 : PySem.W.nsIn K mainGlobals "MOST_STRETCHES" = some (some (.int 200 t2))) (k3 : PySem.W.nsIn K mainGlobals "MOST_LOOKS" = some (some (.int 12 t3))) (k4 : PySem.W.nsIn K mainGlobals "MOST_TOLD" = some (some (.int 300 t4)))
    (k5 : PySem.W.nsIn K mainGlobals "WORDS" = some (some (.ref aW))) (k6 : K.lookup aW = some ⟨.type "tuple", odW, .seq #[.str "silent" u1, .str "sound" u2] nW, slW⟩) :
    ∃ fd : FuncData, (∀ (s : Shared) (v : Value), BindsTo s fd ⟨[v], []⟩ [("_law_script", v)]) ∧ ∀ base : Heap, K.In base → base.Ns mainGlobals mg → FnOk l.prog w K mg base CX0 7 fa fd ["_law_script"] (spLaw K) := by
  have T : Txt K mg t1 t2 t3 t4 aW := { m_isinstance := PySem.W.mg_none_of X G z_isinstance, m_int := PySem.W.mg_none_of X G z_int, m_bool := PySem.W.mg_none_of X G z_bool, m_tuple := PySem.W.mg_none_of X G z_tuple, m_str := PySem.W.mg_none_of X G z_str, m_len := PySem.W.mg_none_of X G z_len, m_all := PySem.W.mg_none_of X G z_all, m_any := PySem.W.mg_none_of X G z_any, m_zip := PySem.W.mg_none_of X G z_zip, m_sorted := PySem.W.mg_none_of X G z_sorted, m_max := PySem.W.mg_none_of X G z_max, m_min := PySem.W.mg_none_of X G z_min, m_sum := PySem.W.mg_none_of X G z_sum, m_range := PySem.W.mg_none_of X G z_range, m_enumerate := PySem.W.mg_none_of X G z_enumerate, c_MOST_BEAT := PySem.W.mg_of X G k1, c_MOST_STRETCHES := PySem.W.mg_of X G k2, c_MOST_LOOKS := PySem.W.mg_of X G k3, c_MOST_TOLD := PySem.W.mg_of X G k4, c_WORDS := PySem.W.mg_of X G k5, w_WORDS := ⟨odW, nW, slW, u1, u2, k6⟩ }
  obtain ⟨fIsWhole, _, _, _, _, _, _, FIsWhole, mIsWhole⟩ := AIsWhole.fun_ X G
  obtain ⟨fIsBeat, _, _, _, _, _, _, FIsBeat, mIsBeat⟩ := AIsBeat.fun_ X G
  obtain ⟨fIsStretch, _, _, _, _, _, _, FIsStretch, mIsStretch⟩ := AIsStretch.fun_ X G
  obtain ⟨fStoryGood, _, _, _, _, _, _, FStoryGood, mStoryGood⟩ := AStoryGood.fun_ X G
  obtain ⟨fJoined, _, _, _, _, _, _, FJoined, mJoined⟩ := AJoined.fun_ X G
  obtain ⟨fCheckStretches, _, _, _, _, _, _, FCheckStretches, mCheckStretches⟩ := ACheckStretches.fun_ X G
  obtain ⟨fStoryOf, _, _, _, _, _, _, FStoryOf, mStoryOf⟩ := AStoryOf.fun_ X G
  obtain ⟨fSilentAt, _, _, _, _, _, _, FSilentAt, mSilentAt⟩ := ASilentAt.fun_ X G
  obtain ⟨fHealedAt, _, _, _, _, _, _, FHealedAt, mHealedAt⟩ := AHealedAt.fun_ X G
  obtain ⟨fNextSound, _, _, _, _, _, _, FNextSound, mNextSound⟩ := ANextSound.fun_ X G
  obtain ⟨fNextSilent, _, _, _, _, _, _, FNextSilent, mNextSilent⟩ := ANextSilent.fun_ X G
  obtain ⟨fSilentMany, _, _, _, _, _, _, FSilentMany, mSilentMany⟩ := ASilentMany.fun_ X G
  obtain ⟨fLongestOf, _, _, _, _, _, _, FLongestOf, mLongestOf⟩ := ALongestOf.fun_ X G
  obtain ⟨fEither, _, _, _, _, _, _, FEither, mEither⟩ := AEither.fun_ X G
  obtain ⟨fBoth, _, _, _, _, _, _, FBoth, mBoth⟩ := ABoth.fun_ X G
  obtain ⟨fOtherWay, _, _, _, _, _, _, FOtherWay, mOtherWay⟩ := AOtherWay.fun_ X G
  obtain ⟨fLaterBy, _, _, _, _, _, _, FLaterBy, mLaterBy⟩ := ALaterBy.fun_ X G
  obtain ⟨fStoryBy, _, _, _, _, _, _, FStoryBy, mStoryBy⟩ := AStoryBy.fun_ X G
  obtain ⟨fStoryAt, _, _, _, _, _, _, FStoryAt, mStoryAt⟩ := AStoryAt.fun_ X G
  obtain ⟨fNumberOf, _, _, _, _, _, _, FNumberOf, mNumberOf⟩ := ANumberOf.fun_ X G
  obtain ⟨fChosenMany, _, _, _, _, _, _, FChosenMany, mChosenMany⟩ := AChosenMany.fun_ X G
  obtain ⟨fSilentChoices, _, _, _, _, _, _, FSilentChoices, mSilentChoices⟩ := ASilentChoices.fun_ X G
  obtain ⟨fBeatsChosen, _, _, _, _, _, _, FBeatsChosen, mBeatsChosen⟩ := ABeatsChosen.fun_ X G
  obtain ⟨fStoriesWith, _, _, _, _, _, _, FStoriesWith, mStoriesWith⟩ := AStoriesWith.fun_ X G
  obtain ⟨fIsLook, _, _, _, _, _, _, FIsLook, mIsLook⟩ := AIsLook.fun_ X G
  obtain ⟨fAreLooks, _, _, _, _, _, _, FAreLooks, mAreLooks⟩ := AAreLooks.fun_ X G
  obtain ⟨fHolds, _, _, _, _, _, _, FHolds, mHolds⟩ := AHolds.fun_ X G
  obtain ⟨fStoryFor, _, _, _, _, _, _, FStoryFor, mStoryFor⟩ := AStoryFor.fun_ X G
  obtain ⟨fLawCellAt, _, _, _, _, _, _, FLawCellAt, mLawCellAt⟩ := ALawCellAt.fun_ X G
  obtain ⟨fLawNext, _, _, _, _, _, _, FLawNext, mLawNext⟩ := ALawNext.fun_ X G
  obtain ⟨fLawPenOf, _, _, _, _, _, _, FLawPenOf, mLawPenOf⟩ := ALawPenOf.fun_ X G
  obtain ⟨fLawDraw, _, _, _, _, _, _, FLawDraw, mLawDraw⟩ := ALawDraw.fun_ X G
  obtain ⟨fLawMarks, _, _, _, _, _, _, FLawMarks, mLawMarks⟩ := ALawMarks.fun_ X G
  obtain ⟨fLawOneRight, _, _, _, _, _, _, FLawOneRight, mLawOneRight⟩ := ALawOneRight.fun_ X G
  obtain ⟨fLawTwoRight, _, _, _, _, _, _, FLawTwoRight, mLawTwoRight⟩ := ALawTwoRight.fun_ X G
  obtain ⟨fLawLooksRight, _, _, _, _, _, _, FLawLooksRight, mLawLooksRight⟩ := ALawLooksRight.fun_ X G
  obtain ⟨fLaw, kVL, dcL, pmL, cdL, ctL, anL, FLaw, mLaw⟩ := ALaw.fun_ X G
  have e := hfa.symm.trans mLaw
  cases e
  have bIsWhole := FIsWhole.binds (ps := ["thing"]) fun _ _ _ _ _ _ us hl => match us, hl with | [_], _ => rfl
  have bIsBeat := FIsBeat.binds (ps := ["thing"]) fun _ _ _ _ _ _ us hl => match us, hl with | [_], _ => rfl
  have bIsStretch := FIsStretch.binds (ps := ["thing"]) fun _ _ _ _ _ _ us hl => match us, hl with | [_], _ => rfl
  have bStoryGood := FStoryGood.binds (ps := ["thing"]) fun _ _ _ _ _ _ us hl => match us, hl with | [_], _ => rfl
  have bJoined := FJoined.binds (ps := ["stretches"]) fun _ _ _ _ _ _ us hl => match us, hl with | [_], _ => rfl
  have bCheckStretches := FCheckStretches.binds (ps := ["story"]) fun _ _ _ _ _ _ us hl => match us, hl with | [_], _ => rfl
  have bStoryOf := FStoryOf.binds (ps := ["things"]) fun _ _ _ _ _ _ us hl => match us, hl with | [_], _ => rfl
  have bSilentAt := FSilentAt.binds (ps := ["story", "beat"]) fun _ _ _ _ _ _ us hl => match us, hl with | [_, _], _ => rfl
  have bHealedAt := FHealedAt.binds (ps := ["story"]) fun _ _ _ _ _ _ us hl => match us, hl with | [_], _ => rfl
  have bNextSound := FNextSound.binds (ps := ["story", "beat"]) fun _ _ _ _ _ _ us hl => match us, hl with | [_, _], _ => rfl
  have bNextSilent := FNextSilent.binds (ps := ["story", "beat"]) fun _ _ _ _ _ _ us hl => match us, hl with | [_, _], _ => rfl
  have bSilentMany := FSilentMany.binds (ps := ["story", "first", "last"]) fun _ _ _ _ _ _ us hl => match us, hl with | [_, _, _], _ => rfl
  have bLongestOf := FLongestOf.binds (ps := ["story"]) fun _ _ _ _ _ _ us hl => match us, hl with | [_], _ => rfl
  have bEither := FEither.binds (ps := ["one", "other"]) fun _ _ _ _ _ _ us hl => match us, hl with | [_, _], _ => rfl
  have bBoth := FBoth.binds (ps := ["one", "other"]) fun _ _ _ _ _ _ us hl => match us, hl with | [_, _], _ => rfl
  have bOtherWay := FOtherWay.binds (ps := ["story", "beat"]) fun _ _ _ _ _ _ us hl => match us, hl with | [_, _], _ => rfl
  have bLaterBy := FLaterBy.binds (ps := ["story", "by"]) fun _ _ _ _ _ _ us hl => match us, hl with | [_, _], _ => rfl
  have bStoryBy := FStoryBy.binds (ps := ["number"]) fun _ _ _ _ _ _ us hl => match us, hl with | [_], _ => rfl
  have bStoryAt := FStoryAt.binds (ps := ["number", "many"]) fun _ _ _ _ _ _ us hl => match us, hl with | [_, _], _ => rfl
  have bNumberOf := FNumberOf.binds (ps := ["story"]) fun _ _ _ _ _ _ us hl => match us, hl with | [_], _ => rfl
  have bChosenMany := FChosenMany.binds (ps := ["many", "some"]) fun _ _ _ _ _ _ us hl => match us, hl with | [_, _], _ => rfl
  have bSilentChoices := FSilentChoices.binds (ps := ["many", "silent"]) fun _ _ _ _ _ _ us hl => match us, hl with | [_, _], _ => rfl
  have bBeatsChosen := FBeatsChosen.binds (ps := ["many", "silent"]) fun _ _ _ _ _ _ us hl => match us, hl with | [_, _], _ => rfl
  have bStoriesWith := FStoriesWith.binds (ps := ["many", "silent"]) fun _ _ _ _ _ _ us hl => match us, hl with | [_, _], _ => rfl
  have bIsLook := FIsLook.binds (ps := ["thing"]) fun _ _ _ _ _ _ us hl => match us, hl with | [_], _ => rfl
  have bAreLooks := FAreLooks.binds (ps := ["thing"]) fun _ _ _ _ _ _ us hl => match us, hl with | [_], _ => rfl
  have bHolds := FHolds.binds (ps := ["story", "thing"]) fun _ _ _ _ _ _ us hl => match us, hl with | [_, _], _ => rfl
  have bStoryFor := FStoryFor.binds (ps := ["looks"]) fun _ _ _ _ _ _ us hl => match us, hl with | [_], _ => rfl
  have bLawCellAt := FLawCellAt.binds (ps := ["_law_script", "_law_k"]) fun _ _ _ _ _ _ us hl => match us, hl with | [_, _], _ => rfl
  have bLawNext := FLawNext.binds (ps := ["_law_seed"]) fun _ _ _ _ _ _ us hl => match us, hl with | [_], _ => rfl
  have bLawPenOf := FLawPenOf.binds (ps := ["_law_cell"]) fun _ _ _ _ _ _ us hl => match us, hl with | [_], _ => rfl
  have bLawDraw := FLawDraw.binds (ps := ["_law_pen", "_law_many"]) fun _ _ _ _ _ _ us hl => match us, hl with | [_, _], _ => rfl
  have bLawMarks := FLawMarks.binds (ps := ["_law_story", "_law_most"]) fun _ _ _ _ _ _ us hl => match us, hl with | [_, _], _ => rfl
  have bLawOneRight := FLawOneRight.binds (ps := ["_law_story", "_law_most"]) fun _ _ _ _ _ _ us hl => match us, hl with | [_, _], _ => rfl
  have bLawTwoRight := FLawTwoRight.binds (ps := ["_law_one", "_law_other", "_law_most"]) fun _ _ _ _ _ _ us hl => match us, hl with | [_, _, _], _ => rfl
  have bLawLooksRight := FLawLooksRight.binds (ps := ["_law_story"]) fun _ _ _ _ _ _ us hl => match us, hl with | [_], _ => rfl
  refine ⟨PySem.W.fnOf "law" "law" (defArgs sLaw) (defBody sLaw) (defScope sLaw) .none kVL dcL pmL anL cdL ctL, fun s v => .of_eq rfl, fun base _ _ => ?_⟩
  have DIsWhole : Def l.prog w K mg base 1 "is_whole" ["thing"] spIsWhole := def_of FIsWhole mIsWhole bIsWhole (ok_is_whole FIsWhole T)
  have DIsBeat : Def l.prog w K mg base 2 "is_beat" ["thing"] spIsBeat := def_of FIsBeat mIsBeat bIsBeat (ok_is_beat FIsBeat T DIsWhole)
  have DIsStretch : Def l.prog w K mg base 3 "is_stretch" ["thing"] spIsStretch := def_of FIsStretch mIsStretch bIsStretch (ok_is_stretch FIsStretch T DIsBeat)
  have DStoryGood : Def l.prog w K mg base 4 "story_good" ["thing"] spStoryGood := def_of FStoryGood mStoryGood bStoryGood (ok_story_good FStoryGood T DIsStretch)
  have DJoined : Def l.prog w K mg base 1 "joined" ["stretches"] (spJoined K) := def_of FJoined mJoined bJoined (ok_joined FJoined T)
  have DCheckStretches : Def l.prog w K mg base 1 "check_stretches" ["story"] (spCheck K) := def_of FCheckStretches mCheckStretches bCheckStretches (ok_check FCheckStretches T)
  have DStoryOf : Def l.prog w K mg base 3 "story_of" ["things"] spStoryOf := def_of FStoryOf mStoryOf bStoryOf (ok_story_of FStoryOf T DIsBeat DJoined)
  have DSilentAt : Def l.prog w K mg base 1 "silent_at" ["story", "beat"] spSilentAt := def_of FSilentAt mSilentAt bSilentAt (ok_silent_at FSilentAt T)
  have DHealedAt : Def l.prog w K mg base 1 "healed_at" ["story"] spHealed := def_of FHealedAt mHealedAt bHealedAt (ok_healed FHealedAt)
  have DNextSound : Def l.prog w K mg base 1 "next_sound" ["story", "beat"] spNextSound := def_of FNextSound mNextSound bNextSound (ok_next_sound FNextSound)
  have DNextSilent : Def l.prog w K mg base 1 "next_silent" ["story", "beat"] spNextSilent := def_of FNextSilent mNextSilent bNextSilent (ok_next_silent FNextSilent T)
  have DSilentMany : Def l.prog w K mg base 1 "silent_many" ["story", "first", "last"] spSilentMany := def_of FSilentMany mSilentMany bSilentMany (ok_silent_many FSilentMany T)
  have DLongestOf : Def l.prog w K mg base 1 "longest_of" ["story"] spLongest := def_of FLongestOf mLongestOf bLongestOf (ok_longest FLongestOf)
  have DEither : Def l.prog w K mg base 2 "either" ["one", "other"] spEither := def_of FEither mEither bEither (ok_either FEither DJoined DCheckStretches)
  have DBoth : Def l.prog w K mg base 2 "both" ["one", "other"] spBoth := def_of FBoth mBoth bBoth (ok_both FBoth T DJoined DCheckStretches)
  have DOtherWay : Def l.prog w K mg base 2 "other_way" ["story", "beat"] spOther := def_of FOtherWay mOtherWay bOtherWay (ok_other FOtherWay T DCheckStretches)
  have DLaterBy : Def l.prog w K mg base 1 "later_by" ["story", "by"] spLater := def_of FLaterBy mLaterBy bLaterBy (ok_later FLaterBy T)
  have DStoryBy : Def l.prog w K mg base 2 "story_by" ["number"] spStoryBy := def_of FStoryBy mStoryBy bStoryBy (ok_story_by FStoryBy DJoined)
  have DStoryAt : Def l.prog w K mg base 3 "story_at" ["number", "many"] spStoryAt := def_of FStoryAt mStoryAt bStoryAt (ok_story_at FStoryAt DIsWhole DStoryBy)
  have DNumberOf : Def l.prog w K mg base 1 "number_of" ["story"] spNumberOf := def_of FNumberOf mNumberOf bNumberOf (ok_number_of FNumberOf T)
  have DChosenMany : Def l.prog w K mg base 1 "chosen_many" ["many", "some"] spChosen := def_of FChosenMany mChosenMany bChosenMany (ok_chosen FChosenMany T)
  have DSilentChoices : Def l.prog w K mg base 2 "silent_choices" ["many", "silent"] spChosen := def_of FSilentChoices mSilentChoices bSilentChoices (ok_choices FSilentChoices DChosenMany)
  have DBeatsChosen : Def l.prog w K mg base 1 "beats_chosen" ["many", "silent"] spBeats := def_of FBeatsChosen mBeatsChosen bBeatsChosen (ok_beats FBeatsChosen T)
  have DStoriesWith : Def l.prog w K mg base 3 "stories_with" ["many", "silent"] spStoriesWith := def_of FStoriesWith mStoriesWith bStoriesWith (ok_stories_with FStoriesWith T DSilentChoices DBeatsChosen DStoryBy)
  have DIsLook : Def l.prog w K mg base 3 "is_look" ["thing"] spIsLook := def_of FIsLook mIsLook bIsLook (ok_is_look FIsLook T DIsBeat)
  have DAreLooks : Def l.prog w K mg base 4 "are_looks" ["thing"] spAreLooks := def_of FAreLooks mAreLooks bAreLooks (ok_are_looks FAreLooks T DIsLook)
  have DHolds : Def l.prog w K mg base 5 "holds" ["story", "thing"] spHolds := def_of FHolds mHolds bHolds (ok_holds FHolds T DAreLooks DSilentAt)
  have DStoryFor : Def l.prog w K mg base 5 "story_for" ["looks"] spStoryFor := def_of FStoryFor mStoryFor bStoryFor (ok_story_for FStoryFor T DAreLooks)
  have DLawCellAt : Def l.prog w K mg base 1 "_law_cell_at" ["_law_script", "_law_k"] (spCellAt K) := def_of FLawCellAt mLawCellAt bLawCellAt (ok_cell_at FLawCellAt T)
  have DLawNext : Def l.prog w K mg base 1 "_law_next" ["_law_seed"] spNext := def_of FLawNext mLawNext bLawNext (ok_next FLawNext)
  have DLawPenOf : Def l.prog w K mg base 1 "_law_pen_of" ["_law_cell"] spPenOf := def_of FLawPenOf mLawPenOf bLawPenOf (ok_pen_of FLawPenOf T)
  have DLawDraw : Def l.prog w K mg base 2 "_law_draw" ["_law_pen", "_law_many"] spDraw := def_of FLawDraw mLawDraw bLawDraw (ok_draw FLawDraw DLawNext)
  have DLawMarks : Def l.prog w K mg base 2 "_law_marks" ["_law_story", "_law_most"] spMarks := def_of FLawMarks mLawMarks bLawMarks (ok_marks FLawMarks T DSilentAt)
  have DLawOneRight : Def l.prog w K mg base 5 "_law_one_right" ["_law_story", "_law_most"] spOneRight := def_of FLawOneRight mLawOneRight bLawOneRight (ok_one_right FLawOneRight T DLawMarks DStoryGood DStoryOf DStoryAt DNumberOf DHealedAt DSilentMany DNextSound DNextSilent DSilentAt DLongestOf)
  have DLawTwoRight : Def l.prog w K mg base 3 "_law_two_right" ["_law_one", "_law_other", "_law_most"] spTwoRight := def_of FLawTwoRight mLawTwoRight bLawTwoRight (ok_two_right FLawTwoRight DOtherWay DEither DBoth DSilentMany)
  have DLawLooksRight : Def l.prog w K mg base 6 "_law_looks_right" ["_law_story"] spLooksRight := def_of FLawLooksRight mLawLooksRight bLawLooksRight (ok_looks_right FLawLooksRight T DStoryFor DHolds)
  exact ok_law FLaw T DLawCellAt DLawPenOf DLawDraw DStoryAt DLawOneRight DLawTwoRight DLaterBy DLawLooksRight DLawMarks DSilentMany DStoriesWith
end Kp
open PySem PySem.W PyProof.Rows
set_option maxRecDepth 100000 in
set_option maxHeartbeats 0 in
theorem PySem.Challenge.cw_knockpurse_k17_whole_stories_holds : PySem.Challenge.rw_knockpurse_k17_whole_stories.Holds := by
  w_on; o_law; k_head; (case hw => w_witness2)
  k_fill
  refine L2.walk_of (l := PySem.Challenge.rw_knockpurse_k17_whole_stories) (n := 63) (k := 7) (x := "_law_script") (CX := fun _ => L2.CX0) (sp := fun w => Kp.spLaw _) rfl (by decide) rfl ⟨rfl, by decide, by decide⟩ (fun w h Y => PySem.W.kIn_of Y) ?F (fun _ _ a ns hl _ hS => ⟨a, ns, rfl, hS, hl, fun _ => rfl⟩) (fun _ _ _ _ _ h => h)
  case F =>
    intro w mg fa h KX G hmg
    refine' Kp.all_mk KX G hmg ?AIsWhole ?AIsBeat ?AIsStretch ?AStoryGood ?AJoined ?ACheckStretches ?AStoryOf ?ASilentAt ?AHealedAt ?ANextSound ?ANextSilent ?ASilentMany ?ALongestOf ?AEither ?ABoth ?AOtherWay ?ALaterBy ?AStoryBy ?AStoryAt ?ANumberOf ?AChosenMany ?ASilentChoices ?ABeatsChosen ?AStoriesWith ?AIsLook ?AAreLooks ?AHolds ?AStoryFor ?ALawCellAt ?ALawNext ?ALawPenOf ?ALawDraw ?ALawMarks ?ALawOneRight ?ALawTwoRight ?ALawLooksRight ?ALaw ?z_isinstance ?z_int ?z_bool ?z_tuple ?z_str ?z_len ?z_all ?z_any ?z_zip ?z_sorted ?z_max ?z_min ?z_sum ?z_range ?z_enumerate ?k1 ?k2 ?k3 ?k4 ?k5 ?k6
    (case AIsWhole => (refine' Kp.at_mk ?a ?l ?c ?k; (case a => k_is); (case l => k_is); (case c => k_is); (case k => k_is)))
    (case AIsBeat => (refine' Kp.at_mk ?a ?l ?c ?k; (case a => k_is); (case l => k_is); (case c => k_is); (case k => k_is)))
    (case AIsStretch => (refine' Kp.at_mk ?a ?l ?c ?k; (case a => k_is); (case l => k_is); (case c => k_is); (case k => k_is)))
    (case AStoryGood => (refine' Kp.at_mk ?a ?l ?c ?k; (case a => k_is); (case l => k_is); (case c => k_is); (case k => k_is)))
    (case AJoined => (refine' Kp.at_mk ?a ?l ?c ?k; (case a => k_is); (case l => k_is); (case c => k_is); (case k => k_is)))
    (case ACheckStretches => (refine' Kp.at_mk ?a ?l ?c ?k; (case a => k_is); (case l => k_is); (case c => k_is); (case k => k_is)))
    (case AStoryOf => (refine' Kp.at_mk ?a ?l ?c ?k; (case a => k_is); (case l => k_is); (case c => k_is); (case k => k_is)))
    (case ASilentAt => (refine' Kp.at_mk ?a ?l ?c ?k; (case a => k_is); (case l => k_is); (case c => k_is); (case k => k_is)))
    (case AHealedAt => (refine' Kp.at_mk ?a ?l ?c ?k; (case a => k_is); (case l => k_is); (case c => k_is); (case k => k_is)))
    (case ANextSound => (refine' Kp.at_mk ?a ?l ?c ?k; (case a => k_is); (case l => k_is); (case c => k_is); (case k => k_is)))
    (case ANextSilent => (refine' Kp.at_mk ?a ?l ?c ?k; (case a => k_is); (case l => k_is); (case c => k_is); (case k => k_is)))
    (case ASilentMany => (refine' Kp.at_mk ?a ?l ?c ?k; (case a => k_is); (case l => k_is); (case c => k_is); (case k => k_is)))
    (case ALongestOf => (refine' Kp.at_mk ?a ?l ?c ?k; (case a => k_is); (case l => k_is); (case c => k_is); (case k => k_is)))
    (case AEither => (refine' Kp.at_mk ?a ?l ?c ?k; (case a => k_is); (case l => k_is); (case c => k_is); (case k => k_is)))
    (case ABoth => (refine' Kp.at_mk ?a ?l ?c ?k; (case a => k_is); (case l => k_is); (case c => k_is); (case k => k_is)))
    (case AOtherWay => (refine' Kp.at_mk ?a ?l ?c ?k; (case a => k_is); (case l => k_is); (case c => k_is); (case k => k_is)))
    (case ALaterBy => (refine' Kp.at_mk ?a ?l ?c ?k; (case a => k_is); (case l => k_is); (case c => k_is); (case k => k_is)))
    (case AStoryBy => (refine' Kp.at_mk ?a ?l ?c ?k; (case a => k_is); (case l => k_is); (case c => k_is); (case k => k_is)))
    (case AStoryAt => (refine' Kp.at_mk ?a ?l ?c ?k; (case a => k_is); (case l => k_is); (case c => k_is); (case k => k_is)))
    (case ANumberOf => (refine' Kp.at_mk ?a ?l ?c ?k; (case a => k_is); (case l => k_is); (case c => k_is); (case k => k_is)))
    (case AChosenMany => (refine' Kp.at_mk ?a ?l ?c ?k; (case a => k_is); (case l => k_is); (case c => k_is); (case k => k_is)))
    (case ASilentChoices => (refine' Kp.at_mk ?a ?l ?c ?k; (case a => k_is); (case l => k_is); (case c => k_is); (case k => k_is)))
    (case ABeatsChosen => (refine' Kp.at_mk ?a ?l ?c ?k; (case a => k_is); (case l => k_is); (case c => k_is); (case k => k_is)))
    (case AStoriesWith => (refine' Kp.at_mk ?a ?l ?c ?k; (case a => k_is); (case l => k_is); (case c => k_is); (case k => k_is)))
    (case AIsLook => (refine' Kp.at_mk ?a ?l ?c ?k; (case a => k_is); (case l => k_is); (case c => k_is); (case k => k_is)))
    (case AAreLooks => (refine' Kp.at_mk ?a ?l ?c ?k; (case a => k_is); (case l => k_is); (case c => k_is); (case k => k_is)))
    (case AHolds => (refine' Kp.at_mk ?a ?l ?c ?k; (case a => k_is); (case l => k_is); (case c => k_is); (case k => k_is)))
    (case AStoryFor => (refine' Kp.at_mk ?a ?l ?c ?k; (case a => k_is); (case l => k_is); (case c => k_is); (case k => k_is)))
    (case ALawCellAt => (refine' Kp.at_mk ?a ?l ?c ?k; (case a => k_is); (case l => k_is); (case c => k_is); (case k => k_is)))
    (case ALawNext => (refine' Kp.at_mk ?a ?l ?c ?k; (case a => k_is); (case l => k_is); (case c => k_is); (case k => k_is)))
    (case ALawPenOf => (refine' Kp.at_mk ?a ?l ?c ?k; (case a => k_is); (case l => k_is); (case c => k_is); (case k => k_is)))
    (case ALawDraw => (refine' Kp.at_mk ?a ?l ?c ?k; (case a => k_is); (case l => k_is); (case c => k_is); (case k => k_is)))
    (case ALawMarks => (refine' Kp.at_mk ?a ?l ?c ?k; (case a => k_is); (case l => k_is); (case c => k_is); (case k => k_is)))
    (case ALawOneRight => (refine' Kp.at_mk ?a ?l ?c ?k; (case a => k_is); (case l => k_is); (case c => k_is); (case k => k_is)))
    (case ALawTwoRight => (refine' Kp.at_mk ?a ?l ?c ?k; (case a => k_is); (case l => k_is); (case c => k_is); (case k => k_is)))
    (case ALawLooksRight => (refine' Kp.at_mk ?a ?l ?c ?k; (case a => k_is); (case l => k_is); (case c => k_is); (case k => k_is)))
    (case ALaw => (refine' Kp.at_mk ?a ?l ?c ?k; (case a => k_is); (case l => k_is); (case c => k_is); (case k => k_is)))
    (case z_isinstance => k_is)
    (case z_int => k_is)
    (case z_bool => k_is)
    (case z_tuple => k_is)
    (case z_str => k_is)
    (case z_len => k_is)
    (case z_all => k_is)
    (case z_any => k_is)
    (case z_zip => k_is)
    (case z_sorted => k_is)
    (case z_max => k_is)
    (case z_min => k_is)
    (case z_sum => k_is)
    (case z_range => k_is)
    (case z_enumerate => k_is)
    (case k1 => k_is)
    (case k2 => k_is)
    (case k3 => k_is)
    (case k4 => k_is)
    (case k5 => k_is)
    (case k6 => k_is)
