import PyProof.Rows.All
import Wide.All
import OpenK.AllK
import Wide.FinOn
import HandS.ForMost
import HandS.Walk
import HandS.Conv
import HandS.TupLen
import HandS.TupAny
import HandS.SortRule
import HandS.SortInts
import HandS.IsInst
import HandS.Zip
import HandS.DictTup
import HandS.OwnEq
import HandS.Property
import HandS.ExcInit
import HandS.ExcIs
import HandS.ExcField
import HandS.WordsExc
import HandS.Codes
import HandS.Flow
import HandS.TryOnly
import HandS.Small
import HandS.More
import KE.KExcSuper
import KE.KDictZip
import KE.GoesDict
import KE.GoesNew
import PySem.Challenge.RW_shapeholes_k18_whole_stages
import HandS.ExcSuper
import KE.KExcIs
set_option linter.all false
namespace SH
/-- a simplex: its vertices -/
abbrev S := List Int

/-! ### strict total orders by a Bool -/
structure Sto {α : Type} (lt : α → α → Bool) : Prop where
  irr : ∀ a, lt a a = false
  tr : ∀ a b c, lt a b = true → lt b c = true → lt a c = true
  tri : ∀ a b, lt a b = false → lt b a = false → a = b
section
variable {α : Type} {lt : α → α → Bool}
theorem Sto.asym (O : Sto lt) {a b : α} (h : lt a b = true) : lt b a = false := by
  cases e : lt b a with
  | false => rfl
  | true =>
    have q := O.tr _ _ _ h e
    rw [O.irr] at q
    cases q
theorem Sto.ntr (O : Sto lt) {a b c : α} (h1 : lt b a = false) (h2 : lt c b = false) : lt c a = false := by
  cases e : lt c a with
  | false => rfl
  | true =>
    cases e1 : lt a b with
    | true =>
      have q := O.tr _ _ _ e e1
      rw [h2] at q
      cases q
    | false =>
      have ab := O.tri _ _ e1 h1
      subst ab
      rw [h2] at e
      cases e
end
/-- by the first place where they differ; the shorter one first -/
def lexB {α : Type} [DecidableEq α] (lt : α → α → Bool) : List α → List α → Bool
  | [], [] => false
  | [], _ :: _ => true
  | _ :: _, [] => false
  | x :: xs, y :: ys => if x = y then lexB lt xs ys else lt x y
section
variable {α : Type} [DecidableEq α] {lt : α → α → Bool}
theorem lexB_irr (O : Sto lt) : ∀ l : List α, lexB lt l l = false
  | [] => rfl
  | x :: l => by
    unfold lexB
    rw [if_pos rfl]
    exact lexB_irr O l
theorem lexB_tr (O : Sto lt) : ∀ a b c : List α, lexB lt a b = true → lexB lt b c = true → lexB lt a c = true
  | [], [], _, h, _ => by cases h
  | [], y :: b, [], _, h => by cases h
  | [], y :: b, z :: c, _, _ => rfl
  | x :: a, [], _, h, _ => by cases h
  | x :: a, y :: b, [], _, h => by cases h
  | x :: a, y :: b, z :: c, h1, h2 => by
    unfold lexB at h1 h2 ⊢
    by_cases e1 : x = y
    · subst e1
      rw [if_pos rfl] at h1
      by_cases e2 : x = z
      · subst e2
        rw [if_pos rfl] at h2 ⊢
        exact lexB_tr O a b c h1 h2
      · rw [if_neg e2] at h2 ⊢
        exact h2
    · rw [if_neg e1] at h1
      by_cases e2 : y = z
      · subst e2
        rw [if_neg e1]
        exact h1
      · rw [if_neg e2] at h2
        have q := O.tr _ _ _ h1 h2
        have e3 : ¬ x = z := fun z => by
          rw [z, O.irr] at q
          cases q
        rw [if_neg e3]
        exact q
theorem lexB_tri (O : Sto lt) : ∀ a b : List α, lexB lt a b = false → lexB lt b a = false → a = b
  | [], [], _, _ => rfl
  | [], y :: b, h, _ => by cases h
  | x :: a, [], _, h => by cases h
  | x :: a, y :: b, h1, h2 => by
    unfold lexB at h1 h2
    by_cases e : x = y
    · subst e
      rw [if_pos rfl] at h1 h2
      rw [lexB_tri O a b h1 h2]
    · rw [if_neg e] at h1
      rw [if_neg (fun z => e z.symm)] at h2
      exact absurd (O.tri _ _ h1 h2) e
theorem sto_lex (O : Sto lt) : Sto (lexB lt) := ⟨lexB_irr O, lexB_tr O, lexB_tri O⟩
end
def ltI (a b : Int) : Bool := decide (a < b)
theorem sto_int : Sto ltI := by
  refine ⟨fun a => decide_eq_false (by omega), fun a b c h1 h2 => ?_, fun a b h1 h2 => ?_⟩
  · have h1 := of_decide_eq_true h1
    have h2 := of_decide_eq_true h2
    exact decide_eq_true (by omega)
  · have h1 := of_decide_eq_false h1
    have h2 := of_decide_eq_false h2
    omega
/-- simplices in ascending order -/
def ltS (a b : S) : Bool := lexB ltI a b
theorem sto_S : Sto ltS := sto_lex sto_int
/-- an item of a sorted tuple: an int or a simplex -/
abbrev At := Int ⊕ S
def ltA : At → At → Bool
  | .inl i, .inl j => ltI i j
  | .inl _, .inr _ => true
  | .inr _, .inl _ => false
  | .inr s, .inr t => ltS s t
theorem sto_A : Sto ltA := by
  refine ⟨fun a => ?_, fun a b c h1 h2 => ?_, fun a b h1 h2 => ?_⟩
  · cases a with
    | inl i => exact sto_int.irr i
    | inr s => exact sto_S.irr s
  · rcases a with i | s <;> rcases b with j | t <;> rcases c with k | u
    · exact sto_int.tr _ _ _ h1 h2
    · rfl
    · cases h2
    · rfl
    · cases h1
    · cases h1
    · cases h2
    · exact sto_S.tr _ _ _ h1 h2
  · rcases a with i | s <;> rcases b with j | t
    · rw [sto_int.tri _ _ h1 h2]
    · cases h1
    · cases h2
    · rw [sto_S.tri _ _ h1 h2]
abbrev Ky := List At
def ltK (a b : Ky) : Bool := lexB ltA a b
theorem sto_K : Sto ltK := sto_lex sto_A

/-- by length, then ascending -/
def ltF (a b : S) : Bool := ltK [.inl (a.length : Int), .inr a] [.inl (b.length : Int), .inr b]
theorem sto_pull {α β : Type} {lt : β → β → Bool} (O : Sto lt) (f : α → β) (hf : ∀ a b, f a = f b → a = b) : Sto fun a b => lt (f a) (f b) :=
  ⟨fun a => O.irr _, fun a b c => O.tr _ _ _, fun a b h1 h2 => hf _ _ (O.tri _ _ h1 h2)⟩
theorem sto_F : Sto ltF := sto_pull sto_K (fun a : S => ([.inl (a.length : Int), .inr a] : Ky)) fun a b h => by
  injection h with _ h
  injection h with h _
  exact Sum.inr.inj h

/-- just one ascending list has some members -/
theorem srt_uniq {α : Type} {lt : α → α → Bool} (O : Sto lt) : ∀ {l m : List α}, l.Pairwise (fun a b => lt a b = true) → m.Pairwise (fun a b => lt a b = true) → (∀ x, x ∈ l ↔ x ∈ m) → l = m
  | [], [], _, _, _ => rfl
  | [], y :: m, _, _, h => by have := (h y).mpr (List.mem_cons_self ..); cases this
  | x :: l, [], _, _, h => by have := (h x).mp (List.mem_cons_self ..); cases this
  | x :: l, y :: m, hl, hm, h => by
    have h1 := List.pairwise_cons.mp hl
    have h2 := List.pairwise_cons.mp hm
    have e : x = y := by
      rcases List.mem_cons.mp ((h x).mp (List.mem_cons_self ..)) with e | hx
      · exact e
      · rcases List.mem_cons.mp ((h y).mpr (List.mem_cons_self ..)) with e | hy
        · exact e.symm
        · have a := h1.1 y hy
          have b := h2.1 x hx
          rw [O.asym a] at b
          cases b
    subst e
    have key : ∀ (l' m' : List α), (∀ z, z ∈ l' → lt x z = true) → (∀ z, z ∈ x :: l' ↔ z ∈ x :: m') → (∀ z, z ∈ l' → z ∈ m') := fun l' m' h1 h z hz => by
      rcases List.mem_cons.mp ((h z).mp (List.mem_cons_of_mem _ hz)) with e | q
      · subst e
        have a := h1 z hz
        rw [O.irr] at a
        cases a
      · exact q
    have e2 := srt_uniq O (l := l) (m := m) h1.2 h2.2 fun z => ⟨key l m h1.1 h z, key m l h2.1 (fun z => (h z).symm) z⟩
    rw [e2]
/-- sorted without equal ones: ascending -/
theorem strict_of {α β : Type} {lt : β → β → Bool} (O : Sto lt) {f : α → β} : ∀ {l : List α}, l.Pairwise (fun a b => lt (f b) (f a) = false) → (l.map f).Nodup → l.Pairwise (fun a b => lt (f a) (f b) = true)
  | [], _, _ => List.Pairwise.nil
  | x :: l, h, nd => by
    have h1 := List.pairwise_cons.mp h
    have h2 := List.nodup_cons.mp nd
    refine List.pairwise_cons.mpr ⟨fun y hy => ?_, strict_of O h1.2 h2.2⟩
    have a := h1.1 y hy
    cases e : lt (f x) (f y) with
    | true => rfl
    | false =>
      have q := O.tri _ _ e a
      exact absurd (List.mem_map.mpr ⟨y, hy, q.symm⟩) h2.1
theorem nodup_of_strict {α : Type} {lt : α → α → Bool} (O : Sto lt) {l : List α} (h : l.Pairwise (fun a b => lt a b = true)) : l.Nodup :=
  h.imp fun {a b} q e => by
    subst e
    rw [O.irr] at q
    cases q

/-! ### parts -/
def grow (acc : List S) (v : Int) : List S := acc ++ acc.map (· ++ [v])
def allParts (s : S) : List S := s.foldl grow [[]]
/-- the nonempty parts, as the program lists them -/
def parts (s : S) : List S := (allParts s).drop 1
theorem allParts_snoc (s : S) (v : Int) : allParts (s ++ [v]) = grow (allParts s) v := by
  unfold allParts
  rw [List.foldl_append]
  rfl
theorem sub_snoc {p s : S} {v : Int} : p.Sublist (s ++ [v]) ↔ p.Sublist s ∨ ∃ q : S, q.Sublist s ∧ p = q ++ [v] := by
  constructor
  · intro h
    obtain ⟨a, b, rfl, ha, hb⟩ := List.sublist_append_iff.mp h
    rcases List.sublist_cons_iff.mp hb with hb | ⟨r, rfl, hr⟩
    · have : b = [] := List.sublist_nil.mp hb
      subst this
      rw [List.append_nil]
      exact .inl ha
    · have : r = [] := List.sublist_nil.mp hr
      subst this
      exact .inr ⟨a, ha, rfl⟩
  · rintro (h | ⟨q, h, rfl⟩)
    · exact h.trans (List.sublist_append_left _ _)
    · exact h.append (List.Sublist.refl _)
theorem snoc_rec {α : Type} {P : List α → Prop} (h0 : P []) (hs : ∀ l a, P l → P (l ++ [a])) (l : List α) : P l := by
  have : ∀ n (l : List α), l.length = n → P l := by
    intro n
    induction n with
    | zero =>
      intro l hl
      rw [List.eq_nil_of_length_eq_zero hl]
      exact h0
    | succ n ih =>
      intro l hl
      have ne : l ≠ [] := fun e => by rw [e] at hl; cases hl
      have e := List.dropLast_concat_getLast ne
      rw [← e]
      refine hs _ _ (ih _ ?_)
      rw [List.length_dropLast, hl]
      rfl
  exact this _ l rfl
theorem mem_allParts (s : S) : ∀ p, p ∈ allParts s ↔ p.Sublist s := by
  refine snoc_rec (P := fun s => ∀ p, p ∈ allParts s ↔ p.Sublist s) (fun p => ?_) (fun s v ih p => ?_) s
  · show p ∈ [[]] ↔ _
    rw [List.mem_singleton, List.sublist_nil]
  · rw [allParts_snoc, sub_snoc]
    unfold grow
    rw [List.mem_append, List.mem_map, ih]
    constructor
    · rintro (h | ⟨q, hq, rfl⟩)
      · exact .inl h
      · exact .inr ⟨q, (ih q).mp hq, rfl⟩
    · rintro (h | ⟨q, hq, rfl⟩)
      · exact .inl h
      · exact .inr ⟨q, (ih q).mpr hq, rfl⟩
theorem allParts_head (s : S) : ∃ t : List S, allParts s = [] :: t ∧ [] ∉ t := by
  refine snoc_rec (P := fun s => ∃ t : List S, allParts s = [] :: t ∧ [] ∉ t) ⟨[], rfl, by simp⟩ (fun s v ih => ?_) s
  obtain ⟨t, e, h⟩ := ih
  refine ⟨t ++ (allParts s).map (· ++ [v]), ?_, fun q => ?_⟩
  · rw [allParts_snoc]
    unfold grow
    rw [e]
    rfl
  · rcases List.mem_append.mp q with q | q
    · exact h q
    · obtain ⟨r, _, e⟩ := List.mem_map.mp q
      simp at e
theorem mem_parts {s p : S} : p ∈ parts s ↔ p ≠ [] ∧ p.Sublist s := by
  obtain ⟨t, e, h⟩ := allParts_head s
  have m := mem_allParts s p
  unfold parts
  rw [e] at m ⊢
  show p ∈ t ↔ _
  constructor
  · intro q
    exact ⟨fun z => h (z ▸ q), m.mp (List.mem_cons_of_mem _ q)⟩
  · rintro ⟨h1, h2⟩
    rcases List.mem_cons.mp (m.mpr h2) with z | z
    · exact absurd z h1
    · exact z
theorem allParts_length (s : S) : (allParts s).length = 2 ^ s.length := by
  refine snoc_rec (P := fun s => (allParts s).length = 2 ^ s.length) rfl (fun s v ih => ?_) s
  rw [allParts_snoc, List.length_append, List.length_singleton, Nat.pow_succ]
  unfold grow
  rw [List.length_append, List.length_map, ih]
  omega

/-! ### small simplices -/
structure Simp (s : S) : Prop where
  asc : s.Pairwise (· < ·)
  lo : ∀ x ∈ s, 0 ≤ x
  hi : ∀ x ∈ s, x < 7
theorem Simp.sub {p s : S} (h : Simp s) (q : p.Sublist s) : Simp p := ⟨h.asc.sublist q, fun x m => h.lo x (q.subset m), fun x m => h.hi x (q.subset m)⟩
theorem sub_range : ∀ (n : Nat) (lo : Int) (s : S), s.Pairwise (· < ·) → (∀ x ∈ s, lo ≤ x) → (∀ x ∈ s, x < lo + n) → s.Sublist ((List.range n).map fun i : Nat => lo + (i : Int))
  | n, lo, [], _, _, _ => List.nil_sublist _
  | 0, lo, x :: s, _, h1, h2 => by
    have a := h1 x (List.mem_cons_self ..)
    have b := h2 x (List.mem_cons_self ..)
    omega
  | n + 1, lo, x :: s, hp, h1, h2 => by
    have e : ((List.range (n + 1)).map fun i : Nat => lo + (i : Int)) = lo :: ((List.range n).map fun i : Nat => (lo + 1) + (i : Int)) := by
      rw [List.range_succ_eq_map, List.map_cons, List.map_map]
      refine congr (congrArg _ (by simp)) (List.map_congr_left fun i _ => ?_)
      show lo + ((i + 1 : Nat) : Int) = _
      omega
    rw [e]
    have hp' := List.pairwise_cons.mp hp
    have a := h1 x (List.mem_cons_self ..)
    by_cases ex : x = lo
    · subst ex
      refine List.Sublist.cons₂ _ (sub_range n (x + 1) s hp'.2 (fun y hy => ?_) fun y hy => ?_)
      · have := hp'.1 y hy
        omega
      · have := h2 y (List.mem_cons_of_mem _ hy)
        omega
    · refine List.Sublist.cons _ (sub_range n (lo + 1) (x :: s) hp (fun y hy => ?_) fun y hy => ?_)
      · rcases List.mem_cons.mp hy with rfl | hy
        · omega
        · have := hp'.1 y hy
          omega
      · have := h2 y hy
        omega
theorem Simp.in7 {s : S} (h : Simp s) : s.Sublist [0, 1, 2, 3, 4, 5, 6] := by
  have q := sub_range 7 0 s h.asc h.lo h.hi
  simpa [List.range_succ] using q
theorem Simp.len {s : S} (h : Simp s) : s.length ≤ 7 := h.in7.length_le
theorem nodup_len {α : Type} [DecidableEq α] : ∀ {l m : List α}, l.Nodup → (∀ x ∈ l, x ∈ m) → l.length ≤ m.length
  | [], _, _, _ => Nat.zero_le _
  | x :: l, m, nd, h => by
    have h2 := List.nodup_cons.mp nd
    have hx := h x (List.mem_cons_self ..)
    have q := nodup_len (l := l) (m := m.erase x) h2.2 fun y hy => (List.mem_erase_of_ne (fun e => by subst e; exact h2.1 hy)).mpr (h y (List.mem_cons_of_mem _ hy))
    have e := List.length_erase_of_mem hx
    have p := List.length_pos_of_mem hx
    rw [List.length_cons]
    omega
theorem simps_len {l : List S} (nd : l.Nodup) (h : ∀ s ∈ l, Simp s) : l.length ≤ 128 := by
  have q := nodup_len (m := allParts [0, 1, 2, 3, 4, 5, 6]) nd fun s hs => (mem_allParts _ _).mpr (h s hs).in7
  rw [allParts_length] at q
  exact q

/-! ### without one vertex -/
theorem erase_sub : ∀ (s : S) (i : Nat), (s.eraseIdx i).Sublist s := fun s i => List.eraseIdx_sublist s i
theorem sub_erase {p s : S} (h : p.Sublist s) (hl : p.length < s.length) : ∃ i, i < s.length ∧ p.Sublist (s.eraseIdx i) := by
  induction h with
  | slnil => exact absurd hl (Nat.lt_irrefl _)
  | cons a h _ => exact ⟨0, by simp, h⟩
  | cons_cons a h ih =>
    obtain ⟨i, h1, h2⟩ := ih (by simpa using hl)
    exact ⟨i + 1, by simpa using h1, h2.cons_cons a⟩
theorem erase_len {s : S} {i : Nat} (h : i < s.length) : (s.eraseIdx i).length + 1 = s.length := by
  rw [List.length_eraseIdx_of_lt h]
  omega
/-- closed under taking one vertex away: closed -/
theorem closed_of {P : S → Prop} (h : ∀ s i, P s → 1 < s.length → i < s.length → P (s.eraseIdx i)) : ∀ (n : Nat) (p s : S), s.length = n → P s → p ≠ [] → p.Sublist s → P p := by
  intro n
  induction n with
  | zero =>
    intro p s hn hs hp q
    have e : s = [] := List.eq_nil_of_length_eq_zero hn
    subst e
    exact absurd (List.sublist_nil.mp q) hp
  | succ n ih =>
    intro p s hn hs hp q
    by_cases hl : p.length < s.length
    · obtain ⟨i, h1, h2⟩ := sub_erase q hl
      have p1 : 0 < p.length := List.length_pos_iff.mpr hp
      exact ih p (s.eraseIdx i) (by have := erase_len h1; omega) (h s i hs (by omega) h1) hp h2
    · rw [q.eq_of_length_le (by omega)]
      exact hs
/-- a closed list of small simplices: each lies in one that is in no other's boundary -/
def Inner (P : S → Prop) (k : S) : Prop := ∃ x i, P x ∧ i < x.length ∧ k = x.eraseIdx i
theorem top_over {P : S → Prop} (h7 : ∀ s, P s → s.length ≤ 7) : ∀ (n : Nat) (s : S), s.length + n = 7 → P s → ∃ t, P t ∧ ¬ Inner P t ∧ s.Sublist t := by
  intro n
  induction n with
  | zero =>
    intro s hn hs
    refine ⟨s, hs, fun ⟨x, i, hx, hi, e⟩ => ?_, List.Sublist.refl _⟩
    have q := h7 x hx
    have r := erase_len hi
    rw [← e] at r
    omega
  | succ n ih =>
    intro s hn hs
    by_cases q : Inner P s
    · obtain ⟨x, i, hx, hi, e⟩ := q
      have r := erase_len hi
      rw [← e] at r
      obtain ⟨t, h1, h2, h3⟩ := ih x (by omega) hx
      exact ⟨t, h1, h2, (e ▸ erase_sub x i : s.Sublist x).trans h3⟩
    · exact ⟨s, hs, q, List.Sublist.refl _⟩
/-- a face of one of some simplices -/
def IsFace (L : List S) (k : S) : Prop := k ≠ [] ∧ ∃ s ∈ L, k.Sublist s
theorem IsFace.sub {L : List S} {p k : S} (h : IsFace L k) (hp : p ≠ []) (q : p.Sublist k) : IsFace L p := by
  obtain ⟨_, s, hs, r⟩ := h
  exact ⟨hp, s, hs, q.trans r⟩
theorem IsFace.simp {L : List S} (hL : ∀ s ∈ L, Simp s) {k : S} (h : IsFace L k) : Simp k := by
  obtain ⟨_, s, hs, r⟩ := h
  exact (hL s hs).sub r
/-- the tops of a closed set generate it -/
theorem tops_gen {P : S → Prop} (hS : ∀ s, P s → Simp s) (hn : ∀ s, P s → s ≠ []) (hc : ∀ p s, P s → p ≠ [] → p.Sublist s → P p) {T : List S} (hT : ∀ t, t ∈ T ↔ P t ∧ ¬ Inner P t) (k : S) : IsFace T k ↔ P k := by
  constructor
  · rintro ⟨h1, s, hs, q⟩
    exact hc k s ((hT s).mp hs).1 h1 q
  · intro h
    obtain ⟨t, h1, h2, h3⟩ := top_over (P := P) (fun s hs => (hS s hs).len) (7 - k.length) k (by have := (hS k h).len; omega) h
    exact ⟨hn k h, t, (hT t).mpr ⟨h1, h2⟩, h3⟩
end SH

set_option linter.all false
set_option Elab.async false
set_option maxRecDepth 100000
set_option maxHeartbeats 4000000
namespace K18
open PySem PySem.Spec PyProof.Rows L2 SH

/-! ### what stays -/
/-- tuples stay -/
def TK (H H' : Hp) : Prop := ∀ b xs, H b = some (.tup xs) → H' b = some (.tup xs)
theorem TK.refl (H : Hp) : TK H H := fun _ _ h => h
theorem TK.trans {H H1 H2 : Hp} (a : TK H H1) (b : TK H1 H2) : TK H H2 := fun c xs h => b c xs (a c xs h)
/-- all stays but what stands at S -/
structure Kp (S : List Addr) (H H' : Hp) : Prop where
  keep : ∀ b o, b ∉ S → H b = some o → H' b = some o
  tups : TK H H'
  there : ∀ b o, H b = some o → ∃ o', H' b = some o'
section
variable {S S' : List Addr} {H H1 H2 : Hp} {p : Addr} {o u : HO}
theorem Kp.refl (S : List Addr) (H : Hp) : Kp S H H := ⟨fun _ _ _ h => h, TK.refl H, fun _ o h => ⟨o, h⟩⟩
theorem Kp.trans (a : Kp S H H1) (b : Kp S H1 H2) : Kp S H H2 :=
  ⟨fun c o n h => b.keep c o n (a.keep c o n h), a.tups.trans b.tups, fun c o h => let ⟨o', q⟩ := a.there c o h; b.there c o' q⟩
theorem Kp.mono (a : Kp S H H1) (h : ∀ b ∈ S, b ∈ S') : Kp S' H H1 := ⟨fun c o n => a.keep c o fun m => n (h c m), a.tups, a.there⟩
theorem Kp.of_same (a : Same H H1) : Kp S H H1 := ⟨fun c o _ h => a c o h, fun c xs h => a c _ h, fun c o h => ⟨o, a c o h⟩⟩
theorem Kp.same (a : Kp [] H H1) : Same H H1 := fun b o h => a.keep b o (by simp) h
theorem Kp.free (a : Kp S H H1) (h : H1 p = none) : H p = none := by
  cases q : H p with
  | none => rfl
  | some o =>
    obtain ⟨o', r⟩ := a.there p o q
    rw [h] at r
    cases r
/-- a new thing -/
theorem Kp.new (h : H p = none) : Kp S H (upd H p o) := .of_same fun b u e => by rw [upd_ne (ne_of_none e h)]; exact e
theorem Kp.new' (a : Kp S H H1) (h : H1 p = none) : Kp S H (upd H1 p o) := a.trans (.new h)
/-- a thing that was made behind H is changed -/
theorem Kp.put0 (a : Kp S H H1) (h : H p = none) : Kp S H (upd H1 p o) :=
  ⟨fun b u n e => by rw [upd_ne (ne_of_none e h)]; exact a.keep b u n e, fun b xs e => by rw [upd_ne (ne_of_none e h)]; exact a.tups b xs e, fun b u e => by rw [upd_ne (ne_of_none e h)]; exact a.there b u e⟩
/-- a thing of S is changed -/
theorem Kp.put (hp : p ∈ S) (h : H p = some u) (hu : ∀ xs, u ≠ .tup xs) : Kp S H (upd H p o) := by
  refine ⟨fun b v n e => ?_, fun b xs e => ?_, fun b v e => ?_⟩
  · rw [upd_ne (fun z => by subst z; exact n hp)]
    exact e
  · rw [upd_ne (fun z => ?_)]
    · exact e
    · rw [z, h] at e
      exact hu xs (Option.some.inj e)
  · by_cases z : b = p
    · exact ⟨o, by rw [z, upd_same]⟩
    · exact ⟨v, by rw [upd_ne z]; exact e⟩
theorem Kp.put' (a : Kp S H H1) (hp : p ∈ S) (h : H1 p = some u) (hu : ∀ xs, u ≠ .tup xs) : Kp S H (upd H1 p o) := a.trans (.put hp h hu)
end
theorem tk_upd {H : Hp} {p : Addr} {o u : HO} (h : H p = some u) (hu : ∀ xs, u ≠ .tup xs) : TK H (upd H p o) := (Kp.put (S := [p]) (by simp) h hu).tups
theorem lst_tup {xs ys : List V} : HO.lst xs ≠ .tup ys := fun z => by cases z
theorem dT_tup {kvs : List (List Key × V)} {ys : List V} : HO.dT kvs ≠ .tup ys := fun z => by cases z
theorem ins_tup {C dx : Addr} {fs : List (Str × V)} {ys : List V} : HO.ins C dx fs ≠ .tup ys := fun z => by cases z

/-! ### simplices in the heap -/
abbrev tp (s : S) : HO := .tup (s.map V.int)
/-- v is the simplex s -/
def Tp (H : Hp) (v : V) (s : S) : Prop := ∃ a, v = V.ref a ∧ H a = some (tp s)
abbrev Tps (H : Hp) : List V → List S → Prop := Paired (Tp H)
theorem Tp.tk {H H' : Hp} {v : V} {s : S} (h : Tp H v s) (k : TK H H') : Tp H' v s := let ⟨a, e, q⟩ := h; ⟨a, e, k _ _ q⟩
theorem Tps.tk {H H' : Hp} {vs : List V} {L : List S} (h : Tps H vs L) (k : TK H H') : Tps H' vs L := L2.Paired.mapP h fun _ _ q => q.tk k
theorem Tp.mk {H : Hp} {a : Addr} {s : S} (h : H a = some (tp s)) : Tp H (.ref a) s := ⟨a, rfl, h⟩
theorem pd_len {α β : Type} {F : α → β → Prop} {l : List α} {m : List β} (h : Paired F l m) : l.length = m.length := Paired.length h
theorem pd_get {α β : Type} {F : α → β → Prop} : ∀ {l : List α} {m : List β} {i : Nat} {x : α}, Paired F l m → l[i]? = some x → ∃ y, m[i]? = some y ∧ F x y := fun h e => paired_get h e
theorem pd_get' {α β : Type} {F : α → β → Prop} : ∀ {l : List α} {m : List β}, Paired F l m → ∀ {i : Nat} {y : β}, m[i]? = some y → ∃ x, l[i]? = some x ∧ F x y
  | _, _, .nil, i, y, e => by simp at e
  | _, _, .cons r t, 0, y, e => by
    simp at e
    subst e
    exact ⟨_, by simp, r⟩
  | _, _, .cons r t, i + 1, y, e => by
    simp at e
    obtain ⟨x, h1, h2⟩ := pd_get' t (i := i) (y := y) e
    exact ⟨x, by simpa using h1, h2⟩
theorem pd_snoc {α β : Type} {F : α → β → Prop} : ∀ {l : List α} {m : List β} {x : α} {y : β}, Paired F l m → F x y → Paired F (l ++ [x]) (m ++ [y])
  | _, _, _, _, .nil, h => .cons h .nil
  | _, _, _, _, .cons r t, h => .cons r (pd_snoc t h)
theorem pd_app {α β : Type} {F : α → β → Prop} : ∀ {l : List α} {m : List β} {l' : List α} {m' : List β}, Paired F l m → Paired F l' m' → Paired F (l ++ l') (m ++ m')
  | _, _, _, _, .nil, h => h
  | _, _, _, _, .cons r t, h => .cons r (pd_app t h)
theorem pd_drop {α β : Type} {F : α → β → Prop} : ∀ {l : List α} {m : List β} (n : Nat), Paired F l m → Paired F (l.drop n) (m.drop n)
  | _, _, 0, h => h
  | _, _, _ + 1, .nil => .nil
  | _, _, n + 1, .cons _ t => pd_drop n t
theorem pd_take {α β : Type} {F : α → β → Prop} : ∀ {l : List α} {m : List β} (n : Nat), Paired F l m → Paired F (l.take n) (m.take n)
  | _, _, 0, _ => .nil
  | _, _, _ + 1, .nil => .nil
  | _, _, n + 1, .cons r t => .cons r (pd_take n t)
theorem pd_of {α β : Type} {F : α → β → Prop} : ∀ {l : List α} {m : List β}, l.length = m.length → (∀ (i : Nat) (x : α) (y : β), l[i]? = some x → m[i]? = some y → F x y) → Paired F l m
  | [], [], _, _ => .nil
  | [], _ :: _, h, _ => by cases h
  | _ :: _, [], h, _ => by cases h
  | x :: l, y :: m, h, k => .cons (k 0 x y (by simp) (by simp)) (pd_of (by simpa using h) fun i a b h1 h2 => k (i + 1) a b (by simpa using h1) (by simpa using h2))
theorem pd_mem {α β : Type} {F : α → β → Prop} {l : List α} {m : List β} (h : Paired F l m) {x : α} (hx : x ∈ l) : ∃ y, y ∈ m ∧ F x y := by
  obtain ⟨i, e⟩ := List.getElem?_of_mem hx
  obtain ⟨y, h1, h2⟩ := pd_get h e
  exact ⟨y, List.mem_of_getElem? h1, h2⟩
theorem pd_mem' {α β : Type} {F : α → β → Prop} {l : List α} {m : List β} (h : Paired F l m) {y : β} (hy : y ∈ m) : ∃ x, x ∈ l ∧ F x y := by
  obtain ⟨i, e⟩ := List.getElem?_of_mem hy
  obtain ⟨x, h1, h2⟩ := pd_get' h e
  exact ⟨x, List.mem_of_getElem? h1, h2⟩
theorem int_inj : ∀ {a b : List Int}, a.map V.int = b.map V.int → a = b
  | [], [], _ => rfl
  | [], _ :: _, h => by cases h
  | _ :: _, [], h => by cases h
  | x :: a, y :: b, h => by
    have h1 : V.int x :: a.map V.int = V.int y :: b.map V.int := h
    injection h1 with h1 h2
    injection h1 with h1
    rw [h1, int_inj h2]
theorem Tp.inj {H : Hp} {v : V} {s t : S} (h : Tp H v s) (k : Tp H v t) : s = t := by
  obtain ⟨a, rfl, ea⟩ := h
  obtain ⟨b, e, eb⟩ := k
  cases e
  rw [ea] at eb
  injection eb with eb
  injection eb with eb
  exact int_inj eb

/-! ### dicts whose keys are simplices -/
def kk (s : S) : List Key := s.map Sum.inl
theorem kk_V (s : S) : (kk s).map kV = s.map V.int := by
  unfold kk
  rw [List.map_map]
  rfl
theorem kk_inj {a b : S} (h : kk a = kk b) : a = b := by
  have q := congrArg (List.map kV) h
  rw [kk_V, kk_V] at q
  exact int_inj q
/-- the dict of these pairs -/
def dI (m : List (S × V)) : HO := .dT (m.map fun p => (kk p.1, p.2))
def getI (m : List (S × V)) (s : S) : Option V := (m.find? fun p => decide (p.1 = s)).map (·.2)
def putI (m : List (S × V)) (s : S) (v : V) : List (S × V) := if s ∈ m.map (·.1) then m.map (fun p => if p.1 = s then (p.1, v) else p) else m ++ [(s, v)]
theorem valV_kk (s : S) : ∀ m : List (S × V), valV (m.map fun p => (kk p.1, p.2)) (kk s) = getI m s
  | [] => rfl
  | p :: m => by
    by_cases e : p.1 = s
    · rw [List.map_cons, valV_pos (by rw [e])]
      simp [getI, List.find?_cons, e]
    · rw [List.map_cons, valV_neg (fun z => e (kk_inj z)), valV_kk s m]
      simp [getI, List.find?_cons, e]
theorem getI_none {s : S} : ∀ {m : List (S × V)}, getI m s = none ↔ s ∉ m.map (·.1)
  | [] => by simp [getI]
  | p :: m => by
    by_cases e : p.1 = s
    · simp [getI, List.find?_cons, e]
    · have ih := getI_none (s := s) (m := m)
      have e' : ¬ s = p.1 := fun z => e z.symm
      have q : getI (p :: m) s = getI m s := by simp [getI, List.find?_cons, e]
      rw [q, ih, List.map_cons, List.mem_cons, not_or]
      exact ⟨fun h => ⟨e', h⟩, fun h => h.2⟩
theorem getI_isSome {m : List (S × V)} {s : S} : (getI m s).isSome = decide (s ∈ m.map (·.1)) := by
  cases h : getI m s with
  | none => rw [decide_eq_false (getI_none.mp h)]; rfl
  | some v =>
    have : s ∈ m.map (·.1) := Classical.byContradiction fun z => by
      rw [getI_none.mpr z] at h
      cases h
    rw [decide_eq_true this]; rfl
theorem putK_kk (m : List (S × V)) (s : S) (v : V) : putK (m.map fun p => (kk p.1, p.2)) (kk s) v = (putI m s v).map fun p => (kk p.1, p.2) := by
  have ha : ((m.map fun p => (kk p.1, p.2)).any fun kv => decide (kv.1 = kk s)) = decide (s ∈ m.map (·.1)) := by
    rw [valV_any, valV_kk, getI_isSome]
  unfold putK putI
  rw [ha]
  by_cases h : s ∈ m.map (·.1)
  · rw [if_pos h, decide_eq_true h, if_pos rfl, List.map_map, List.map_map]
    refine List.map_congr_left fun p _ => ?_
    show (if kk p.1 = kk s then (kk p.1, v) else (kk p.1, p.2)) = (kk (if p.1 = s then (p.1, v) else p).1, (if p.1 = s then (p.1, v) else p).2)
    by_cases e : p.1 = s
    · rw [if_pos e, if_pos (by rw [e])]
    · rw [if_neg e, if_neg (fun z => e (kk_inj z))]
  · rw [if_neg h, decide_eq_false h, if_neg (by simp), List.map_append]
    rfl
theorem putI_keys (m : List (S × V)) (s : S) (v : V) : (putI m s v).map (·.1) = if s ∈ m.map (·.1) then m.map (·.1) else m.map (·.1) ++ [s] := by
  unfold putI
  by_cases h : s ∈ m.map (·.1)
  · rw [if_pos h, if_pos h, List.map_map]
    refine List.map_congr_left fun p _ => ?_
    show (if p.1 = s then (p.1, v) else p).1 = p.1
    by_cases e : p.1 = s
    · rw [if_pos e]
    · rw [if_neg e]
  · rw [if_neg h, if_neg h, List.map_append]
    rfl
theorem putI_mem {m : List (S × V)} {s t : S} {v : V} : t ∈ (putI m s v).map (·.1) ↔ t = s ∨ t ∈ m.map (·.1) := by
  rw [putI_keys]
  by_cases h : s ∈ m.map (·.1)
  · rw [if_pos h]
    constructor
    · exact .inr
    · rintro (rfl | q)
      · exact h
      · exact q
  · rw [if_neg h, List.mem_append, List.mem_singleton]
    exact Or.comm
theorem putI_nodup {m : List (S × V)} {s : S} {v : V} (h : (m.map (·.1)).Nodup) : ((putI m s v).map (·.1)).Nodup := by
  rw [putI_keys]
  by_cases q : s ∈ m.map (·.1)
  · rw [if_pos q]
    exact h
  · rw [if_neg q]
    exact nd_snoc h q
theorem putI_get {m : List (S × V)} {s t : S} {v : V} : getI (putI m s v) t = if t = s then some v else getI m t := by
  rw [← valV_kk, ← putK_kk, valV_put, valV_kk]
  by_cases e : t = s
  · rw [if_pos e, if_pos (by rw [e])]
  · rw [if_neg e, if_neg (fun z => e (kk_inj z))]
theorem putI_new {m : List (S × V)} {s : S} {v : V} (h : s ∉ m.map (·.1)) : putI m s v = m ++ [(s, v)] := by
  unfold putI
  rw [if_neg h]
theorem getI_of_mem {m : List (S × V)} (nd : (m.map (·.1)).Nodup) {s : S} {v : V} (h : (s, v) ∈ m) : getI m s = some v := by
  induction m with
  | nil => cases h
  | cons p m ih =>
    rw [List.map_cons] at nd
    have h2 := List.nodup_cons.mp nd
    rcases List.mem_cons.mp h with e | h
    · subst e
      simp [getI, List.find?_cons]
    · have e : ¬ p.1 = s := fun e => h2.1 (by rw [e]; exact List.mem_map.mpr ⟨_, h, rfl⟩)
      have q : getI (p :: m) s = getI m s := by simp [getI, List.find?_cons, e]
      rw [q]
      exact ih h2.2 h
theorem getI_mem {m : List (S × V)} {s : S} {v : V} (h : getI m s = some v) : (s, v) ∈ m := by
  induction m with
  | nil => cases h
  | cons p m ih =>
    by_cases e : p.1 = s
    · have q : getI (p :: m) s = some p.2 := by simp [getI, List.find?_cons, e]
      rw [q] at h
      injection h with h
      rw [← e, ← h]
      exact List.mem_cons_self ..
    · have q : getI (p :: m) s = getI m s := by simp [getI, List.find?_cons, e]
      rw [q] at h
      exact List.mem_cons_of_mem _ (ih h)
/-- d[k], k in d -/
theorem dget {H : Hp} {a : Addr} {m : List (S × V)} {v : V} {s : S} (e : H a = some (dI m)) (hv : Tp H v s) : DGet H a v (getI m s) := by
  obtain ⟨b, rfl, eb⟩ := hv
  have q := DGet.t (H := H) (a := a) (b := b) (kvs := m.map fun p => (kk p.1, p.2)) (k := kk s) (by exact e) (by rw [kk_V]; exact eb)
  rw [valV_kk] at q
  exact q
theorem dput {H : Hp} {a : Addr} {m : List (S × V)} {v w : V} {s : S} (e : H a = some (dI m)) (hv : Tp H v s) (hl : m.length < sizeLine) : DPut H a v w (upd H a (dI (putI m s w))) := by
  obtain ⟨b, rfl, eb⟩ := hv
  have q := DPut.t (H := H) (a := a) (b := b) (kvs := m.map fun p => (kk p.1, p.2)) (k := kk s) (v := w) (by exact e) (by rw [kk_V]; exact eb) (by rw [List.length_map]; exact hl)
  rw [putK_kk] at q
  exact q
theorem dI_tup {m : List (S × V)} {ys : List V} : dI m ≠ .tup ys := dT_tup
theorem dI_nil : dI [] = .dT [] := rfl

/-! ### comprehensions -/
/-- .. P: what the list made so far is -/
theorem lc_gen {J : It} {n : Nat} {G : Hp → Prop} {Y : Nat → Hp → V → Hp → Prop} (w : Walk J n G Y) {g : TG} {tt : TT} {te : TE} {vs : List Nat} {σ : L2.St} {H1 : Hp} {D : Addr} {Qd : Hp → Prop}
    (hD : H1 D = none) (hn : n ≤ sizeLine) (S : List Addr) (hS : ∀ a ∈ S, H1 a ≠ none) (J0 : Hp → Prop) (P : Nat → List V → Hp → Prop)
    (hJ : ∀ H H', Kp [D] H H' → J0 H → J0 H') (hP : ∀ i acc H H', TK H H' → P i acc H → P i acc H') (hl : ∀ i acc H, P i acc H → acc.length ≤ i)
    (hG : ∀ H, Kp S H1 H → J0 H → G H) (j0 : J0 H1) (h0 : P 0 [] H1)
    (hs : ∀ i x H H' acc, i < n → Kp S H1 H → J0 H → P i acc H → H D = some (.lst acc) → Y i H x H' → ∀ (K1 : VK) (K0 : Hp → Prop), (∀ y H4, Kp S H H4 → J0 H4 → P (i + 1) (acc ++ [y]) H4 → K1 y H4) → (∀ H3, Kp S H H3 → J0 H3 → P (i + 1) acc H3 → K0 H3) →
      g x (wipe σ vs) H' fun σ2 H2 => wipe σ2 vs = wipe σ vs ∧ tt σ2 H2 fun b H3 => if b = true then te σ2 H3 K1 else K0 H3)
    (hd : ∀ H acc, Kp S H1 H → J0 H → P n acc H → H D = some (.lst acc) → Qd H) :
    ∃ W : Nat → Nat → Hp → Prop, (∃ m, W 0 m (upd H1 D (.lst []))) ∧ ∀ i m H, W i m H →
      (J.stop i H ∧ Qd H) ∨ (J.go i H ∧ ∃ Nx : Hp → Prop, (∀ H', Nx H' → ∃ m', m' < m ∧ W (i + 1) m' H') ∧ ∀ x H', J.yld i H x H' → g x (wipe σ vs) H' fun σ2 H2 => wipe σ2 vs = wipe σ vs ∧ tt σ2 H2 fun b H3 =>
        if b = true then te σ2 H3 fun y H4 => ∃ acc, H4 D = some (.lst acc) ∧ acc.length < sizeLine ∧ Nx (upd H4 D (.lst (acc ++ [y]))) else Nx H3) := by
  have hDS : D ∉ S := fun m => hS D m hD
  have kD : ∀ {H : Hp} {o : HO}, (H D = none ∨ ∃ acc, H D = some (.lst acc)) → Kp [D] H (upd H D o) := fun {H o} h => by
    rcases h with h | ⟨acc, h⟩
    · exact .new h
    · exact .put (by simp) h fun xs => lst_tup
  refine lc_it w (fun i H => ∃ acc, Kp S H1 H ∧ J0 H ∧ P i acc H ∧ H D = some (.lst acc)) ⟨[], .new hD, hJ _ _ (kD (.inl hD)) j0, hP _ _ _ _ (Kp.new (S := []) hD).tups h0, upd_same⟩ (fun i H _ ⟨acc, k, j, _, _⟩ => hG H k j) ?_ fun H ⟨acc, k, j, p, e⟩ => hd H acc k j p e
  rintro i x H H' hi ⟨acc, k, j, p, e⟩ y
  refine hs i x H H' acc hi k j p e y _ _ (fun v H4 k' j' p' => ?_) fun H3 k' j' p' => ⟨acc, k.trans k', j', p', k'.keep D _ hDS e⟩
  have e4 := k'.keep D _ hDS e
  refine ⟨acc, e4, ?_, acc ++ [v], (k.trans k').put0 hD, hJ _ _ (kD (.inr ⟨_, e4⟩)) j', hP _ _ _ _ (kD (.inr ⟨_, e4⟩)).tups p', upd_same⟩
  have := hl _ _ _ p
  omega
end K18

set_option linter.all false
set_option Elab.async false
set_option maxRecDepth 100000
set_option maxHeartbeats 4000000
namespace K18
open PySem PySem.Spec PyProof.Rows L2 SH

/-! ### sorted of tuples of ints and simplices -/
theorem lexLt_ltS : ∀ a b : S, HT.lexLt a b = ltS a b
  | [], [] => rfl
  | [], _ :: _ => rfl
  | _ :: _, [] => rfl
  | x :: a, y :: b => by
    rw [HT.lexLt_cons]
    show _ = lexB ltI (x :: a) (y :: b)
    unfold lexB
    by_cases e : x = y
    · rw [if_pos e, if_pos e]
      exact lexLt_ltS a b
    · rw [if_neg e, if_neg e]
      rfl
/-- of one kind wherever they are compared -/
def same : At → At → Prop
  | .inl _, .inl _ => True
  | .inr _, .inr _ => True
  | _, _ => False
def Cmpb : Ky → Ky → Prop
  | a :: as, b :: bs => same a b ∧ Cmpb as bs
  | _, _ => True
def headInt : Ky → Prop
  | .inl _ :: _ => True
  | _ => False
section
variable {prog : Program} {w : World} {A : Around} {E : Value → Shared → Prop} {s : Shared}
def AtW (prog : Program) (w : World) (h : Heap) (u : Value) : At → Prop
  | .inl i => ∃ t, u = Value.int i t
  | .inr l => ∃ b, u = .ref b ∧ IsTupleKey (intKind prog w) h l b
theorem intsAre_items : ∀ {l : List Int} {us : List Value}, ItemsAre (intKind prog w) l us → IntsAre us l
  | _, _, .nil => .nil
  | _, _, .cons h t => by
    obtain ⟨tk, rfl⟩ := Value.isInt_shape h
    exact .cons _ _ (intsAre_items t)
theorem lex_run (fin : Bool) : ∀ (as bs : Ky) (us ws : List Value) (i : Nat) {Q : Bool → Shared → Prop}, Paired (AtW prog w s.heap) us as → Paired (AtW prog w s.heap) ws bs → Cmpb as bs → (i = 0 → headInt as) → A.units < cLine →
    (fin = decide (us.length < ws.length)) → Q (ltK as bs) s → PySem.W.KatLex prog w A true fin Q (us.zip ws) i s
  | [], [], _, _, i, Q, .nil, .nil, _, _, _, hf, h => by
    have e : fin = false := by rw [hf]; simp
    subst e
    exact PySem.W.kat_nil h
  | [], b :: bs, _, _, i, Q, .nil, .cons r2 p2, _, _, _, hf, h => by
    have e : fin = true := by rw [hf]; simp
    subst e
    exact PySem.W.kat_nil h
  | a :: as, [], _, _, i, Q, .cons r1 p1, .nil, _, _, _, hf, h => by
    have e : fin = false := by rw [hf]; simp
    subst e
    rw [List.zip_nil_right]
    exact PySem.W.kat_nil h
  | .inl x :: as, .inl y :: bs, _, _, i, Q, .cons r1 p1, .cons r2 p2, hc, hi, hu, hf, h => by
    obtain ⟨t, rfl⟩ := r1
    obtain ⟨u, rfl⟩ := r2
    have h' : Q (if (Sum.inl x : At) = Sum.inl y then ltK as bs else ltI x y) s := h
    refine PySem.W.kat_cons (SeqAt.EqAt.int_int x t y u prog w _ _ ?_)
    refine PySem.W.kat_go (fun e1 => ?_) (fun e1 => ?_)
    · have ex : x = y := by simpa using e1
      rw [if_pos (by rw [ex])] at h'
      refine PySem.W.kat_yes (lex_run fin as bs _ _ (i + 1) p1 p2 hc.2 (fun z => by omega) hu ?_ h')
      rw [hf]
      simp
    · have ex : ¬ x = y := by simpa using e1
      rw [if_neg (fun z => ex (Sum.inl.inj z))] at h'
      refine PySem.W.kat_no ?_
      cases hb : (true && i == 0) with
      | true => exact oneLt_int h'
      | false => exact PySem.W.kat_one _ _ (PyProof.Rows.lt_int (Q := PySem.W.BoolBack Q) h')
  | .inr x :: as, .inr y :: bs, _, _, i, Q, .cons r1 p1, .cons r2 p2, hc, hi, hu, hf, h => by
    obtain ⟨a, rfl, ka⟩ := r1
    obtain ⟨b, rfl, kb⟩ := r2
    have h' : Q (if (Sum.inr x : At) = Sum.inr y then ltK as bs else ltS x y) s := h
    refine PySem.W.kat_cons (wpAny_eqBool_tuple hu ka kb ?_)
    refine PySem.W.kat_go (fun e1 => ?_) (fun e1 => ?_)
    · have ex : x = y := by simpa using e1
      rw [if_pos (by rw [ex])] at h'
      refine PySem.W.kat_yes (lex_run fin as bs _ _ (i + 1) p1 p2 hc.2 (fun z => by omega) hu ?_ h')
      rw [hf]
      simp
    · have ex : ¬ x = y := by simpa using e1
      rw [if_neg (fun z => ex (Sum.inr.inj z))] at h'
      refine PySem.W.kat_no ?_
      have hb : (true && i == 0) = false := by
        cases i with
        | zero => exact (hi rfl).elim
        | succ i => rfl
      rw [hb]
      obtain ⟨o1, i1, n1, g1, c1, d1, q1⟩ := ka
      obtain ⟨o2, i2, n2, g2, c2, d2, q2⟩ := kb
      refine PySem.W.kat_one _ _ (HT.lt_tupInts ⟨o1, g1, c1, n1, d1⟩ ⟨o2, g2, c2, n2, d2⟩ (intsAre_items q1) (intsAre_items q2) hu ?_)
      rw [lexLt_ltS]
      exact h'
  | .inl x :: as, .inr y :: bs, _, _, _, _, _, _, hc, _, _, _, _ => hc.1.elim
  | .inr x :: as, .inl y :: bs, _, _, _, _, _, _, hc, _, _, _, _ => hc.1.elim
/-- v is a tuple with this key -/
def KyW (prog : Program) (w : World) (h : Heap) (v : Value) (k : Ky) : Prop := ∃ a o us n, v = .ref a ∧ h.get? a = some o ∧ o.cls = .type "tuple" ∧ o.data = .seq us.toArray n ∧ Paired (AtW prog w h) us k
theorem AtW.keeps {h h' : Heap} {u : Value} {x : At} (r : AtW prog w h u x) (k : ∀ b o, h.get? b = some o → o.cls = .type "tuple" → h'.get? b = some o) : AtW prog w h' u x := by
  cases x with
  | inl i => exact r
  | inr l =>
    obtain ⟨b, e, o, it, n, g, c, d⟩ := r
    exact ⟨b, e, o, it, n, k _ _ g c, c, d⟩
theorem KyW.keeps {h h' : Heap} {v : Value} {x : Ky} (r : KyW prog w h v x) (k : ∀ b o, h.get? b = some o → o.cls = .type "tuple" → h'.get? b = some o) : KyW prog w h' v x := by
  obtain ⟨a, o, us, n, e, g, c, d, p⟩ := r
  exact ⟨a, o, us, n, e, k _ _ g c, c, d, L2.Paired.mapP p fun _ _ q => q.keeps k⟩
theorem swo_K (f : Value → Ky) : SrtO.Swo fun v u => ltK (f v) (f u) := ⟨fun x y h => sto_K.asym h, fun x y z h1 h2 => sto_K.ntr h1 h2⟩
theorem ky_cmp {vs : List Value} {k : Value → Ky} (hp : ∀ v ∈ vs, KyW prog w s.heap v (k v)) (hh : ∀ v ∈ vs, headInt (k v)) (hc : ∀ v ∈ vs, ∀ u ∈ vs, Cmpb (k v) (k u)) (hu : A.units < cLine) :
    SrtO.Cmp prog w A s (tuples' true) (fun p => p.1 ∈ vs) (SrtO.lt2 fun v u => ltK (k v) (k u)) := by
  intro p q hm hm'
  show wpAny (model prog w) A (keyLt' (tuples' true) p.1 q.1) (fun r s' => s' = s ∧ r = ltK (k p.1) (k q.1)) (fun _ _ => False) s
  have h1 := hp _ hm
  have h2 := hp _ hm'
  have h3 := hh _ hm
  have h4 := hc _ hm _ hm'
  generalize k p.1 = x at *
  generalize k q.1 = y at *
  obtain ⟨a, o, us, n, e, g, c, d, pr⟩ := h1
  obtain ⟨a', o', us', n', e', g', c', d', pr'⟩ := h2
  rw [e, e']
  refine PySem.W.kat_lt g d g' d' ?_
  refine lex_run _ x y us us' 0 pr pr' h4 (fun _ => h3) hu ?_ ⟨rfl, rfl⟩
  simp
theorem firsts_ky {h : Heap} : ∀ {vs : List Value}, (∀ v ∈ vs, ∃ k, KyW prog w h v k ∧ headInt k) → ∃ fs, PySem.W.KatTups h vs fs ∧ fs.length = vs.length ∧ ∀ f ∈ fs, ∃ i t, f = Value.int i t
  | [], _ => ⟨[], .nil, rfl, fun f hf => by cases hf⟩
  | v :: vs, hv => by
    obtain ⟨fs, h1, h2, h3⟩ := firsts_ky (vs := vs) fun u hu => hv u (List.mem_cons_of_mem _ hu)
    obtain ⟨k, ⟨a, o, us, n, rfl, g, c, d, p⟩, hk⟩ := hv v (List.mem_cons_self ..)
    match k, us, p, hk with
    | .inl i :: k, u :: us, .cons r p, _ =>
      obtain ⟨t, rfl⟩ := r
      exact ⟨Value.int i t :: fs, .cons g c d (by simp) h1, by rw [List.length_cons, List.length_cons, h2], fun f hf => by
        rcases List.mem_cons.mp hf with rfl | hf
        · exact ⟨_, _, rfl⟩
        · exact h3 f hf⟩
theorem ky_sortable {a : Addr} {vs : List Value} {k : Value → Ky} (h0 : 0 < vs.length) (hp : ∀ v ∈ vs, KyW prog w s.heap v (k v)) (hh : ∀ v ∈ vs, headInt (k v)) (hc : ∀ v ∈ vs, ∀ u ∈ vs, Cmpb (k v) (k u)) (hu : A.units < cLine)
    (ha : ∀ o, s.heap.get? a = some o → o.cls ≠ .type "tuple") : SrtO.SortableO prog w A s a vs fun v u => ltK (k v) (k u) := by
  intro h' keep
  have hp' : ∀ v ∈ vs, KyW prog w h' v (k v) := fun v hm => (hp v hm).keeps fun b o e c => keep b o (fun z => by subst z; exact ha o e c) e
  obtain ⟨fs, h1, h2, h3⟩ := firsts_ky (prog := prog) (w := w) fun v hm => ⟨_, hp' v hm, hh v hm⟩
  refine ⟨tuples' true, fun Q E hq => ?_, ky_cmp hp' hh hc hu⟩
  refine PySem.W.kat_kind (T := .type "int") h1 (by omega) (fun f hm => ?_) (by rfl) ?_
  · obtain ⟨x, t, rfl⟩ := h3 f hm
    exact PySem.W.Looks.now
  · have e : (Value.type "int" != Value.type "tuple") = true := by decide +kernel
    rw [e]
    exact hq
end

/-- v is a tuple with this key, by the abstract heap -/
def AtV (H : Hp) (v : V) : At → Prop
  | .inl i => v = .int i
  | .inr s => Tp H v s
def IsKy (H : Hp) (x : V) (k : Ky) : Prop := ∃ t vs, x = .ref t ∧ H t = some (.tup vs) ∧ Paired (AtV H) vs k
theorem items_ofV {P : Program} {w : World} : ∀ {l : List Int} {us : List Value}, Vals (l.map V.int) us → ItemsAre (intKind P w) l us
  | [], _, .nil => .nil
  | n :: l, _, .cons r t => by
    obtain ⟨tk, rfl⟩ := r
    exact .cons (by show Value.isInt n (.int n tk) = true; simp [Value.isInt]) (items_ofV t)
theorem tup_key {P : Program} {w : World} {H : Hp} {h : Heap} {b : Addr} {l : S} (ok : HOk P w H h) (e : H b = some (tp l)) : IsTupleKey (intKind P w) h l b := by
  obtain ⟨_, its, r, o, g, c, n, d⟩ := ok b _ e
  exact ⟨o, its.toArray, n, g, c, d, by simpa using items_ofV r⟩
theorem ats_of {P : Program} {w : World} {H : Hp} {h : Heap} (ok : HOk P w H h) : ∀ {vs : List V} {k : Ky} {us : List Value}, Paired (AtV H) vs k → Vals vs us → Paired (AtW P w h) us k
  | _, _, _, .nil, .nil => .nil
  | v :: _, x :: _, u :: _, .cons r p, .cons q t => by
    refine .cons ?_ (ats_of ok p t)
    cases x with
    | inl i =>
      have r : v = .int i := r
      subst r
      exact q
    | inr l =>
      obtain ⟨b, rfl, e⟩ := (r : Tp H v l)
      exact ⟨b, q, tup_key ok e⟩
/-- sorted(xs) -/
def rSortedN (K : PySem.W.Frag) : List V → Hp → VK → Prop := fun vs H Q => ∃ (a : Addr) (xs : List V) (k : V → Ky), vs = [V.ref a] ∧ SqL K H a xs ∧ (∀ x ∈ xs, IsKy H x (k x) ∧ headInt (k x)) ∧ (∀ x ∈ xs, ∀ y ∈ xs, Cmpb (k x) (k y)) ∧
  ∀ ys p, ys.Perm xs → ys.Pairwise (fun x y => ltK (k y) (k x) = false) → H p = none → Q (.ref p) (upd H p (.lst ys))
theorem cr_sortedN {X : Cx} {n : Nat} (hr : Room n X.A) : CallR X (.builtin "sorted") (rSortedN X.K) := by
  intro pins s σ H vs us Q I r h
  obtain ⟨a, xs, k, rfl, hs, hx, hc, q⟩ := h
  obtain ⟨its, rv, hl, hz⟩ := I.list hs
  obtain ⟨u, rfl, ru⟩ := vals1 r
  obtain rfl : u = Value.ref a := ru
  obtain ⟨e1, e2⟩ := refs_back rv fun x m => by
    obtain ⟨⟨t, _, e, _⟩, _⟩ := hx x m
    exact ⟨t, e⟩
  have hm : ∀ v ∈ its, backV v ∈ xs := fun v hv => by rw [e1]; exact List.mem_map.mpr ⟨_, hv, rfl⟩
  have hp : ∀ v ∈ its, KyW X.prog X.w s.heap v (k (backV v)) := fun v hv => by
    obtain ⟨t, rfl⟩ := e2 v hv
    obtain ⟨⟨t', vs, e, ht, p⟩, _⟩ := hx _ (hm _ hv)
    have e : V.ref t = V.ref t' := e
    cases e
    obtain ⟨_, its2, r2, o, ho, hc, n, hd⟩ := I.hok _ _ ht
    exact ⟨t, o, its2, n, rfl, ho, hc, hd, ats_of I.hok p r2⟩
  have hu : X.A.in1.in1.units < cLine := by
    have := hr.units
    show X.A.units + 1 + 1 < cLine
    omega
  refine SrtO.sorted_ord (ltv := fun v u => ltK (k (backV v)) (k (backV u))) (swo_K _) hl.isList (by rw [← rv.length]; exact hz) (fun h2 h₁ a' ha kk => ?_) fun out h1 h2 => ?_
  · refine ky_sortable (s := { s with heap := h₁ }) (by omega) (fun v hv => (hp v hv).keeps fun b o e _ => (kk b o e).2) (fun v hv => (hx _ (hm v hv)).2) (fun v hv u hu => hc _ (hm v hv) _ (hm u hu)) hu fun o e => ?_
    have e' : some o = some (seqObj "list" its.toArray 0) := e.symm.trans ha
    cases e'
    intro c
    exact absurd (Value.type.inj c) (by decide)
  · have h3 : ∀ u ∈ out, ∃ a, u = Value.ref a := fun u hu => e2 u (h2.perm.mem_iff.mp hu)
    obtain ⟨ep, he'⟩ := PyProof.Rows.sortedAll_at s.heap its out.toArray
    have hperm : (out.map backV).Perm xs := by
      rw [e1]
      exact h2.perm.map backV
    have hlen : (out.map backV).length ≤ sizeLine := by
      rw [hperm.length_eq]
      exact hz
    exact ⟨.ref _, upd H (s.heap.objs.size + 1) (.lst (out.map backV)), I.laid (t' := s.toks) (fun _ _ => PyProof.Rows.sortedAll_old) (Nat.le_succ _) ⟨hlen, out, ep, vals_back h3, he'⟩, rfl,
      q _ _ hperm (List.pairwise_map.mpr h1) (I.hok.fresh (Nat.le_succ _))⟩
end K18

set_option linter.all false
set_option Elab.async false
set_option maxRecDepth 100000
set_option maxHeartbeats 4000000
namespace PySem
open Sem (wp)
set_option maxHeartbeats 1000000 in
theorem k18_enumerate_newB {v : Value} {o : Obj} {H : Heap → Prop} (B : Begins v o H) :
    Meets (Builtin.«enumerate.__new__» ⟨[.type "enumerate", v], []⟩) (fun _ R s => H s.heap ∧
      R (.ok (.ret (.ref (s.heap.push o).objs.size))) { s with heap := (s.heap.push o).push { cls := .type "enumerate", data := .fields #[.none, .bool false, .ref s.heap.objs.size, rawInt 0, .none, .none] } }) :=
  .of_wp fun prog w A R s h => by
    obtain ⟨hp, g, d, tk, os⟩ := s; obtain ⟨h1, h⟩ := h
    have hsub := sub_enumerate
    have q1 : ∀ {A' : Around} {E : Value → Shared → Prop} {Q : Value → Shared → Prop}, Q (.ref hp.objs.size) ⟨hp.push o, g, d, tk, os⟩ → wpAny (model prog w) A' (pyIter v) Q E ⟨hp, g, d, tk, os⟩ :=
      fun q => B.iter prog w _ _ ⟨hp, g, d, tk, os⟩ _ h1 q
    wp_walk using q1
    refine wpAny_stack_any fun st => wpAny_pure ?_
    split
    · rename_i c _ _ _ _ _
      cases (c == Value.type "enumerate")
      · wp_walk using q1
        exact ⟨_, rfl, h⟩
      · wp_walk using q1
        exact ⟨_, rfl, h⟩
    · wp_walk using q1
      exact ⟨_, rfl, h⟩
section
variable {prog : Program} {w : World} {A : Around} {E : Value → Shared → Prop} {s : Shared}
theorem k18_enum_begins {v : Value} {o : Obj} {H : Heap → Prop} {Q : Value → Shared → Prop} (B : Begins v o H) (h1 : H s.heap)
    (h : ∀ h', IsEnum h' (s.heap.objs.size + 1) s.heap.objs.size 0 .none → h'.get? s.heap.objs.size = some o → h'.objs.size = s.heap.objs.size + 2 →
      (∀ b o, s.heap.get? b = some o → h'.get? b = some o) → Q (.ref (s.heap.objs.size + 1)) { s with heap := h' }) :
    wpAny (model prog w) A (call (.type "enumerate") [v]) Q E s := by
  refine callType_new F.called_enumerate (by decide) (F.typeCall_enumerate_1 _) (F.newCall_enumerate_1 _) (fun obj => F.args_object_init_2 obj _) F.entry_enumerate_new
    (k18_enumerate_newB B) ⟨h1, ?_⟩
  have hz : (s.heap.push o).objs.size = s.heap.objs.size + 1 := Heap.size_push ..
  show _ ∧ _
  rw [hz]
  have he : IsEnum ((s.heap.push o).push { cls := .type "enumerate", data := .fields #[.none, .bool false, .ref s.heap.objs.size, rawInt 0, .none, .none] }) (s.heap.objs.size + 1) s.heap.objs.size 0 .none := by
    have := Heap.get?_push_size (s.heap.push o) (o := { cls := .type "enumerate", data := .fields #[.none, .bool false, .ref s.heap.objs.size, rawInt 0, .none, .none] }) rfl
    rw [hz] at this; exact this
  refine ⟨⟨_, he, rfl⟩, h _ he (Heap.get?_push_of_some _ (Heap.get?_push_size _ B.free)) (by rw [Heap.size_push, hz]) fun b o x => Heap.get?_push_of_some _ (Heap.get?_push_of_some _ x)⟩
end
end PySem

namespace K18
open PySem PySem.Spec PyProof.Rows L2 SH

/-! ### (*e, ..) -/
theorem pa_star {X : Cx} {e : Expr} {p : Pos} {es : List Expr} {ta : TE} {tr : TA} (he : PE X e ta) (hr : PA X es tr) (hs : starEach (.Starred e p :: es) X.env = (true, eval e X.env) :: starEach es X.env := by rfl) :
    PA X (.Starred e p :: es) (fun σ H Q => ta σ H fun x H1 => ∃ b xs, x = .ref b ∧ SqT X.K H1 b xs ∧ tr σ H1 fun ys H2 => Q (xs ++ ys) H2) := by
  refine ⟨fun pos pins s σ H Q I h => ?_⟩
  refine PySem.W.items_star (thn (he.run pins s σ H _ I h) fun v s1 ⟨x, H1, I1, r1, b, xs, ex, hq, q⟩ => ?_) hs
  subst ex
  obtain rfl : v = Value.ref b := r1
  refine star_tup I1 hq fun us s2 I2 r2 => ?_
  exact thn (hr.run pos pins s2 σ H1 _ I2 q) fun ws s3 ⟨ys, H3, I3, r3, q3⟩ => ⟨xs ++ ys, H3, I3, r2.append r3, q3⟩

/-! ### enumerate(tuple) -/
def IteT (K : PySem.W.Frag) (a : Addr) : It :=
  ⟨fun i H => ∃ (xs : List V) (x : V), SqT K H a xs ∧ xs[i]? = some x, fun i H v H' => ∃ T x, v = .ref T ∧ H T = none ∧ H' = upd H T (.tup [.int (i : Nat), x]) ∧ ∀ xs, SqT K H a xs → xs[i]? = some x, fun i H => ∃ xs : List V, SqT K H a xs ∧ xs.length = i⟩
theorem turn_enumT {P : Program} {w : World} {K : PySem.W.Frag} {elts : List Expr} {kk : Nat} {tpos : Pos} (a e it : Addr) (hae : a ≠ e) (hai : a ≠ it) :
    Turn P w K (.Tuple elts kk tpos) (IteT K a) [e, it] e (fun i h => (∃ old, IsEnum h e it (0 + (i : Int)) old) ∧ h.IsTupleIter it a i ∧ e ≠ it) where
  mem := by simp
  obj := fun i h st b hb => by
    obtain ⟨⟨old, he⟩, ⟨o, ho, hc, hd⟩, _⟩ := st
    have e' : b = e ∨ b = it := by simpa using hb
    rcases e' with z | z
    · rw [z]; exact ⟨_, he, fun v q => nomatch q⟩
    · rw [z]; exact ⟨o, ho, fun v q => by rw [hd] at q; cases q⟩
  keep := fun i h h' st k => let ⟨⟨old, he⟩, hi, hne⟩ := st; ⟨⟨old, k e (by simp) _ he⟩, hi.at fun o q => k it (by simp) o q, hne⟩
  item := by
    intro X hP hw hK hc i pins s σ H E I hf st hg
    subst hP hw hK
    obtain ⟨⟨old, he⟩, hit, hne⟩ := st
    obtain ⟨xs, x, hq, hx⟩ := hg
    obtain ⟨its, rv, p, hz⟩ := I.tuple hq
    obtain ⟨u, hu, ru⟩ := rv.get hx
    have hel : e < s.heap.objs.size := Heap.lt_size he
    have hil : it < s.heap.objs.size := by obtain ⟨_, q, _⟩ := hit; exact Heap.lt_size q
    have hil' : i < its.toArray.size := by
      have := (List.getElem?_eq_some_iff.mp hu).1
      simpa using this
    have G := GoesN.enumFrom (prog := X.prog) (w := X.w) (A := X.A) (elts := elts) (x1 := kk) (pos := tpos) 0 (Draws.tuple (A := X.A.in1) (I.ok.hd hc) it a hai its.toArray) e hne (by
      intro m
      have e' : e = it ∨ e = a := by simpa using m
      rcases e' with z | z
      · exact hne z
      · exact hae z.symm) (by simp)
    refine wpAny_mono (G.goes i s (fun v s2 => ∃ x H', Inv X pins σ H' s2 ∧ RelV x v ∧ (IteT X.K a).yld i H x H' ∧ ((∃ old, IsEnum s2.heap e it (0 + ((i + 1 : Nat) : Int)) old) ∧ s2.heap.IsTupleIter it a (i + 1) ∧ e ≠ it) ∧ ∀ b ∈ [e, it], H' b = none) E hil' ⟨⟨old, he⟩, hit, p⟩ fun v h' tk hY st' hk htk => ?_) (fun r s1 hr => ?_) fun _ _ z => z
    · obtain ⟨T, t, y, rfl, hT, hy, hTT⟩ := hY
      obtain ⟨he', hit', p'⟩ := st'
      have eu : y = u := by
        have : its.toArray[i]? = some u := by simpa using hu
        rw [this] at hy
        exact (Option.some.inj hy).symm
      subst eu
      have ez : (0 : Int) + (i : Int) = (i : Int) := by omega
      rw [ez] at hTT
      have hTle : s.heap.objs.size ≤ T := hT
      have new : ObjOk X.prog X.w (upd H T (.tup [.int (i : Nat), x])) h' T (.tup [.int (i : Nat), x]) :=
        ⟨by show 2 ≤ sizeLine; decide, [.int i t, y], .cons ⟨_, rfl⟩ (.cons ru .nil), hTT⟩
      have I1 : Inv X pins σ (upd H T (.tup [.int (i : Nat), x])) { s with heap := h', toks := tk } := I.turnedNew (ch := [e, it]) hk hf hTle new
      refine ⟨.ref T, _, I1, rfl, ⟨T, x, rfl, I.hok.fresh hTle, rfl, fun ys hy => by rw [I.tuple_inj hy hq]; exact hx⟩, ⟨he', hit', hne⟩, fun b hb => ?_⟩
      have hb' : b < s.heap.objs.size := by
        have e' : b = e ∨ b = it := by simpa using hb
        rcases e' with z | z
        · rw [z]; exact hel
        · rw [z]; exact hil
      rw [upd_ne (Nat.ne_of_lt (Nat.lt_of_lt_of_le hb' hTle))]
      exact (hf b hb).1
    · exact hr
  done := by
    intro X hP hw hK hc i pins s σ H E I hf st hg
    subst hP hw hK
    obtain ⟨⟨old, he⟩, hit, hne⟩ := st
    obtain ⟨xs, hq, hx⟩ := hg
    obtain ⟨its, rv, p, hz⟩ := I.tuple hq
    have hl : its.toArray.size = i := by
      rw [List.size_toArray, ← rv.length]
      exact hx
    have G := GoesN.enumFrom (prog := X.prog) (w := X.w) (A := X.A) (elts := elts) (x1 := kk) (pos := tpos) 0 (Draws.tuple (A := X.A.in1) (I.ok.hd hc) it a hai its.toArray) e hne (by
      intro m
      have e' : e = it ∨ e = a := by simpa using m
      rcases e' with z | z
      · exact hne z
      · exact hae z.symm) (by simp)
    exact G.stops s (fun s1 => Inv X pins σ H s1) E (by rw [hl]; exact ⟨⟨old, he⟩, hit, p⟩) fun h' tk hk htk => I.turnedL (ch := [e, it]) hk hf
  self := fun A i s Q E st h => let ⟨⟨_, he⟩, _⟩ := st; wpAny_pyIter_enum he h
def iEnumT (K : PySem.W.Frag) (ta : TA) : TI := fun σ H R => ta σ H fun vs H1 => ∃ a xs, vs = [.ref a] ∧ SqT K H1 a xs ∧ R (IteT K a) H1
theorem pi_enumT {X : Cx} {e : Expr} {ta : TA} {p pos tpos : Pos} {elts : List Expr} {kk : Nat} (hg : Gl X "enumerate") (hm : X.mg "enumerate" = none) (ha : PA X [e] ta) (hs : starEach [e] X.env = [(false, eval e X.env)] := by rfl) :
    PI X (.Tuple elts kk tpos) (.Call (.Name "enumerate" p) [e] [] pos) (iEnumT X.K ta) := by
  refine ⟨fun pins s σ H R I h => ?_⟩
  refine Call_ (ld_blt I hg hm boot_enumerate (PyProof.Rows.callWith_type1 (thn (ha.run pos pins s σ H _ I h) fun us s1 ⟨vs, H1, I1, r1, q1⟩ => ?_) hs rfl))
  obtain ⟨a, xs, ex, hq, q⟩ := q1
  subst ex
  cases r1 with
  | cons r rr =>
    cases rr
    cases r
    obtain ⟨its, rv, p', hz⟩ := I1.tuple hq
    have hlt : a < s1.heap.objs.size := by obtain ⟨o, ho, _⟩ := p'; exact Heap.lt_size ho
    refine k18_enum_begins (begins_tuple a its.toArray) p' fun h' he hit hsz hk => wpAny_pyIter_enum he ?_
    have I2 : Inv X pins σ H1 { s1 with heap := h' } := I1.kept (t' := s1.toks) hk
    refine ⟨s1.heap.objs.size + 1, [s1.heap.objs.size + 1, s1.heap.objs.size], _, _, H1, rfl, I2, turn_enumT a (s1.heap.objs.size + 1) s1.heap.objs.size (Nat.ne_of_lt (Nat.lt_succ_of_lt hlt)) (Nat.ne_of_lt hlt), ⟨⟨.none, he⟩, ⟨_, hit, rfl, rfl⟩, Nat.succ_ne_self _⟩, fun b hb => ?_, q⟩
    have e' : b = s1.heap.objs.size + 1 ∨ b = s1.heap.objs.size := by simpa using hb
    have hle : s1.heap.objs.size ≤ b := by
      rcases e' with z | z
      · rw [z]; exact Nat.le_add_right _ _
      · rw [z]; exact Nat.le_refl _
    exact I1.fpOk hle (I1.hok.fresh hle)
theorem walk_enumT {K : PySem.W.Frag} {a : Addr} {xs : List V} : Walk (IteT K a) xs.length (fun H => SqT K H a xs) (YPair (fun i => some (.int (i : Nat))) (fun i => xs[i]?)) := by
  refine ⟨fun i _ hi q => ⟨xs, xs[i], q, by simp [hi]⟩, fun _ q => ⟨xs, q, rfl⟩, fun i H v H' _ q y => ?_⟩
  obtain ⟨T, x, h1, h2, h3, h4⟩ := y
  exact ⟨T, .int (i : Nat), x, h1, h2, h3, rfl, h4 xs q⟩

/-! ### zip of two tuples -/
theorem walk_zipT {K : PySem.W.Frag} {a b : Addr} {xs ys : List V} {n : Nat} (hn : n = min xs.length ys.length) : Walk (RZ.ItzT K a b) n (fun H => SqT K H a xs ∧ SqT K H b ys) (YPair (fun i => xs[i]?) (fun i => ys[i]?)) := by
  subst hn
  refine ⟨fun i _ hi q => ?_, fun _ q => ⟨xs, ys, q.1, q.2, by omega⟩, fun i H v H' _ q y => ?_⟩
  · have h1 : i < xs.length := by omega
    have h2 : i < ys.length := by omega
    exact ⟨xs, ys, xs[i], ys[i], q.1, q.2, by simp [h1], by simp [h2]⟩
  · obtain ⟨T, x, z, h1, h2, h3, h4, h5⟩ := y
    exact ⟨T, x, z, h1, h2, h3, h4 xs q.1, h5 ys q.2⟩

/-! ### d.items(), keys that are tuples -/
theorem frzT2 {X : Cx} {pins : List (Addr × Obj)} {σ : L2.St} {H : Hp} {s : Shared} {d : Addr} {o : Obj} {kvs : List (List Key × V)} (I : Inv X pins σ H s) (h : H d = some (.frz o (.dT kvs))) :
    (d == sysModules) = false ∧ s.heap.get? d = some o ∧ o.ExactDict ∧ ∃ (es : Array DictEntry) (ep : Nat), o.data = .dict es ep ∧ es.size = kvs.length ∧
      ∀ (i : Nat) (k : List Key) (v : V), kvs[i]? = some (k, v) → ∃ (en : DictEntry) (q : Addr), es[i]? = some en ∧ en.key = .ref q ∧ H q = some (.tup (k.map kV)) ∧ RelV v en.val := by
  obtain ⟨hd, z, hs, xs, pr, o', es, ep, ho, hx, hdt, he, _⟩ := I.hok d _ h
  rw [hd] at ho
  cases ho
  refine ⟨hs, hd, hx, es, ep, hdt, ?_, fun i k v e => ?_⟩
  · have l1 : es.size = xs.length := size_of_entries he
    have l2 : kvs.length = xs.length := Paired.length pr
    omega
  · obtain ⟨b, hb, e1, e2, e3⟩ := paired_get pr e
    have q := entry_at he i
    rw [hb] at q
    exact ⟨_, b.2.1, q, rfl, e2, e3⟩
/-- the pairs, each a new tuple -/
def ItiT (d : Addr) (o : Obj) (kvs : List (List Key × V)) : It :=
  ⟨fun i H => H d = some (.frz o (.dT kvs)) ∧ i < kvs.length, fun i H x H' => ∃ T k v q, kvs[i]? = some (k, v) ∧ x = .ref T ∧ H T = none ∧ H q = some (.tup (k.map kV)) ∧ H' = upd H T (.tup [.ref q, v]), fun i H => H d = some (.frz o (.dT kvs)) ∧ kvs.length ≤ i⟩
theorem turn_itemsT {P : Program} {w : World} {K : PySem.W.Frag} {d : Addr} {o : Obj} {es : Array DictEntry} {ep : Nat} {kvs : List (List Key × V)} {elts : List Expr} {kk : Nat} {tpos : Pos} (it : Addr) (hod : o.data = .dict es ep) (hne : d ≠ it) :
    Turn P w K (.Tuple elts kk tpos) (ItiT d o kvs) [it] it (fun i h => ∃ ok ov, IsItemIter h it d i kvs.length ep ok ov) where
  mem := by simp
  obj := fun i h st b hb => by
    have e : b = it := by simpa using hb
    subst e
    obtain ⟨ok, ov, e⟩ := st
    exact ⟨_, e, fun v z => nomatch z⟩
  keep := fun i h h' st k => let ⟨ok, ov, e⟩ := st; ⟨ok, ov, k it (by simp) _ e⟩
  item := by
    intro X hP hw hK hc i pins s σ H E I hf st hg
    subst hP hw hK
    obtain ⟨hd, hi⟩ := hg
    obtain ⟨hs, hgd, hx, es', ep', hdt, hsz, ent⟩ := frzT2 I hd
    obtain ⟨rfl, rfl⟩ := dict_ep hod hdt
    obtain ⟨⟨k, v⟩, hkv⟩ : ∃ p, kvs[i]? = some p := ⟨kvs[i], List.getElem?_eq_getElem hi⟩
    obtain ⟨en, q, hen, hkey, hq, hval⟩ := ent i k v hkv
    obtain ⟨ok, ov, he⟩ := st
    rw [← hsz] at he
    have hlt : it < s.heap.objs.size := Heap.lt_size he
    have hm : s.heap.DictRaw d es' ep' := ⟨o, hgd, hx, hdt⟩
    have hil : i < es'.size := by omega
    have een : es'[i] = en := by
      rw [Array.getElem?_eq_getElem hil] at hen
      exact Option.some.inj hen
    have G := GoesN.ofWalksT (elts := elts) (k := kk) (pos := tpos) (WalksT.rawItems (prog := X.prog) (w := X.w) (A := X.A) (I.ok.hd hc) it d hne es' ep')
    refine wpAny_mono (G.goes i s (fun u s2 => ∃ x H', Inv X pins σ H' s2 ∧ RelV x u ∧ (ItiT d o kvs).yld i H x H' ∧ (∃ ok ov, IsItemIter s2.heap it d (i + 1) kvs.length ep' ok ov) ∧ ∀ b ∈ [it], H' b = none) E hil ⟨⟨ok, ov, he⟩, hm⟩ fun u h' tk hY st' hk htk => ?_) (fun r s1 hr => hr) fun _ _ z => z
    obtain ⟨T, vals, rfl, hT, ⟨_, rfl⟩, hTT⟩ := hY
    rw [een, hkey] at hTT
    have new : ObjOk X.prog X.w (upd H T (.tup [.ref q, v])) h' T (.tup [.ref q, v]) := ⟨by show 2 ≤ sizeLine; decide, [.ref q, en.val], .cons rfl (.cons hval .nil), hTT⟩
    have I1 : Inv X pins σ (upd H T (.tup [.ref q, v])) { s with heap := h', toks := tk } := I.turnedNew (ch := [it]) hk hf hT new
    refine ⟨.ref T, _, I1, rfl, ⟨T, k, v, q, hkv, rfl, I.hok.fresh hT, hq, rfl⟩, ?_, fun b hb => ?_⟩
    · rw [← hsz]
      exact st'.1
    · have e : b = it := by simpa using hb
      rw [e, upd_ne (Nat.ne_of_lt (Nat.lt_of_lt_of_le hlt hT))]
      exact (hf it (by simp)).1
  done := by
    intro X hP hw hK hc i pins s σ H E I hf st hg
    subst hP hw hK
    obtain ⟨hd, hi⟩ := hg
    obtain ⟨f0, f1, f2, f3, f4, f5⟩ := hf it (by simp)
    obtain ⟨hs, hgd, hx, es', ep', hdt, hsz, ent⟩ := frzT2 I hd
    obtain ⟨rfl, rfl⟩ := dict_ep hod hdt
    obtain ⟨ok, ov, he⟩ := st
    rw [← hsz] at he
    exact wpAny_pyNext_items_end_raw (I.ok.hd hc) he ⟨o, hgd, hx, hdt⟩ (by omega) fun h' eb => ⟨rfl, I.turned (t' := s.toks) (fun b ob hb e => eb b ob hb e) f0 f1 f3 f4 f5⟩
  self := fun A i s Q E st h => let ⟨_, _, e⟩ := st; PySem.W.kcp_self e h
def iItemsT (td : TE) : TI := fun σ H R => td σ H fun x H1 => ∃ d o kvs, x = .ref d ∧ H1 d = some (.frz o (.dT kvs)) ∧ R (ItiT d o kvs) H1
theorem pi_itemsT {X : Cx} {e : Expr} {td : TE} {apos cpos : Pos} {elts : List Expr} {kk : Nat} {tpos : Pos} (he : PE X e td) (hbase : attributeBase e "items" X.env (eval e X.env) = eval e X.env := by rfl) (hline : (apos.endLine == cpos.line) = true := by rfl) :
    PI X (.Tuple elts kk tpos) (.Call (.Attribute e "items" apos) [] [] cpos) (iItemsT td) := by
  refine ⟨fun pins s σ H R I h => ?_⟩
  refine wpAny_Call_method (T := "dict") (id := "dict.items") hbase rfl hline F.plainAttrs_dict F.slot_dict_items F.type_dict_items (thn (he.run pins s σ H _ I h) fun u s1 ⟨x, H1, I1, rx, d, o, kvs, ex, hd, q⟩ => ?_)
  subst ex
  obtain rfl : u = Value.ref d := rx
  obtain ⟨hs, hgd, hx, es, ep, hdt, hsz, ent⟩ := frzT2 I1 hd
  have hm : s1.heap.DictRaw d es ep := ⟨o, hgd, hx, hdt⟩
  have hne : d ≠ (s1.heap.push { cls := .type "dict_items", data := .fields #[.ref d] }).objs.size := by
    rw [Heap.size_push]
    exact Nat.ne_of_lt (Nat.lt_succ_of_lt (Heap.lt_size hgd))
  refine ⟨hm.typeIs, fun a e => by cases e; exact ⟨o, hgd, hx.2.1⟩, ?_⟩
  have I2 : Inv X pins σ H1 { s1 with heap := s1.heap.push { cls := .type "dict_items", data := .fields #[.ref d] } } := I1.kept (t' := s1.toks) fun b ob q => Heap.get?_push_of_some _ q
  have fin : wpAny (model X.prog X.w) X.A (pyIter (.ref s1.heap.objs.size)) (PIE X pins σ (.Tuple elts kk tpos) R) X.xe { s1 with heap := s1.heap.push { cls := .type "dict_items", data := .fields #[.ref d] } } := by
    refine wpAny_pyIter_items_raw (d := d) ⟨_, Heap.get?_push_size _ rfl, rfl, rfl⟩ (hm.at fun _ e => Heap.get?_push_of_some _ e) (pi_one (tk := s1.toks) I2 _ (turn_itemsT _ hdt hne) ⟨.none, .none, ?_⟩ q)
    rw [hsz]
    exact Heap.get?_push_size _ rfl
  show wpAny _ _ (callWith cpos (.builtin "dict.items") [.ref d] [] []) _ X.xe s1
  exact method_meetsIn F.slot_dict_items F.entry_dict_items rfl (PySem.evalArgs_none ⟨rfl, hm.typeIs, F.args_dict_items_1 _, _, meets_dict_items_raw d hs, ⟨es, ep, hm⟩, fin⟩)
theorem walk_itemsT {d : Addr} {o : Obj} {kvs : List (List Key × V)} : Walk (ItiT d o kvs) kvs.length (fun H => H d = some (.frz o (.dT kvs)))
    (fun i H x H' => ∃ T k v q, kvs[i]? = some (k, v) ∧ x = .ref T ∧ H T = none ∧ H q = some (.tup (k.map kV)) ∧ H' = upd H T (.tup [.ref q, v])) :=
  ⟨fun _ _ hi q => ⟨q, hi⟩, fun _ q => ⟨q, Nat.le_refl _⟩, fun _ _ _ _ _ _ y => y⟩

/-! ### a == b by an own __eq__: b of the same class, or a tuple -/
def rEqOwn (K : PySem.W.Frag) (C : Addr) (sp : Sp) (E : XK) : V → V → Hp → VK → Prop := fun x y H Q => ∃ a b dx fs, x = .ref a ∧ y = .ref b ∧ H a = some (.ins C dx fs) ∧
  ((∃ dy gs, H b = some (.ins C dy gs)) ∨ ((∃ ys, H b = some (.tup ys)) ∧ PySem.W.notFirst K C (.type "tuple") = true)) ∧ sp [x, y] H (fun v H' => ∃ c, v = .bl c ∧ Q (.bl c) H') E
theorem op_eqOwn {X : Cx} {CX : CXT} {n : Nat} {C f : Addr} {fd : FuncData} {ps : List Str} {sp : Sp} {E : XK} (F : FnOk X.prog X.w X.K X.mg X.base CX n f fd ps sp) (hr : Room n X.A)
    (hs : PySem.W.findIn X.K (.ref C) "__eq__" = some (some (.ref f))) (hf : PySem.W.isFn X.K (.ref f) = true) (hb : Binds X.K fd ps []) (hx : Passes CX X E) : OpR X (compareOp .Eq) (rEqOwn X.K C sp E) := by
  intro pins s σ H x y u v Q I rx ry h
  obtain ⟨a, b, dx, fs, rfl, rfl, ha, hy, hsp⟩ := h
  cases rx
  cases ry
  show wpAny (model X.prog X.w) X.A (richCompare .Eq (.ref a) (.ref b)) (EP X pins σ Q) X.xe s
  obtain ⟨mA, J, _⟩ := ins_get I.hok ha
  obtain ⟨od, J, _⟩ := J.look
  obtain ⟨m, hF⟩ := I.fr
  have go : ∀ tb, PySem.W.Looks (model X.prog X.w) s.heap (typeOf (.ref b)) tb → PySem.W.notFirst X.K C tb = true → wpAny (model X.prog X.w) X.A (richCompare .Eq (.ref a) (.ref b)) (EP X pins σ Q) X.xe s := by
    intro tb hlook hnot
    refine PySem.W.cmp_K (op := .Eq) (tb := tb) hr.units0 hF I.ok.mod.kin J hlook hnot hs hf ?_
    have hl := F.len _ _ _ _ hsp
    have r2 : Vals [V.ref a, V.ref b] [Value.ref a, Value.ref b] := .cons rfl (.cons rfl .nil)
    refine wpAny_call (codeAny_mono (F.run X.A X.stack s H ⟨[.ref a, .ref b], []⟩ [.ref a, .ref b] [.ref a, .ref b] _ E hr I.env0 (by
      have := hb s [.ref a, .ref b] I.kIn (by simpa using hl)
      simpa using this) r2 hsp) fun r s' hq => ?_)
    cases r with
    | error e => exact hx pins σ H s e s' I hq
    | ok fl =>
      cases fl with
      | ret w =>
        obtain ⟨z, H', I', rz, c, ez, q⟩ := I.after hq
        subst ez
        cases rz
        exact ⟨.bl c, H', I', rfl, q⟩
      | next => exact False.elim hq
      | brk => exact False.elim hq
      | cont => exact False.elim hq
  rcases hy with ⟨dy, gs, hb'⟩ | ⟨⟨ys, hb'⟩, hnot⟩
  · obtain ⟨mB, J', _⟩ := ins_get I.hok hb'
    obtain ⟨od', J', _⟩ := J'.look
    exact go _ J'.type (by simp [PySem.W.notFirst])
  · obtain ⟨_, _, _, o, h1, h2, _⟩ := (show ObjOk X.prog X.w H s.heap b (.tup ys) from I.hok b _ hb')
    refine go _ ?_ hnot
    have L : PySem.W.Looks (model X.prog X.w) s.heap (typeOf (.ref b)) o.cls := (PySem.W.Looks.ld h1).andThen .now
    rw [h2] at L
    exact L
end K18

set_option linter.all false
set_option Elab.async false
set_option maxRecDepth 100000
set_option maxHeartbeats 4000000
namespace K18
open PySem PySem.Spec PyProof.Rows L2 SH
/-! ### dict(zip(a list, a tuple)) -/
section
variable {prog : Program} {w : World} {A : Around} {E : Value → Shared → Prop} {s : Shared} {z TI TO T i1 i2 : Addr} {f : Bool} {oT : Obj} {fp1 fp2 : List Addr} {n1 n2 k : Nat} {P1 P2 : Nat → Value → Prop} {St1 St2 : Nat → Heap → Prop}
theorem drw_stay {it b : Addr} {fp : List Addr} {n i : Nat} {P : Nat → Value → Prop} {St : Nat → Heap → Prop} {h h' : Heap} (D : Draws prog w A it fp n P St) (st : St i h) (x : Heap.SameBut b h h') (hb : b ∉ fp) : St i h' :=
  D.frame _ _ _ st fun c hc o e => x.extBut c o (fun q => hb (q ▸ hc)) e
/-- next of a zip whose last tuple is held elsewhere: a new tuple -/
theorem zipheld_item (S : ZipSep2 z TI TO i1 i2 fp1 fp2) (D1 : Draws prog w A i1 fp1 n1 P1 St1) (D2 : Draws prog w A i2 fp2 n2 P2 St2) (h12 : i2 ∉ fp1) {Q : Value → Shared → Prop}
    (hz : IsZipHeld s.heap z TI TO T f) (hT : s.heap.get? T = some oT) (hTI : IsTupOf2 s.heap TI (.ref i1) (.ref i2)) (h1 : St1 k s.heap) (h2 : St2 k s.heap) (hk1 : k < n1) (hk2 : k < n2)
    (hQ : ∀ x y h' tk, P1 k x → P2 k y → IsZipHeld h' z TI TO T true → St1 (k + 1) h' → St2 (k + 1) h' → IsTupOf2 h' s.heap.objs.size x y → (∀ c o, c ≠ z → c ≠ i1 → c ≠ i2 → s.heap.get? c = some o → h'.get? c = some o) → Q (.ref s.heap.objs.size) { s with heap := h', toks := tk }) :
    wpAny (model prog w) A (Builtin.«zip.__next__» ⟨[.ref z], []⟩) (fun fin s' => ∃ v, fin = .done (.ret v) ∧ Q v s') E s := by
  have zi1 : z ≠ i1 := fun e => S.zf1 (e ▸ S.mem1)
  have zi2 : z ≠ i2 := fun e => S.zf2 (e ▸ S.mem2)
  show wpAny _ _ (field (.ref z) 2 >>= fun _ => _) _ _ _
  refine wpAny_bind (wpAny_field hz rfl (x := .bool false) rfl ?_)
  show wpAny _ _ (field (.ref z) 3 >>= fun _ => _) _ _ _
  refine wpAny_bind (wpAny_field hz rfl (x := .ref TI) rfl (wpAny_bind (wpAny_seqItems hTI rfl ?_)))
  show wpAny _ _ (Builtin.SmallTypes.ownedTupleIsFree (.ref z) >>= fun _ => _) _ _ _
  refine wpAny_bind (wpAny_tupleHeld_zip hz hT fun ha za sa => ?_)
  simp only [Bool.false_eq_true, if_false]
  refine wpAny_bind ?_
  rw [← Array.forIn_toList]
  simp only [List.forIn_cons, List.forIn_nil]
  refine wpAny_bind (wpAny_bind (wpAny_holding ?_))
  show wpAny _ _ (Builtin.SmallTypes.nextOf (.ref i1) >>= fun _ => _) _ _ _
  refine wpAny_bind (D1.item k { s with heap := ha } _ _ hk1 (drw_stay D1 h1 sa S.zf1) fun x hb tb px h1b sb => wpAny_pure (wpAny_pure ?_))
  refine wpAny_bind (wpAny_bind (wpAny_holding ?_))
  show wpAny _ _ (Builtin.SmallTypes.nextOf (.ref i2) >>= fun _ => _) _ _ _
  refine wpAny_bind (D2.item k { s with heap := hb, toks := tb } _ _ hk2 (drw_stay D2 (drw_stay D2 h2 sa S.zf2) sb S.sep1_2) fun y hc tc py h2c sc => wpAny_pure (wpAny_pure (wpAny_pure ?_)))
  show wpAny _ _ (newTuple [x, y] >>= fun _ => _) _ _ _
  refine wpAny_bind (wpAny_newTuple ?_)
  have size3 : hc.objs.size = s.heap.objs.size := (sc.1.trans sb.1).trans sa.1
  have zc : IsZipHeld hc z TI TO T true := sc.extBut _ _ zi2 (sb.extBut _ _ zi1 za)
  have h1c := drw_stay D1 h1b sc h12
  refine wpAny_pure ⟨_, rfl, ?_⟩
  show Q (.ref hc.objs.size) _
  have pr : IsTupOf2 (hc.push { cls := .type "tuple", data := .seq #[x, y] }) hc.objs.size x y := Heap.get?_push_size _ rfl
  rw [size3] at pr ⊢
  exact hQ x y _ _ px py (Heap.get?_push_of_some _ zc) (D1.frame _ _ _ h1c fun _ _ _ e => Heap.get?_push_of_some _ e) (D2.frame _ _ _ h2c fun _ _ _ e => Heap.get?_push_of_some _ e) pr
    fun c o c1 c2 c3 e => Heap.get?_push_of_some _ (sc.extBut _ _ c3 (sb.extBut _ _ c2 (sa.extBut _ _ c1 e)))
/-- .. at its end, the two of one length -/
theorem zipheld_end (S : ZipSep2 z TI TO i1 i2 fp1 fp2) (D1 : Draws prog w A i1 fp1 n1 P1 St1) {Q : Fin → Shared → Prop}
    (hz : IsZipHeld s.heap z TI TO T f) (hT : s.heap.get? T = some oT) (hTI : IsTupOf2 s.heap TI (.ref i1) (.ref i2)) (h1 : St1 n1 s.heap)
    (hE : ∀ h' e, (∀ c o, c ≠ z → c ≠ i1 → c ≠ i2 → s.heap.get? c = some o → h'.get? c = some o) → (∃ o, h'.get? e = some o ∧ o.cls = .type "StopIteration") → E (.ref e) { s with heap := h' }) :
    wpAny (model prog w) A (Builtin.«zip.__next__» ⟨[.ref z], []⟩) Q E s := by
  show wpAny _ _ (field (.ref z) 2 >>= fun _ => _) _ _ _
  refine wpAny_bind (wpAny_field hz rfl (x := .bool false) rfl ?_)
  show wpAny _ _ (field (.ref z) 3 >>= fun _ => _) _ _ _
  refine wpAny_bind (wpAny_field hz rfl (x := .ref TI) rfl (wpAny_bind (wpAny_seqItems hTI rfl ?_)))
  show wpAny _ _ (Builtin.SmallTypes.ownedTupleIsFree (.ref z) >>= fun _ => _) _ _ _
  refine wpAny_bind (wpAny_tupleHeld_zip hz hT fun ha za sa => ?_)
  simp only [Bool.false_eq_true, if_false]
  refine wpAny_bind ?_
  rw [← Array.forIn_toList]
  simp only [List.forIn_cons, List.forIn_nil]
  refine wpAny_bind (wpAny_bind (wpAny_holding ?_))
  show wpAny _ _ (Builtin.SmallTypes.nextOf (.ref i1) >>= fun _ => _) _ _ _
  exact wpAny_bind (D1.done { s with heap := ha } _ _ (drw_stay D1 h1 sa S.zf1) fun hb e xb he => hE hb e (fun c o c1 c2 _ q => xb _ _ c2 (sa.extBut _ _ c1 q)) he)
theorem zipheld_next (S : ZipSep2 z TI TO i1 i2 fp1 fp2) (D1 : Draws prog w A.in1 i1 fp1 n1 P1 St1) (D2 : Draws prog w A.in1 i2 fp2 n2 P2 St2) {Q : Option Value → Shared → Prop}
    (hz : IsZipHeld s.heap z TI TO T f) (hT : s.heap.get? T = some oT) (hTI : IsTupOf2 s.heap TI (.ref i1) (.ref i2)) (h1 : St1 k s.heap) (h2 : St2 k s.heap) (hk1 : k < n1) (hk2 : k < n2)
    (hQ : ∀ x y h' tk, P1 k x → P2 k y → IsZipHeld h' z TI TO T true → St1 (k + 1) h' → St2 (k + 1) h' → IsTupOf2 h' s.heap.objs.size x y → (∀ c o, c ≠ z → c ≠ i1 → c ≠ i2 → s.heap.get? c = some o → h'.get? c = some o) → Q (some (.ref s.heap.objs.size)) { s with heap := h', toks := tk }) :
    wpAny (model prog w) A (pyNext (.ref z)) Q E s := by
  have ty : s.TypeIs (.ref z) "zip" := ⟨_, hz, rfl⟩
  unfold pyNext
  exact wpAny_bind (wpAny_attempt (wpAny_callSpecial?_slot (name := Str.ofString "__next__") ty F.slot_zip_next (wpAny_call_entry F.slot_zip_next ty F.entry_zip_next
    (zipheld_item S D1 D2 S.sep2_1 hz hT hTI h1 h2 hk1 hk2 fun x y h' tk a b c d e g k => wpAny_pure (hQ x y h' tk a b c d e g k)) (F.args_zip_next_1 _))))
theorem zipheld_stop (S : ZipSep2 z TI TO i1 i2 fp1 fp2) (D1 : Draws prog w A.in1 i1 fp1 n1 P1 St1) {Q : Option Value → Shared → Prop}
    (hz : IsZipHeld s.heap z TI TO T f) (hT : s.heap.get? T = some oT) (hTI : IsTupOf2 s.heap TI (.ref i1) (.ref i2)) (h1 : St1 n1 s.heap)
    (hQ : ∀ h', (∀ c o, c ≠ z → c ≠ i1 → c ≠ i2 → s.heap.get? c = some o → h'.get? c = some o) → Q none { s with heap := h' }) : wpAny (model prog w) A (pyNext (.ref z)) Q E s := by
  have ty : s.TypeIs (.ref z) "zip" := ⟨_, hz, rfl⟩
  unfold pyNext
  refine wpAny_bind (wpAny_attempt (wpAny_callSpecial?_slot (name := Str.ofString "__next__") ty F.slot_zip_next (wpAny_call_entry F.slot_zip_next ty F.entry_zip_next
    (zipheld_end S D1 hz hT hTI h1 fun h' e kp he => ?_) (F.args_zip_next_1 _))))
  obtain ⟨o, ho, hc⟩ := he
  exact wpAny_bind (wpAny_isInstance (T := "StopIteration") (b := true) ⟨o, ho, hc⟩ isSubtype_stop (wpAny_pure (hQ _ kp)))
end
section
variable {prog : Program} {w : World}
/-- zip of a list and a tuple of one length, as dict()'s argument -/
theorem pairArg_lt (z TI TO i1 i2 l t : Addr) (S : ZipSep2 z TI TO i1 i2 [i1, l] [i2, t]) (hl : l ≠ i1) (ht : t ≠ i2) (xs ys : Array Value) (hxy : xs.size = ys.size) :
    PairArg prog w "zip" z [z, TI, TO, i1, i2, l, t] [z, TO, i1, i2] xs.size (fun i a b => xs[i]? = some a ∧ ys[i]? = some b)
      (fun h => IsZip h z TI TO .none ∧ IsTupOf2 h TI (.ref i1) (.ref i2) ∧ (∃ a b, IsTupOf2 h TO a b) ∧ (h.IsListIter i1 l 0 ∧ h.IsList l xs) ∧ h.IsTupleIter i2 t 0 ∧ h.IsTuple t ys) where
  type := fun s ok => ⟨_, ok.1, rfl⟩
  notDict := by decide
  keep := fun h h' ⟨q1, q2, ⟨a, b, q3⟩, ⟨q4, q5⟩, q6, q7⟩ hk =>
    ⟨hk _ _ q1, hk _ _ q2, ⟨a, b, hk _ _ q3⟩, ⟨q4.at fun o e => hk _ o e, q5.at fun o e => hk _ o e⟩, q6.at fun o e => hk _ o e, q7.at fun o e => hk _ o e⟩
  there := fun h ⟨q1, q2, ⟨a, c, q3⟩, ⟨⟨o4, q4, _⟩, ⟨o5, q5, _⟩⟩, ⟨o6, q6, _⟩, ⟨o7, q7, _⟩⟩ b hb => by
    have hb' : b = z ∨ b = TI ∨ b = TO ∨ b = i1 ∨ b = i2 ∨ b = l ∨ b = t := by simpa using hb
    rcases hb' with e | e | e | e | e | e | e <;> rw [e]
    · exact ⟨_, q1⟩
    · exact ⟨_, q2⟩
    · exact ⟨_, q3⟩
    · exact ⟨_, q4⟩
    · exact ⟨_, q6⟩
    · exact ⟨_, q5⟩
    · exact ⟨_, q7⟩
  sub := fun b hb => by
    have hb' : b = z ∨ b = TO ∨ b = i1 ∨ b = i2 := by simpa using hb
    rcases hb' with e | e | e | e <;> simp [e]
  noKeys := fun A s Q E hA ok h => getAttrOr_miss_zip ok.1 rfl rfl rfl zip_no_keys (by decide +kernel) hA h
  iter := fun A s d Q E hA ok hd hdf h => by
    obtain ⟨q1, q2, ⟨a, b, q3⟩, q4, q6⟩ := ok
    have hdn : ¬ (d = z ∨ d = TI ∨ d = TO ∨ d = i1 ∨ d = i2 ∨ d = l ∨ d = t) := by simpa using hdf
    simp only [not_or] at hdn
    obtain ⟨nz, nTI, nTO, ni1, ni2, nl, nt⟩ := hdn
    have D1 := Draws.list (prog := prog) (w := w) (A := A.in1) hA i1 l hl xs
    have D2 := Draws.tuple (prog := prog) (w := w) (A := A.in1) hA i2 t ht ys
    refine wpAny_pyIter_zip q1 (h z [z, TO, i1, i2] (fun i h => IsTupOf2 h TI (.ref i1) (.ref i2) ∧ (h.IsListIter i1 l i ∧ h.IsList l xs) ∧ (h.IsTupleIter i2 t i ∧ h.IsTuple t ys) ∧
      ((IsZip h z TI TO .none ∧ ∃ a b, IsTupOf2 h TO a b) ∨ ∃ T f oT, IsZipHeld h z TI TO T f ∧ h.get? T = some oT ∧ T ≠ z ∧ T ≠ i1 ∧ T ≠ i2 ∧ T ≠ d)) s.heap s.toks ?_
      ⟨q2, q4, q6, .inl ⟨q1, a, b, q3⟩⟩ (fun _ _ e => e) fun b hb => .inl hb)
    refine { off := fun hm => ?_, frame := fun i h₁ h₂ st hk => ?_, item := fun i s₁ Q₁ E₁ hi st hds hQ => ?_, done := fun s₁ Q₁ E₁ st hQ => ?_ }
    · have hm' : d = z ∨ d = TO ∨ d = i1 ∨ d = i2 := by simpa using hm
      rcases hm' with e | e | e | e
      · exact nz e
      · exact nTO e
      · exact ni1 e
      · exact ni2 e
    · obtain ⟨p2, p4, p6, pz⟩ := st
      have in1 : ∀ b ∈ [i1, l], ∀ o, h₁.get? b = some o → h₂.get? b = some o := fun b hb o e => hk b o (by
        have hb' : b = i1 ∨ b = l := by simpa using hb
        rcases hb' with e | e <;> rw [e]
        · exact Ne.symm ni1
        · exact Ne.symm nl) e
      have in2 : ∀ b ∈ [i2, t], ∀ o, h₁.get? b = some o → h₂.get? b = some o := fun b hb o e => hk b o (by
        have hb' : b = i2 ∨ b = t := by simpa using hb
        rcases hb' with e | e <;> rw [e]
        · exact Ne.symm ni2
        · exact Ne.symm nt) e
      refine ⟨hk _ _ (Ne.symm nTI) p2, D1.frame _ _ _ p4 in1, D2.frame _ _ _ p6 in2, ?_⟩
      rcases pz with ⟨pz, a, b, pT⟩ | ⟨T, f, oT, pz, pT, r1, r2, r3, r4⟩
      · exact .inl ⟨hk _ _ (Ne.symm nz) pz, a, b, hk _ _ (Ne.symm nTO) pT⟩
      · exact .inr ⟨T, f, oT, hk _ _ (Ne.symm nz) pz, hk _ _ r4 pT, r1, r2, r3, r4⟩
    · obtain ⟨p2, p4, p6, pz⟩ := st
      have hi2 : i < ys.size := by omega
      have new : ∀ {c o}, s₁.heap.get? c = some o → s₁.heap.objs.size ≠ c := fun e => Nat.ne_of_gt (Heap.lt_size e)
      have m1 : s₁.heap.objs.size ≠ i1 := let ⟨_, e⟩ := D1.live _ _ p4; new e
      have m2 : s₁.heap.objs.size ≠ i2 := let ⟨_, e⟩ := D2.live _ _ p6; new e
      rcases pz with ⟨pz, a, b, pT⟩ | ⟨T, f, oT, pz, pT, r1, r2, r3, r4⟩
      · refine wpAny_pyNext_zipD2_item S D1 D2 pz p2 pT p4 p6 hi hi2 fun x y h' tk ex ey c1 c2 c3 c4 c5 _ kp => ?_
        exact hQ s₁.heap.objs.size x y h' tk ⟨ex, ey⟩ (.inl ⟨_, c5, rfl, _, rfl⟩) ⟨kp _ _ S.TIz S.TITO S.TIi1 S.TIi2 p2, c3, c4, .inr ⟨s₁.heap.objs.size, false, _, c1, c5, new pz, m1, m2, Nat.ne_of_gt hds⟩⟩
          fun c o hc e => kp c o (fun q => hc (by simp [q])) (fun q => hc (by simp [q])) (fun q => hc (by simp [q])) (fun q => hc (by simp [q])) e
      · refine zipheld_next S D1 D2 pz pT p2 p4 p6 hi hi2 fun x y h' tk ex ey c1 c3 c4 c5 kp => ?_
        exact hQ s₁.heap.objs.size x y h' tk ⟨ex, ey⟩ (.inl ⟨_, c5, rfl, _, rfl⟩) ⟨kp _ _ S.TIz S.TIi1 S.TIi2 p2, c3, c4, .inr ⟨T, true, oT, c1, kp _ _ r1 r2 r3 pT, r1, r2, r3, r4⟩⟩
          fun c o hc e => kp c o (fun q => hc (by simp [q])) (fun q => hc (by simp [q])) (fun q => hc (by simp [q])) e
    · obtain ⟨p2, p4, p6, pz⟩ := st
      rcases pz with ⟨pz, a, b, pT⟩ | ⟨T, f, oT, pz, pT, r1, r2, r3, r4⟩
      · exact wpAny_pyNext_zipD2_end S D1 D2 pz p2 pT p4 p6 (Nat.le_refl _) (by omega) (.inl rfl) fun h' tk kp => hQ h' tk fun c o hc e =>
          kp c o (fun q => hc (by simp [q])) (fun q => hc (by simp [q])) (fun q => hc (by simp [q])) (fun q => hc (by simp [q])) e
      · exact zipheld_stop S D1 pz pT p2 p4 fun h' kp => hQ h' s₁.toks fun c o hc e => kp c o (fun q => hc (by simp [q])) (fun q => hc (by simp [q])) (fun q => hc (by simp [q])) e
end
/-- the pairs stored one behind the other, the keys all unlike -/
theorem storedAll_nodup {κ : Type} [DecidableEq κ] : ∀ (ps xs : List (κ × Addr × Value)), ((xs ++ ps).map (·.1)).Nodup → storedAllH xs ps = xs ++ ps
  | [], xs, _ => by rw [List.append_nil]; rfl
  | p :: ps, xs, nd => by
    have hn : atKey xs p.1 = none := by
      unfold atKey
      rw [Option.map_eq_none_iff, List.find?_eq_none]
      intro x hx
      have nd' : (xs.map (·.1) ++ p.1 :: ps.map (·.1)).Nodup := by simpa using nd
      have := (List.nodup_append.mp nd').2.2 x.1 (List.mem_map.mpr ⟨x, hx, rfl⟩) p.1 (List.mem_cons_self ..)
      simpa using this
    show storedAllH (storedH xs p.1 p.2.1 p.2.2) ps = _
    rw [storedH_new hn, storedAll_nodup ps (xs ++ [(p.1, p.2.1, p.2.2)]) (by simpa using nd)]
    simp
/-- the pairs of a zip with their keys -/
theorem zip_keys {H1 : Hp} : ∀ {bs : List V} {L : List S} {its : List Value} {ts : List V} {its2 : List Value}, Tps H1 bs L → Vals bs its → Vals ts its2 → L.length = ts.length →
    ∃ ps : List (List Key × Addr × Value), ps.length = L.length ∧ ps.map (·.1) = L.map kk ∧ (∀ (i : Nat) (u v : Value), its[i]? = some u → its2[i]? = some v → ∃ (k : List Key) (b : Addr), ps[i]? = some (k, b, v) ∧ u = .ref b) ∧
      KT H1 ((L.zip ts).map fun p => (kk p.1, p.2)) ps
  | _, _, _, _, _, .nil, .nil, _, _ => ⟨[], rfl, rfl, fun i u v e => by simp at e, by simpa using Paired.nil⟩
  | _, _, _, _, _, .cons _ _, .cons _ _, .nil, h => by cases h
  | _, _, _, _, _, (.cons (b := sx) hv hvs), (.cons (b := u) ru rus), (.cons (b := u2) ru2 rus2), h => by
    obtain ⟨ps, e1, e2, e3, e4⟩ := zip_keys hvs rus rus2 (by simpa using h)
    obtain ⟨b, rfl, eb⟩ := hv
    obtain rfl : u = Value.ref b := ru
    refine ⟨(kk sx, b, u2) :: ps, by rw [List.length_cons, List.length_cons, e1], by rw [List.map_cons, List.map_cons, e2], fun i w v hw hv => ?_, .cons ⟨rfl, by rw [kk_V]; exact eb, ru2⟩ e4⟩
    cases i with
    | zero =>
      simp at hw hv
      subst hw hv
      exact ⟨_, _, rfl, rfl⟩
    | succ i =>
      simp at hw hv
      simpa using e3 i w v hw hv
/-- dict(zip(a, b)): a a list of simplices, all unlike, b a tuple of as many values -/
def tDictZip (K : PySem.W.Frag) (ta : TA) : TE := fun σ H Q => ta σ H fun vs H1 => ∃ (l t : Addr) (bs : List V) (L : List S) (ts : List V), vs = [.ref l, .ref t] ∧ H1 l = some (.lst bs) ∧ Tps H1 bs L ∧ L.Nodup ∧ H1 t = some (.tup ts) ∧ L.length = ts.length ∧
  ∀ p, H1 p = none → Q (.ref p) (upd H1 p (dI (L.zip ts)))
theorem pe_dictZip {X : Cx} {n : Nat} {a b : Expr} {ta : TA} {p p2 q pos : Pos} (hc : X.calm = true) (hr : Room n X.A) (hg : Gl X "dict") (hm : X.mg "dict" = none) (hg2 : Gl X "zip") (hm2 : X.mg "zip" = none) (ha : PA X [a, b] ta)
    (hs : starEach [a, b] X.env = (false, eval a X.env) :: starEach [b] X.env := by rfl) (hpl : (backTo q (starEach [b] X.env)).any (·.1) = false := by rfl) :
    PE X (.Call (.Name "dict" p) [.Call (.Name "zip" p2) [a, b] [] q] [] pos) (tDictZip X.K ta) := by
  refine ⟨fun pins s σ H Q I h => ?_⟩
  refine Call_ (ld_blt (u := .type "dict") I hg hm (by decide +kernel) ?_)
  refine PyProof.Rows.callWith_type1 (PyProof.Rows.args_cons ?_ rfl) rfl rfl
  refine Call_ (ld_blt I hg2 hm2 PyProof.Rows.boot_zip (PyProof.Rows.callWith_type1 (thn (ha.run q pins s σ H _ I h) fun us s1 ⟨vs, H1, I1, r1, q1⟩ => ?_) hs hpl))
  obtain ⟨l, t, bs, L, ts, rfl, hl, hb, hL, ht, hlen, fin⟩ := q1
  cases r1 with
  | cons ra rr =>
    cases rr with
    | cons rb rr =>
      cases rr
      cases ra
      cases rb
      obtain ⟨its, rv, pl, hz⟩ := I1.list (SqL.of hl)
      obtain ⟨its2, rv2, pt, hz2⟩ := I1.tuple (SqT.of ht)
      have sz1 : its.toArray.size = L.length := by rw [List.size_toArray, ← rv.length, pd_len hb]
      have sz2 : its.toArray.size = its2.toArray.size := by rw [sz1, List.size_toArray, ← rv2.length, hlen]
      have ll : l < s1.heap.objs.size := I1.hok.lt hl
      have lt : t < s1.heap.objs.size := I1.hok.lt ht
      refine zip_begins2 (begins_list l its.toArray) (begins_tuple t its2.toArray) pl.isList pt fun h' z1 z2 z3 z4 z5 z6 kp => ?_
      refine PyProof.Rows.args_nil ?_
      have I2 : Inv X pins σ H1 { s1 with heap := h' } := I1.kept (t' := s1.toks) kp
      have S := zip_sep2 (N := s1.heap.objs.size) (fp1 := [l]) (fp2 := [t]) (fun b hb => by simp at hb; rw [hb]; exact ll) (fun b hb => by simp at hb; rw [hb]; exact lt)
      have P := pairArg_lt (prog := X.prog) (w := X.w) _ _ _ _ _ l t S (Nat.ne_of_lt ll) (Nat.ne_of_lt (Nat.lt_succ_of_lt lt)) its.toArray its2.toArray sz2
      obtain ⟨ps, e1, e2, e3, e4⟩ := zip_keys hb rv rv2 hlen
      have hKs : KeysStay (tupleKind (mixKind X.prog X.w)) h' h'.objs.size [s1.heap.objs.size + 4, s1.heap.objs.size + 3, s1.heap.objs.size, s1.heap.objs.size + 1] ps := by
        intro h2 kk2 x hx
        obtain ⟨pr, hpr, f1, f2, f3⟩ := pd_mem' e4 hx
        obtain ⟨_, us, r, o, g1, g2, n, g3⟩ := I1.hok _ _ f2
        have lt2 : x.2.1 < s1.heap.objs.size := I1.hok.lt f2
        have g1' : h2.get? x.2.1 = some o := kk2 _ _ (by rw [z6]; exact Nat.ne_of_lt (Nat.lt_of_lt_of_le lt2 (Nat.le_add_right _ _))) (fun m => by
          have m' : x.2.1 = s1.heap.objs.size + 4 ∨ x.2.1 = s1.heap.objs.size + 3 ∨ x.2.1 = s1.heap.objs.size ∨ x.2.1 = s1.heap.objs.size + 1 := by simpa using m
          have : (x.2.1 : Nat) < s1.heap.objs.size := lt2
          rcases m' with e | e | e | e <;> rw [e] at this
          · exact absurd this (Nat.not_lt.mpr (Nat.le_add_right _ _))
          · exact absurd this (Nat.not_lt.mpr (Nat.le_add_right _ _))
          · exact absurd this (Nat.lt_irrefl _)
          · exact absurd this (Nat.not_lt.mpr (Nat.le_add_right _ _))) (kp _ _ g1)
        refine ⟨o, us.toArray, n, g1', g2, g3, ?_⟩
        rw [← f1]
        simpa using items_are r
      refine call_dict_pairsH (knd := tupleKind (mixKind X.prog X.w)) (ps := ps) P (I1.ok.hd hc) ?_ ⟨z1, z2, ⟨_, _, z3⟩, ⟨⟨_, z4, rfl, rfl⟩, pl.isList.at fun o e => kp _ o e⟩, ⟨_, z5, rfl, rfl⟩, Heap.IsTuple.at (show s1.heap.IsTuple t its2.toArray from pt) fun o e => kp _ o e⟩ ⟨by rw [e1, sz1], fun i key v hrel => ?_⟩ hKs (by rw [sz1]; rw [pd_len hb] at hz; exact hz) fun h2 tk hd hk => ?_
      · have := hr.units
        show X.A.units + 1 + 1 < cLine
        omega
      · exact e3 i key v (by simpa using hrel.1) (by simpa using hrel.2)
      · rw [storedAll_nodup ps [] (by
          rw [List.nil_append, e2]
          exact List.pairwise_map.mpr (hL.imp fun h q => h (kk_inj q))), List.nil_append] at hd
        have big : h'.objs.size = s1.heap.objs.size + 5 := z6
        have hn : H1 h'.objs.size = none := I1.hok.fresh (by rw [big]; exact Nat.le_add_right _ _)
        have kp2 : ∀ b o, s1.heap.get? b = some o → h2.get? b = some o := fun b o e => hk b o (fun m => by
          have m' : b = s1.heap.objs.size + 4 ∨ b = s1.heap.objs.size + 3 ∨ b = s1.heap.objs.size ∨ b = s1.heap.objs.size + 1 := by simpa using m
          have lb : (b : Nat) < s1.heap.objs.size := Heap.lt_size e
          rcases m' with e | e | e | e <;> rw [e] at lb
          · exact absurd lb (Nat.not_lt.mpr (Nat.le_add_right _ _))
          · exact absurd lb (Nat.not_lt.mpr (Nat.le_add_right _ _))
          · exact absurd lb (Nat.lt_irrefl _)
          · exact absurd lb (Nat.not_lt.mpr (Nat.le_add_right _ _))) (kp _ _ e)
        obtain ⟨o, es, ep, d1, d2, d3, d4, d5, d6⟩ := hd
        have new : ObjOk X.prog X.w (upd H1 h'.objs.size (dI (L.zip ts))) h2 h'.objs.size (dI (L.zip ts)) := by
          refine ⟨?_, ?_, ps, KT.keeps e4 fun b ys e => by rw [upd_ne (ne_of_none e hn)]; exact e, o, es, ep, d1, d2, d3, d4, d6⟩
          · rw [List.length_map, List.length_zip, hlen, Nat.min_self, ← hlen, ← pd_len hb]
            exact hz
          · have := I1.big
            rw [big]
            exact beq_eq_false_iff_ne.mpr (Nat.ne_of_gt (Nat.lt_of_lt_of_le this (Nat.le_add_right _ _)))
        exact ⟨.ref h'.objs.size, _, I1.laid (t' := tk) kp2 (by rw [big]; exact Nat.le_add_right _ _) new, rfl, fin _ hn⟩
end K18

set_option linter.all false
set_option Elab.async false
set_option maxRecDepth 100000
set_option maxHeartbeats 4000000
namespace K18
open PySem PySem.Spec PySem.Calls PyProof.Rows L2 SH

/-! ### the text by places -/
def top (i : Nat) : Stmt := PySem.Challenge.pw_shapeholes_k18_whole_stages.main.body.getD i (.Pass ⟨0, 0, 0, 0⟩)
abbrev sBad : Stmt := inClass (top 10) 0

/-! ### an __init__ that says super().__init__(index); self.index = index -/
/-- what the written part holds of it -/
structure SupF (P : Program) (K : PySem.W.Frag) (mg : Str → Option Value) (q : Str) (st : Stmt) (C f : Addr) (fd : FuncData) : Prop where
  ex : ∃ (oc : Value) (od : Option Addr) (kV doc pm : Value) (an : Option Addr) (cda : Addr) (ct : Value) (osl : Array (Option Value)) (cc : Addr) (ccl : Value) (cdd : Option Addr) (vs : Array Value) (ccs : Array (Option Value)) (file : Str) (tf : Tok) (cl : Value) (cld : Option Addr) (csl : Array (Option Value)),
    fd = PySem.W.ksFn "__init__" q (defArgs st) (defBody st) (defScope st) .none kV doc pm an (.ref cda) ct cc ∧ K.lookup f = some ⟨oc, od, .func fd, osl⟩ ∧ PySem.W.codeIn K (.ref cda) q = true ∧
    K.lookup cda = some ⟨ccl, cdd, .fields vs, ccs⟩ ∧ vs[2]? = some (.str file tf) ∧ ((P.main.file : Str) == file) = true ∧ K.lookup cc = some ⟨cl, cld, .cell (some (.ref C)), csl⟩
  al : PySem.W.ks_superIn K C C "__init__" = some (some (.builtin "ValueError.__init__"))
  mr : PySem.W.mroIn K C (.ref C) = some true
  sb : PySem.W.subIn K (.ref C) (.type "ValueError") = some true
  st3 : PySem.W.nsIn K cStatics "thirdparty.any" = some none
  sup : mg "super" = none
  top : (P.main.scope.names.lookup ("super" : Str)).isSome = false

/-- the context of its body -/
def cxSup (CX : CXT) (P : Program) (w : World) (K : PySem.W.Frag) (mg : Str → Option Value) (base : Heap) (q : Str) (sc : Scope) (f : Addr) (cd : Value) (cc : Addr) (A : Around) (outer : List Env) (s : Shared) (H : Hp) (E : XK) : Cx where
  prog := P
  w := w
  K := K
  mg := mg
  base := base
  A := A.deeper (PySem.W.ksEnv q sc s.heap.objs.size f cd cc)
  N := ["self", "index"]
  s_0 := s
  H_0 := H
  env := PySem.W.ksEnv q sc s.heap.objs.size f cd cc
  outer := outer
  stack := PySem.W.ksEnv q sc s.heap.objs.size f cd cc :: outer
  ex := []
  calm := true
  fn := fun _ => false
  pn := []
  xe := fun e s' => wpAny (model P w) (A.deeper (PySem.W.ksEnv q sc s.heap.objs.size f cd cc)) (leaving (PySem.W.ksEnv q sc s.heap.objs.size f cd cc) e) (fun _ s'' => CX outer H s E e s'') (fun e' s'' => CX outer H s E e' s'') s'

/-- the promise -/
def spSup (K : PySem.W.Frag) (C : Addr) : Sp := fun vs H Q _ => ∃ (a : Addr) (i : V), vs = [.ref a, i] ∧ H a = some (exo a C none) ∧
  ∀ d : Addr, H d = none → d ≠ a → Q .non (upd (upd H d (exd d [("index", i)])) a (exo a C (some d)))

section
variable {CX : CXT} {P : Program} {w : World} {K : PySem.W.Frag} {mg : Str → Option Value} {base : Heap} {q : Str} {sc : Scope} {f cc C : Addr} {cd : Value} {A : Around} {outer : List Env} {s : Shared} {H : Hp} {E : XK} {u0 u1 : Value} {v0 v1 : V} {h0 : Heap} {t0 : Nat}
theorem inv_sup {cl : Value} {cld : Option Addr} {csl : Array (Option Value)} {vv : Value} (hk : sc.kind = .function) (hself : sc.names.lookup ("self" : Str) = some .local) (hix : sc.names.lookup ("index" : Str) = some .local)
    (hfree : ∀ y, (sc.names.lookup y = some .cell ∨ sc.names.lookup y = some .free) → y = "__class__") (hd : A.handled = none) (e0 : Env0 P w K mg base A outer s H) (lcc : K.lookup cc = some ⟨cl, cld, .cell (some vv), csl⟩)
    (r0 : RelV v0 u0) (r1 : RelV v1 u1) (hns : h0.Ns s.heap.objs.size (fun x => ([(("self" : Str), u0), ("index", u1)] : List (Str × Value)).reverse.lookup x)) (kk : ∀ b o, s.heap.get? b = some o → h0.get? b = some o) :
    Inv (cxSup CX P w K mg base q sc f cd cc A outer s H E) [] [some v0, some v1] H { s with heap := h0, toks := t0 } := by
  have bcc := e0.mod.kin _ _ lcc
  have hcc := e0.bs _ _ bcc
  have cz : ∀ y c, ([(("__class__" : Str), cc)] : List (Str × Addr)).lookup y = some c → y = "__class__" ∧ c = cc := fun y c e => by
    have m := PySem.mem_of_lookup e
    have m' : (y, c) = (("__class__" : Str), cc) := by simpa using m
    exact ⟨congrArg Prod.fst m', congrArg Prod.snd m'⟩
  have noA : ∀ b : Addr, b ∉ ([] : List Addr) := fun b z => absurd z (by simp)
  refine ⟨⟨e0.mod, hk, rfl, rfl, Nat.le_refl _, fun y z c e1 e2 => ?_, fun y hy => ?_, fun y c z _ => Bool.noConfusion z, fun _ => hd, Around.frames_deeper e0.frames, .inr ⟨rfl, rfl⟩, fun b z => absurd z (noA b), e0.bs, e0.bsz, fun b _ _ => noA b, fun b z => absurd z (noA b), e0.funs, e0.frf⟩,
    rfl, e0.bare, Un.kept kk, ⟨_, hns, fun i y v e1 e2 e3 => ?_⟩, fun y c e => ?_, e0.hok.fresh (Nat.le_refl _), fun y c e => ?_, fun p hp => absurd (show p ∈ ([] : List (Addr × Obj)) from hp) (by simp), e0.hok.kept kk, rfl⟩
  · exact (cz y c e1).1.trans (cz z c e2).1.symm
  · rw [hfree y hy]
    exact ⟨cc, rfl⟩
  · match i, e1, e2 with
    | 0, e1, e2 =>
      cases e1
      cases e2
      exact ⟨u0, r0, .inl ⟨hself, rfl⟩⟩
    | 1, e1, e2 =>
      cases e1
      cases e2
      exact ⟨u1, r1, .inl ⟨hix, rfl⟩⟩
  · obtain ⟨_, rfl⟩ := cz y c e
    exact ⟨_, _, kk _ _ hcc.1, rfl⟩
  · obtain ⟨_, rfl⟩ := cz y c e
    exact hcc.2

/-- the bound ValueError.__init__ is called -/
theorem call_mw {X : Cx} {pins : List (Addr × Obj)} {σ : L2.St} {H : Hp} {a C u : Addr} {us : List Value} {s : Shared} {Q : Value → Shared → Prop} {E : Value → Shared → Prop} (T : OexC X.K C) (I : Inv X pins σ H s) (e : H a = some (exo a C none)) (hu : s.heap.get? u = some (PySem.W.kxs_mw "ValueError.__init__" a)) (hl : us.length ≤ sizeLine)
    (h : ∀ s', Inv X pins σ H s' → Q .none s') : wpAny (model X.prog X.w) X.A (call (.ref u) us) Q E s := by
  obtain ⟨nm, q, N, bs, bm, sn, sub, ab, col, dd, k0, k1, k2, k3, k5, hC, hbm⟩ := T.cls
  obtain ⟨t1, ho⟩ := exo_at I.hok e
  obtain ⟨hp, g, d, t, os⟩ := s
  refine wpAny_call (codeAny_of_tree ?_)
  show wpAny _ X.A.in1 (callAny (.ref u) ⟨us, []⟩) _ _ _
  simp only [callAny]
  refine wpAny_bind (wpAny_load hu ?_)
  simp only [PySem.W.kxs_mw, show (Value.type "method-wrapper" == Value.type "method" || Value.type "method-wrapper" == Value.type "builtin_function_or_method" || Value.type "method-wrapper" == Value.type "method-wrapper") = true by decide, if_true]
  refine PySem.W.KFB.if_so (by decide) ?_
  refine wpAny_bind (PySem.W.check_bound_init F.excBase_ValueError.toExcCallFacts (I.kIn _ _ hC) ho rfl ?_)
  refine wpAny_bind (wpAny_pure (wpAny_pure ⟨plainId_quiet F.excBase_ValueError.init.plain _, codeAny_builtin F.excBase_ValueError.initEntry ?_⟩))
  refine PySem.W.exc_init_tree (cls := .ref C) (t0 := t1) (dv := none) (c2 := .none) (c3 := .none) (b4 := .bool false) ho hl fun h' k hx _ => ?_
  have J := I.write (t' := t) (x := a) (e := a) (o := exo a C none) (by rw [e]; exact True.intro) (.inl rfl) k ⟨_, hx⟩ (exo_ok hx)
  have eu : upd H a (exo a C none) = H := by
    funext b
    by_cases hb : b = a
    · rw [hb, upd_same, e]
    · rw [upd_ne hb]
  rw [eu] at J
  exact h _ J
end

section
variable {P : Program} {w : World} {K : PySem.W.Frag} {mg : Str → Option Value} {base : Heap} {q : Str} {f C : Addr} {fd : FuncData}
theorem ok_sup (S : SupF P K mg q sBad C f fd) (T : OexC K C) (hno : PySem.W.findIn K (.ref C) "index" = some none)
    :
    FnOk P w K mg base (L2.CX P w) 1 f fd ["self", "index"] (spSup K C) := by
  have hk : (defScope sBad).kind = .function := rfl
  have hco : (defScope sBad).isCoroutine = false := rfl
  have hgen : (defScope sBad).isGenerator = false := rfl
  have hn : (defScope sBad).names = ([("self", .local), ("index", .local), ("__class__", .free), ("super", .globalImplicit)] : List (Str × NameKind)) := rfl
  have hargs : ((defArgs sBad).posonlyargs ++ (defArgs sBad).args).head? = some ⟨"self", none, ⟨27, 17, 27, 21⟩⟩ := rfl
  obtain ⟨oc, od, kV, doc, pm, an, cda, ct, osl, cc, ccl, cdd, vs, ccs, file, tf, cl, cld, csl, rfl, lk, hcd, lcd, hvs, hfile, lcc⟩ := S.ex
  obtain ⟨nm, qn, N, bs, bm, sn, sub, ab, col, dd, k0, k1, k2, k3, k5, hC, hbm⟩ := T.cls
  refine ⟨fun vs H Q E h => by obtain ⟨a, i, rfl, _⟩ := h; rfl, fun A outer s H args us vs0 Q E hr e0 hbind r hsp => ?_⟩
  obtain ⟨a, i, rfl, ea, kq⟩ := hsp
  cases r with
  | @cons _ u0 _ _ r0 r =>
    cases r with
    | @cons _ u1 _ _ r1 r =>
      cases r
      obtain rfl : u0 = Value.ref a := r0
      have KX : K.In s.heap := e0.mod.kin.keeps fun b o e => (e0.bs b o e).1
      have lim : s.heap.NoLimit := e0.mod.nolimit.keeps fun b o e => (e0.bs b o e).1
      have dfree : ∀ y : Str, ((defScope sBad).names.lookup y = some .cell ∨ (defScope sBad).names.lookup y = some .free) → y = "__class__" := fun y h => by
        rw [hn] at h
        rcases h with h | h
        · have m := PySem.mem_of_lookup h
          simp at m
        · have m := PySem.mem_of_lookup h
          simpa using m
      have lself : (defScope sBad).names.lookup ("self" : Str) = some .local := by rw [hn]; decide +kernel
      have lix : (defScope sBad).names.lookup ("index" : Str) = some .local := by rw [hn]; decide +kernel
      have lsup : (defScope sBad).names.lookup ("super" : Str) = some .globalImplicit := by rw [hn]; decide +kernel
      have lcls : (defScope sBad).names.lookup ("__class__" : Str) = some .free := by rw [hn]; decide +kernel
      refine ks_codeAny_call_defAt (fd := PySem.W.ksFn "__init__" q (defArgs sBad) (defBody sBad) (defScope sBad) .none kV doc pm an (.ref cda) ct cc) (body := defBody sBad) (binds := [("self", Value.ref a), ("index", u1)]) hr.depth (KX _ _ lk) rfl lim (PySem.W.codeRec_of KX hcd) rfl hbind
        (fun x hx => by
          have hx' : x ∈ (defScope sBad).names := hx
          rw [hn] at hx'
          simp at hx'
          rcases hx' with rfl | rfl | rfl | rfl <;> simp) (fun x hx => by
          have e : x = (("self" : Str), Value.ref a) ∨ x = (("index" : Str), u1) := by simpa using hx
          rcases e with rfl | rfl
          · exact lself
          · exact lix) (fun h0 hns kk => ?_) hco hgen hk
      have I : Inv (cxSup (L2.CX P w) P w K mg base q (defScope sBad) f (.ref cda) cc A outer s H E) [] [some (.ref a), some i] H ⟨h0, s.gens, s.drawn, s.toks + 2, s.os⟩ :=
        inv_sup hk lself lix dfree hr.hd e0 lcc rfl r1 hns kk
      have hsz : s.heap.objs.size < h0.objs.size := by
        obtain ⟨o, es, ep, ho, _⟩ := hns
        exact Heap.lt_size ho
      obtain ⟨X, hX⟩ : ∃ X, X = cxSup (L2.CX P w) P w K mg base q (defScope sBad) f (.ref cda) cc A outer s H E := ⟨_, rfl⟩
      have hex : execs (defBody sBad) (PySem.W.ksEnv q (defScope sBad) s.heap.objs.size f (.ref cda) cc) = execs [.Expr (.Call (.Attribute (.Call (.Name "super" ⟨28, 8, 28, 13⟩) [] [] ⟨28, 8, 28, 15⟩) "__init__" ⟨28, 8, 28, 24⟩) [.Name "index" ⟨28, 25, 28, 30⟩] [] ⟨28, 8, 28, 31⟩) ⟨28, 8, 28, 31⟩, .Assign [.Attribute (.Name "self" ⟨29, 8, 29, 12⟩) "index" ⟨29, 8, 29, 18⟩] (.Name "index" ⟨29, 21, 29, 26⟩) ⟨29, 8, 29, 26⟩] (PySem.W.ksEnv q (defScope sBad) s.heap.objs.size f (.ref cda) cc) := rfl
      show _root_.PySem.wpAt (model P w) (A.deeper (PySem.W.ksEnv q (defScope sBad) s.heap.objs.size f (.ref cda) cc)) (.func (defBody sBad) (PySem.W.ksEnv q (defScope sBad) s.heap.objs.size f (.ref cda) cc)) (execs (defBody sBad) (PySem.W.ksEnv q (defScope sBad) s.heap.objs.size f (.ref cda) cc)) _
        (fun e s' => wpAny (model P w) (A.deeper (PySem.W.ksEnv q (defScope sBad) s.heap.objs.size f (.ref cda) cc)) (leaving (PySem.W.ksEnv q (defScope sBad) s.heap.objs.size f (.ref cda) cc) e) (fun _ s'' => CR (L2.CX P w) outer P w H s Q E (.error e) s'') (fun e' s'' => CR (L2.CX P w) outer P w H s Q E (.error e') s'') s') _
      rw [hex]
      refine ks_wpAt_execs_cons (ks_wpAt_Expr_any (ks_wpAt_MethodCall ?_))
      obtain ⟨mb, b1, b2⟩ := I.mod.blt
      obtain ⟨t1, ho⟩ := exo_at I.hok ea
      refine ks_wpAt_super_base (f := f) (cc := cda) lsup lcls (by decide) rfl (I.kIn _ _ lk) rfl hargs rfl (I.kIn _ _ lcd) rfl hvs hfile S.top ?_
      refine PySem.W.ks_loadName_global hk lsup (Calls.loadGlobal_builtin (I.mod.glob.keeps I.bk) S.sup (b1.keeps I.bk) ((b2 "super" (by decide)).trans (by first | rfl | kernel_rfl)) ⟨rfl, ?_⟩)
      refine wpAny_loadName_free hk lcls rfl ⟨_, I.kIn _ _ lcc, rfl⟩ ?_
      refine wpAny_loadName_local hk lself hns rfl ?_
      refine ks_wpAny_isType_cls (I.kIn _ _ hC) rfl ⟨rfl, ?_⟩
      refine ks_wpAny_call_super (I.kIn _ _ hC) rfl ho rfl (fun c z => by cases z) (PySem.W.looks_mroIn I.kIn S.mr) (fun h' e k => ?_)
      have I2 := I.kept (t' := s.toks + 2) k
      have hcl : PySem.W.clsIn K C = some { name := nm, bases := bs, mro := .ref C :: bm, ns := N, qualname := qn, hasDict := true, slotNames := sn, subclasses := sub, abstract := ab, collection := col, hasDel := false } := by unfold PySem.W.clsIn; rw [hC] <;> rfl
      have hal : PySem.W.alongIn K "__init__" (((Value.ref C :: bm).dropWhile (· != .ref C)).drop 1) = some (some (.builtin "ValueError.__init__")) := by
        have z := S.al
        unfold PySem.W.ks_superIn at z
        rw [hcl] at z
        exact z
      have hlt : a < h0.objs.size := Heap.lt_size ho
      have haC : a ≠ C := fun z => by
        rw [z] at ho
        have y := (I.kIn _ _ hC).symm.trans ho
        cases y
      have tyA : PySem.W.Looks (model P w) h' (typeOf (.ref a)) (.ref C) := (PySem.W.Looks.ld (k _ _ ho)).andThen .now
      refine PySem.W.kxs_getMethod PySem.W.kxs_ValueError e (PySem.W.looks_opaque I2.kIn S.st3) (l₀ := .ref C :: bm) ((PySem.W.looks_clsIn I2.kIn hcl).andThen .now) rfl I2.kIn hal (tyA.andThen (PySem.W.looks_subIn I2.kIn S.sb)) haC (by decide) ?_
      have I3 := I2.kept (t' := s.toks + 2 + 1) (h' := h'.push (PySem.W.kxs_mw "ValueError.__init__" a)) fun b u z => Heap.get?_push_of_some _ z
      refine PySem.W.kxs_callWith (i := "ValueError.__init__") (x := a) rfl ?_
      refine evalArgs_plain ?_
      have hpin : (h'.push (PySem.W.kxs_mw "ValueError.__init__" a)).get? h'.objs.size = some (PySem.W.kxs_mw "ValueError.__init__" a) := Heap.get?_push_size _ rfl
      have I4 : Inv (cxSup (L2.CX P w) P w K mg base q (defScope sBad) f (.ref cda) cc A outer s H E) [(h'.objs.size, PySem.W.kxs_mw "ValueError.__init__" a)] [some (.ref a), some i] H _ :=
        ⟨I3.ok, I3.os, I3.bare, I3.base, I3.loc, I3.cell, I3.free, I3.freeC, fun p hp => by
          have ep : p = (h'.objs.size, PySem.W.kxs_mw "ValueError.__init__" a) := by simpa using (show p ∈ [(h'.objs.size, PySem.W.kxs_mw "ValueError.__init__" a)] from hp)
          subst ep
          exact ⟨hpin, I2.hok.fresh (Nat.le_refl _), Nat.ne_of_gt I2.lt, I2.nofs (Nat.le_refl _), fun v z => by cases z⟩, I3.hok, I3.len⟩
      have hpa : PA (cxSup (L2.CX P w) P w K mg base q (defScope sBad) f (.ref cda) cc A outer s H E) [.Name "index" ⟨28, 25, 28, 30⟩] (tCons (tVar 1) tNil) := pa_cons (pv 1) pa_nil
      refine thn (hpa.run ⟨28, 8, 28, 31⟩ _ _ _ H (fun vs H1 => vs = [i] ∧ H1 = H) I4 ⟨i, rfl, rfl, rfl⟩) fun us s5 ⟨vs5, H5, I5, r5, e5, eH⟩ => ?_
      subst e5
      rw [eH] at I5
      obtain ⟨hu, _⟩ := I5.pin (h'.objs.size, PySem.W.kxs_mw "ValueError.__init__" a) (List.mem_append.mpr (.inr (by simp)))
      refine ⟨hu, ?_⟩
      cases r5 with
      | @cons _ u5 _ _ r5 rr =>
        cases rr
        refine call_mw (X := cxSup (L2.CX P w) P w K mg base q (defScope sBad) f (.ref cda) cc A outer s H E) T I5 ea hu (by show 1 ≤ sizeLine; decide) fun s6 I6 => ?_
        refine wpAt_of_wpAny ?_
        have hps : PSs (cxSup (L2.CX P w) P w K mg base q (defScope sBad) f (.ref cda) cc A outer s H E) [.Assign [.Attribute (.Name "self" ⟨29, 8, 29, 12⟩) "index" ⟨29, 8, 29, 18⟩] (.Name "index" ⟨29, 21, 29, 26⟩) ⟨29, 8, 29, 26⟩] _ :=
          pss_one (ps_ost (X := cxSup (L2.CX P w) P w K mg base q (defScope sBad) f (.ref cda) cc A outer s H E) (pv 0) (pv 1))
        refine wpAny_mono (hps.run _ s6 _ H { nx := fun _ H' => Q .non H', rt := Q } I6 ⟨i, rfl, .ref a, rfl, a, C, rfl, T, hno, .inl ⟨ea, fun dx n ne => kq dx n ne⟩⟩) (fun fl s7 hs => ?_) fun e s7 hs => hs
        cases fl with
        | next =>
          obtain ⟨σ', H', J, q⟩ := hs
          exact ⟨V.non, H', J.os, J.bare, J.base, J.hok, rfl, q⟩
        | ret u =>
          obtain ⟨v, σ', H', J, rv, q⟩ := hs
          exact ⟨v, H', J.os, J.bare, J.base, J.hok, rv, q⟩
        | brk =>
          obtain ⟨_, _, _, q⟩ := hs
          exact False.elim q
        | cont =>
          obtain ⟨_, _, _, q⟩ := hs
          exact False.elim q
end
end K18

set_option linter.all false
set_option Elab.async false
set_option maxRecDepth 100000
set_option maxHeartbeats 4000000
namespace K18
open PySem PySem.Spec PyProof.Rows L2 SH

section
variable {X : Cx} {C : Addr} {bmB : List Value} {B newId initId : String}
/-- X(), an own exception that has no __init__ of its own -/
theorem pmk_own0 {x : Str} {p pos : Pos} (F : ExcBaseFacts B newId initId bmB) (q : PySem.W.excIn X.K C bmB newId = true) (gC : X.mg x = some (.ref C)) (kC : PySem.W.keepIn X.K (.ref C) = true) (r : Raises X (.ref C)) (hg : Gl X x)
    (hdb : (x == ("__debug__" : Str)) = false := by decide) : PMk X (.Call (.Name x p) [] [] pos) (fun _ H Q => Q (.ref C) none H) := by
  intro pins s σ H Q I h
  refine wpAny_Call_Name_kw (ld_glob I hg gC ?_ hdb)
  refine PySem.W.callWith_K0 I.kIn kC ?_
  obtain ⟨bm, N, nm, qn, bs, hdct, sn, sub, ab, col, dd, k0, k1, k2, k3, k5, mN, hC, hN, hni, T⟩ := exc_obj I.kIn q
  exact wpAny_call_exc_subT F T hC hN hni (fun h' e hm => mk_of I hm r h (I.hok.gone hm.new)) (by show 0 ≤ sizeLine; exact Nat.zero_le _)
end

section
variable {X : Cx} {CX : CXT} {k : Nat} {f C : Addr} {fd : FuncData} {ps : List Str} {sp : Sp} {E : L2.St → XK} {x : Str} {p pos : Pos} {e : Expr} {es : List Expr} {t : TA}
/-- C(e, ..) where what its __init__ raises is caught here -/
def tMakeS (C : Addr) (sp : Sp) (E : L2.St → XK) (t : TA) : TE := fun σ H Q => t σ H fun vs H1 => ∀ x dx, H1 x = none → H1 dx = none → dx ≠ x →
  sp (.ref x :: vs) (upd (upd H1 dx (.own x)) x (.ins C dx [])) (fun v H2 => v = .non ∧ Q (.ref x) H2) (E σ)
theorem pe_makeS (M : Mk X.K C f) (F : FnOk X.prog X.w X.K X.mg X.base CX k f fd ps sp) (hr : Room (k + 1) X.A) (hg : Gl X x) (hm : X.mg x = some (.ref C)) (hb : Binds X.K fd ps []) (hx : ∀ σ, PassesAt CX X σ (E σ))
    (ha : PA X (e :: es) t) (hdb : (x == ("__debug__" : Str)) = false := by decide) (he : starEach (e :: es) X.env = (false, eval e X.env) :: starEach es X.env := by rfl) (hpl : (backTo pos (starEach es X.env)).any (·.1) = false := by rfl) :
    PE X (.Call (.Name x p) (e :: es) [] pos) (tMakeS C sp E t) := by
  refine ⟨fun pins s0 σ H0 Q I0 h0 => ?_⟩
  refine wpAny_Call_Name_kw (ld_glob I0 hg hm ?_ hdb)
  refine PySem.W.callWith_K (h₀ := X.base) I0.ok.mod.kin M.kp (thn (ha.run pos pins s0 σ H0 _ I0 h0) fun us s ⟨vs, H, I, r, h⟩ => ⟨I.kIn, ?_⟩) he hpl
  have hq := h (s.heap.objs.size + 1) s.heap.objs.size (I.hok.fresh (Nat.le_succ _)) (I.hok.fresh (Nat.le_refl _)) (Nat.ne_of_lt (Nat.lt_succ_self _))
  have I2 := Inv.made (C := C) I
  have r2 : Vals (V.ref (s.heap.objs.size + 1) :: vs) (Value.ref (s.heap.objs.size + 1) :: us) := .cons rfl r
  have hl : (Value.ref (s.heap.objs.size + 1) :: us).length = ps.length := by
    have e := r2.length
    rw [F.len _ _ _ _ hq] at e
    exact e.symm
  have hbi := hb _ (Value.ref (s.heap.objs.size + 1) :: us) I2.kIn (by rw [List.append_nil]; exact hl)
  rw [List.append_nil] at hbi
  show wpAny _ _ (call (.ref C) us) _ _ _
  refine wpAny_call (make_map (f := f) I.kIn M.makes M.init (beq_iff_eq.mp M.fn) (codeAny_mono (F.run _ X.stack _ _ ⟨Value.ref (s.heap.objs.size + 1) :: us, []⟩ (Value.ref (s.heap.objs.size + 1) :: us) _ _ (E σ) (hr.make C us [])
    (I2.env0.make C us []) hbi r2 hq) fun r s' hq' => ?_))
  cases r with
  | error e => exact hx σ pins _ _ e s' I2 hq'
  | ok fl =>
    cases fl with
    | ret u =>
      obtain ⟨v, H', I3, rv, ev, q3⟩ := I2.after hq'
      subst ev
      exact ⟨rv, ⟨V.ref (s.heap.objs.size + 1), H', I3, rfl, q3⟩⟩
    | next => exact False.elim hq'
    | brk => exact False.elim hq'
    | cont => exact False.elim hq'
end
end K18

set_option linter.all false
set_option Elab.async false
set_option maxRecDepth 100000
set_option maxHeartbeats 4000000
namespace K18
open PySem PySem.Spec PyProof.Rows L2 SH

/-! ### a def as its callers see it -/
structure Df (P : Program) (w : World) (K : PySem.W.Frag) (mg : Str → Option Value) (base : Heap) (CX : CXT) (k : Nat) (x : Str) (ps : List Str) (sp : Sp) : Prop where
  ex : ∃ f fd, FnOk P w K mg base CX k f fd ps sp ∧ mg x = some (.ref f) ∧ PySem.W.keepIn K (.ref f) = true ∧ Binds K fd ps []
/-- .. as the text has it -/
structure Dx (K : PySem.W.Frag) (mg : Str → Option Value) (x : Str) (st : Stmt) (ps : List Str) : Prop where
  ex : ∃ f fd, Fun K x x st f fd ∧ mg x = some (.ref f) ∧ Binds K fd ps []
section
variable {X : Cx} {CX : CXT} {k j : Nat} {x : Str} {ps : List Str} {sp : Sp} {E : XK} {p pos : Pos} {e : Expr} {es : List Expr} {t : TA}
theorem pe_df (D : Df X.prog X.w X.K X.mg X.base CX k x ps sp) (hr : Room j X.A) (hk : k ≤ j) (hg : Gl X x) (hx : Passes CX X E) (ha : PA X (e :: es) t) (hdb : (x == ("__debug__" : Str)) = false := by decide)
    (he : starEach (e :: es) X.env = (false, eval e X.env) :: starEach es X.env := by rfl) (hpl : (backTo pos (starEach es X.env)).any (·.1) = false := by rfl) : PE X (.Call (.Name x p) (e :: es) [] pos) (tCall sp [] E t) := by
  obtain ⟨f, fd, F, hm, kp, b⟩ := D.ex
  exact pe_call F (hr.mono hk) hg hm kp b .nil hx ha hdb he hpl
end
section
variable {P : Program} {w : World} {K : PySem.W.Frag} {mg : Str → Option Value} {base : Heap} {x : Str} {st : Stmt} {N ps : List Str} {k : Nat} {sp : Sp}
theorem Dx.ok (D : Dx K mg x st ps) (S : FnScope N ps (defScope st)) (len : ∀ vs H Q E, sp vs H Q E → vs.length = ps.length)
    (hbody : ∀ (f : Addr) (cdv : Value) (A : Around) (outer : List Env) (s : Shared) (H : Hp) (vs : List V) (Q : VK) (E : XK), Room k (A.deeper (envOfC x (defScope st) s.heap.objs.size f cdv)) → sp vs H Q E →
      ∃ t, PSs (cxOf CX0 P w K mg base N x (defScope st) f cdv A outer s H E).nox (defBody st) t ∧ t { nx := fun _ H' => Q .non H', rt := Q } (start N vs) H) : Df P w K mg base CX0 (k + 1) x ps sp := by
  obtain ⟨f, fd, F, hm, b⟩ := D.ex
  exact ⟨f, fd, F.ok S len (hbody f), hm, F.kp, b⟩
theorem Dx.okX (D : Dx K mg x st ps) (S : FnScope N ps (defScope st)) (len : ∀ vs H Q E, sp vs H Q E → vs.length = ps.length)
    (hbody : ∀ (f : Addr) (cdv : Value) (A : Around) (outer : List Env) (s : Shared) (H : Hp) (vs : List V) (Q : VK) (E : XK), Room k (A.deeper (envOfC x (defScope st) s.heap.objs.size f cdv)) → sp vs H Q E →
      ∃ t, PSs (cxOf (L2.CX P w) P w K mg base N x (defScope st) f cdv A outer s H E) (defBody st) t ∧ t { nx := fun _ H' => Q .non H', rt := Q } (start N vs) H) : Df P w K mg base (L2.CX P w) (k + 1) x ps sp := by
  obtain ⟨f, fd, F, hm, b⟩ := D.ex
  exact ⟨f, fd, F.okX S len (hbody f), hm, F.kp, b⟩
end

/-- the module's facts: the built-ins' names stand free, the numbers -/
structure Bt (mg : Str → Option Value) : Prop where
  isi : mg "isinstance" = none
  int : mg "int" = none
  bool : mg "bool" = none
  tuple : mg "tuple" = none
  list : mg "list" = none
  str : mg "str" = none
  dict : mg "dict" = none
  len : mg "len" = none
  all : mg "all" = none
  zip : mg "zip" = none
  enum : mg "enumerate" = none
  range : mg "range" = none
  sorted : mg "sorted" = none
  max : mg "max" = none
  min : mg "min" = none
  mV : ∃ t, mg "MOST_VERTEX" = some (.int 30 t)
  mL : ∃ t, mg "MOST_LENGTH" = some (.int 8 t)
  mF : ∃ t, mg "MOST_FACES" = some (.int 400 t)
  mT : ∃ t, mg "MOST_TIME" = some (.int 1000 t)

/-! ### is_integer, is_in, is_list -/
/-- a value that the program asks about: i, if it is an int and no bool -/
inductive Ask (K : PySem.W.Frag) (H : Hp) : V → Option Int → Prop where
  | int (i : Int) : Ask K H (.int i) (some i)
  | non : Ask K H .non none
  | bl (b : Bool) : Ask K H (.bl b) none
  | str (z : Str) : Ask K H (.str z) none
  | tup {a : Addr} {xs : List V} (e : H a = some (.tup xs)) : Ask K H (.ref a) none
def spIsInt (K : PySem.W.Frag) : Sp := fun vs H Q _ => ∃ v o, vs = [v] ∧ Ask K H v o ∧ Q (.bl o.isSome) H
def spIsIn (K : PySem.W.Frag) : Sp := fun vs H Q _ => ∃ (v : V) (o : Option Int) (lo hi : Int), vs = [v, .int lo, .int hi] ∧ Ask K H v o ∧ Q (.bl (match o with | some i => decide (lo ≤ i) && decide (i ≤ hi) | none => false)) H
/-- .. n: the length, if it is a tuple -/
inductive AskT (K : PySem.W.Frag) (H : Hp) : V → Option Nat → Prop where
  | tup {a : Addr} {xs : List V} (e : H a = some (.tup xs)) : AskT K H (.ref a) (some xs.length)
  | non : AskT K H .non none
  | int (i : Int) : AskT K H (.int i) none
  | lst {a : Addr} {xs : List V} (e : H a = some (.lst xs)) : AskT K H (.ref a) none
def spIsList (K : PySem.W.Frag) : Sp := fun vs H Q _ => ∃ (v : V) (o : Option Nat) (lo hi : Int), vs = [v, .int lo, .int hi] ∧ AskT K H v o ∧ Q (.bl (match o with | some n => decide (lo ≤ (n : Int)) && decide ((n : Int) ≤ hi) | none => false)) H
section
variable {P : Program} {w : World} {K : PySem.W.Frag} {mg : Str → Option Value} {base : Heap}
theorem sc1 : FnScope ["value"] ["value"] (defScope (top 1)) := ⟨rfl, rfl, rfl, by decide +kernel, rfl, by decide +kernel, by decide +kernel⟩
theorem ok_is_integer (D : Dx K mg "is_integer" (top 1) ["value"]) (B : Bt mg) : Df P w K mg base CX0 1 "is_integer" ["value"] (spIsInt K) := by
  refine D.ok sc1 (fun vs H Q E h => by obtain ⟨v, o, rfl, _⟩ := h; rfl) (fun f cdv A outer s H vs Q E hr h => ?_)
  obtain ⟨v, o, rfl, k, q⟩ := h
  refine ⟨_, pss_one (ps_ret (pe_and (pe_callB call_isi (by rfl) B.isi (by decide +kernel) (pa_cons (pv 0) (pa_cons (pe_bltn (v := .ty "int") (by rfl) B.int (by decide +kernel) rfl) pa_nil)))
    (pe_one (pe_not (pe_callB call_isi (by rfl) B.isi (by decide +kernel) (pa_cons (pv 0) (pa_cons (pe_bltn (v := .ty "bool") (by rfl) B.bool (by decide +kernel) rfl) pa_nil))))))), ?_⟩
  cases k with
  | int i => exact ⟨_, rfl, _, _, _, _, true, rfl, .ty _, .base (.int i), kit_ty (by decide +kernel), true, rfl, iteT ⟨_, rfl, _, _, _, _, false, rfl, .ty _, .base (.int i), kit_ty (by decide +kernel), false, rfl, q⟩⟩
  | non => exact ⟨_, rfl, _, _, _, _, false, rfl, .ty _, .base .non, kit_ty (by decide +kernel), false, rfl, iteF q⟩
  | bl b => exact ⟨_, rfl, _, _, _, _, true, rfl, .ty _, .base (.bl b), kit_ty (by decide +kernel), true, rfl, iteT ⟨_, rfl, _, _, _, _, true, rfl, .ty _, .base (.bl b), kit_ty (by decide +kernel), true, rfl, q⟩⟩
  | str z => exact ⟨_, rfl, _, _, _, _, false, rfl, .ty _, .base (.str z), kit_ty (by decide +kernel), false, rfl, iteF q⟩
  | tup e => exact ⟨_, rfl, _, _, _, _, false, rfl, .ty _, .base (.tup e), kit_ty (by decide +kernel), false, rfl, iteF q⟩
theorem sc2 : FnScope ["value", "least", "most"] ["value", "least", "most"] (defScope (top 2)) := ⟨rfl, rfl, rfl, by decide +kernel, rfl, by decide +kernel, by decide +kernel⟩
theorem ok_is_in (D : Dx K mg "is_in" (top 2) ["value", "least", "most"]) (D1 : Df P w K mg base CX0 1 "is_integer" ["value"] (spIsInt K)) : Df P w K mg base CX0 2 "is_in" ["value", "least", "most"] (spIsIn K) := by
  refine D.ok sc2 (fun vs H Q E h => by obtain ⟨v, o, lo, hi, rfl, _⟩ := h; rfl) (fun f cdv A outer s H vs Q E hr h => ?_)
  obtain ⟨v, o, lo, hi, rfl, k, q⟩ := h
  refine ⟨_, pss_one (ps_ret (pe_and (pe_df D1 hr (by decide) (by rfl) pass0 (pa_cons (pv 0) pa_nil)) (pe_one (pe_chain op_le op_le (pv 1) (pv 0) (pv 2))))), ?_⟩
  refine ⟨_, rfl, v, o, rfl, k, ?_⟩
  cases k with
  | int i =>
    refine ⟨true, rfl, iteT ⟨_, rfl, _, rfl, lo, i, rfl, rfl, _, rfl, ?_⟩⟩
    by_cases h1 : lo ≤ i
    · rw [if_pos (by simpa using h1)]
      refine ⟨_, rfl, i, hi, rfl, rfl, ?_⟩
      simpa [h1] using q
    · rw [if_neg (by simpa using h1)]
      simpa [h1] using q
  | non => exact ⟨false, rfl, iteF q⟩
  | bl b => exact ⟨false, rfl, iteF q⟩
  | str z => exact ⟨false, rfl, iteF q⟩
  | tup e => exact ⟨false, rfl, iteF q⟩
theorem sc3 : FnScope ["value", "least", "most"] ["value", "least", "most"] (defScope (top 3)) := ⟨rfl, rfl, rfl, by decide +kernel, rfl, by decide +kernel, by decide +kernel⟩
theorem ok_is_list (D : Dx K mg "is_list" (top 3) ["value", "least", "most"]) (B : Bt mg) : Df P w K mg base CX0 1 "is_list" ["value", "least", "most"] (spIsList K) := by
  refine D.ok sc3 (fun vs H Q E h => by obtain ⟨v, o, lo, hi, rfl, _⟩ := h; rfl) (fun f cdv A outer s H vs Q E hr h => ?_)
  obtain ⟨v, o, lo, hi, rfl, k, q⟩ := h
  refine ⟨_, pss_one (ps_ret (pe_and (pe_callB call_isi (by rfl) B.isi (by decide +kernel) (pa_cons (pv 0) (pa_cons (pe_bltn (v := .ty "tuple") (by rfl) B.tuple (by decide +kernel) rfl) pa_nil)))
    (pe_one (pe_chain op_le op_le (pv 1) (pe_callB call_len_seq (by rfl) B.len PySem.boot_len (pa_cons (pv 0) pa_nil)) (pv 2))))), ?_⟩
  cases k with
  | @tup a xs e =>
    refine ⟨_, rfl, _, _, _, _, true, rfl, .ty _, .base (.tup e), kit_ty (by decide +kernel), true, rfl, iteT ⟨_, rfl, _, rfl, a, xs, rfl, .inr (SqT.of e), lo, _, rfl, rfl, _, rfl, ?_⟩⟩
    by_cases h1 : lo ≤ (xs.length : Int)
    · rw [if_pos (by simpa using h1)]
      refine ⟨_, rfl, _, hi, rfl, rfl, ?_⟩
      simpa [h1] using q
    · rw [if_neg (by simpa using h1)]
      simpa [h1] using q
  | non => exact ⟨_, rfl, _, _, _, _, false, rfl, .ty _, .base .non, kit_ty (by decide +kernel), false, rfl, iteF q⟩
  | int i => exact ⟨_, rfl, _, _, _, _, false, rfl, .ty _, .base (.int i), kit_ty (by decide +kernel), false, rfl, iteF q⟩
  | lst e => exact ⟨_, rfl, _, _, _, _, false, rfl, .ty _, .base (.lst e), kit_ty (by decide +kernel), false, rfl, iteF q⟩
end
end K18

set_option linter.all false
set_option Elab.async false
set_option maxRecDepth 100000
set_option maxHeartbeats 4000000
namespace K18
open PySem PySem.Spec PyProof.Rows L2 SH

/-- a, b = .. in slots i, j -/
abbrev g2 (K : PySem.W.Frag) (i j : Nat) : TG := gTup K 2 (gCons (gName i) (gCons (gName j) gNil))
theorem g2_at {K : PySem.W.Frag} {i j : Nat} {T : Addr} {x y : V} {σ : L2.St} {H : Hp} {Q : L2.St → Hp → Prop} (h : H T = some (.tup [x, y])) (q : Q ((σ.set i (some x)).set j (some y)) H) : g2 K i j (.ref T) σ H Q :=
  ⟨T, [x, y], rfl, SqT.of h, rfl, x, [y], rfl, y, [], rfl, rfl, q⟩
theorem yes_of {σ : L2.St} {H : Hp} {te : TE} {K1 : VK} {K0 : Hp → Prop} (h : te σ H K1) : tYes σ H (fun b H3 => if b = true then te σ H3 K1 else K0 H3) := h
/-! ### is_ascending, is_simplex -/
def spAsc : Sp := fun vs H Q _ => ∃ (a : Addr) (s : S) (lo hi : Int), vs = [.ref a, .int lo, .int hi] ∧ H a = some (tp s) ∧ lo ≤ (s.length : Int) ∧ (s.length : Int) ≤ hi ∧ s ≠ [] ∧ Simp s ∧ ∀ H', Same H H' → Q (.bl true) H'
def spSimp : Sp := fun vs H Q _ => ∃ (a : Addr) (s : S), vs = [.ref a] ∧ H a = some (tp s) ∧ s ≠ [] ∧ Simp s ∧ ∀ H', Same H H' → Q (.bl true) H'
theorem all_rep (n : Nat) : (List.replicate n true).all id = true := by
  rw [List.all_eq_true]
  intro x hx
  rw [(List.mem_replicate.mp hx).2]
  rfl
theorem cut1 (xs : List V) : cutV xs (some 1) none = xs.drop 1 := by
  unfold cutV
  rw [show (some (1 : Int)) = some ((1 : Nat) : Int) from rfl, HT.sIx_nat, HT.sIx_none]
  by_cases h : 1 ≤ xs.length
  · rw [Nat.min_eq_left h, List.take_of_length_le (by rw [List.length_drop]; omega)]
  · have : xs = [] := List.eq_nil_of_length_eq_zero (by omega)
    subst this
    rfl
theorem cut1_ne (xs : List V) (h : xs ≠ []) : ¬ (HT.sIx xs.length 0 (some 1) = 0 ∧ HT.sIx xs.length xs.length none = xs.length) := by
  rw [show (some (1 : Int)) = some ((1 : Nat) : Int) from rfl, HT.sIx_nat]
  have : 0 < xs.length := List.length_pos_iff.mpr h
  omega
section
variable {P : Program} {w : World} {K : PySem.W.Frag} {mg : Str → Option Value} {base : Heap}
theorem sc16 : FnScope ["value", "least", "most", "vertex", "one", "other"] ["value", "least", "most"] (defScope (top 16)) := ⟨rfl, rfl, rfl, by decide +kernel, rfl, by decide +kernel, by decide +kernel⟩
theorem ok_is_ascending (D : Dx K mg "is_ascending" (top 16) ["value", "least", "most"]) (B : Bt mg) (D2 : Df P w K mg base CX0 2 "is_in" ["value", "least", "most"] (spIsIn K)) (D3 : Df P w K mg base CX0 1 "is_list" ["value", "least", "most"] (spIsList K)) :
    Df P w K mg base CX0 3 "is_ascending" ["value", "least", "most"] spAsc := by
  refine D.ok sc16 (fun vs H Q E h => by obtain ⟨a, s, lo, hi, rfl, _⟩ := h; rfl) (fun f cdv A outer s0 H vs Q E hr h => ?_)
  obtain ⟨a, s, lo, hi, rfl, ea, h1, h2, hne, hs, q⟩ := h
  obtain ⟨tv, mV⟩ := B.mV
  refine ⟨_, pss_cons (ps_if (PW.pt (pw_or (pt_not (pt_val (pe_df D3 hr (by decide) (by rfl) pass0 (pa_cons (pv 0) (pa_cons (pv 1) (pa_cons (pv 2) pa_nil))))))
      (pw_or1 (pt_not (pt_val (pe_callB (cr_all rfl) (by rfl) B.all (by decide +kernel) (pa_cons (pe_lc (own := [("vertex", 3)]) (g := gName 3) (tt := tYes) rfl sc16.nd (pi_tup (pv 0))
        (blkOk_by (N := ["value", "least", "most", "vertex", "one", "other"]) (sc := defScope (top 16)) (by decide +kernel)) (fun _ _ _ _ _ => pg_name (i := 3) sc16.nd rfl (Or.inl rfl)) (fun _ _ _ _ _ => pts_nil)
        (fun _ _ _ _ _ => pe_df D2 hr (by decide) (by rfl) pass0 (pa_cons (pv 3) (pa_cons pe_int (pa_cons (pe_glob (v := .int 30) (by rfl) mV ⟨_, rfl⟩) pa_nil))))) pa_nil))))))) (pss_one (ps_ret pe_bl)) pss_nil)
    (pss_one (ps_ret (pe_callB (cr_all rfl) (by rfl) B.all (by decide +kernel) (pa_cons (pe_lc (own := [("one", 4), ("other", 5)]) (g := g2 K 4 5) (tt := tYes) rfl sc16.nd (RZ.pi_zipA (by rfl) B.zip (pa_cons (pv 0) (pa_cons (pe_slice sl_tupA (pv 0) (po_some pe_int) po_none) pa_nil)))
        (blkOk_by (N := ["value", "least", "most", "vertex", "one", "other"]) (sc := defScope (top 16)) (by decide +kernel)) (fun _ _ _ _ _ => pg_tup rfl (pgs_cons (pg_name (i := 4) sc16.nd rfl (.inl rfl)) (pgs_cons (pg_name (i := 5) sc16.nd rfl (.inl rfl)) pgs_nil))) (fun _ _ _ _ _ => pts_nil)
        (fun _ _ _ _ _ => pe_cmpR op_lt (pv 4) (pv 5) (nomark _))) pa_nil)))), ?_⟩
  have hz : s.length ≤ sizeLine := Nat.le_trans hs.len (by decide)
  have hlv : (s.map V.int).length = s.length := List.length_map ..
  -- is_list(..)
  refine ⟨_, rfl, _, rfl, _, rfl, _, _, lo, hi, rfl, .tup ea, true, ?_, ?_⟩
  · rw [hlv]
    simp [h1, h2]
  refine iteF ?_
  -- all([is_in(vertex, 0, 30) ..])
  refine ⟨_, rfl, a, rfl, ⟨_, SqT.of ea⟩, fun D0 hD0 => ?_⟩
  refine lc_gen walk_tup hD0 (by rw [hlv]; exact hz) [] (by simp) (fun H => H a = some (tp s)) (fun i acc _ => acc = List.replicate i (V.bl true)) (fun H H' k e => k.tups a _ e) (fun _ _ _ _ _ h => h) (fun i acc _ h => by rw [h]; simp) (fun H _ e => SqT.of e) ea rfl
    (fun i x H2 H3 acc hi k j p eD y K1 K0 c1 c0 => ?_) (fun H2 acc k j p eD => ?_)
  · obtain ⟨rfl, hx⟩ := y
    rw [List.getElem?_map] at hx
    obtain ⟨n, hn, rfl⟩ := Option.map_eq_some_iff.mp hx
    have hm := List.mem_of_getElem? hn
    refine ⟨rfl, yes_of ⟨_, rfl, _, some n, 0, 30, rfl, .int n, ?_⟩⟩
    have e30 : (decide ((0 : Int) ≤ n) && decide (n ≤ 30)) = true := by
      have := hs.lo n hm
      have := hs.hi n hm
      simp
      omega
    show K1 (.bl (decide ((0 : Int) ≤ n) && decide (n ≤ 30))) _
    rw [e30]
    exact c1 _ _ (.refl _ _) j (by rw [p, List.replicate_succ'])
  · rw [hlv] at p
    refine ⟨D0, List.replicate s.length true, rfl, SqL.of (by rw [eD, p, List.map_replicate]), true, ?_, ?_⟩
    · rw [all_rep]
    refine iteF ?_
    -- all([one < other ..])
    have ea2 := j
    have npd : ∀ {p : Addr}, H2 p = none → p ≠ a := fun h z => by rw [z, ea2] at h; cases h
    refine ⟨_, rfl, _, rfl, _, rfl, a, _, rfl, SqT.of ea2, fun z => absurd z (cut1_ne _ (by simpa using hne)), fun _ b hb => ?_⟩
    rw [cut1]
    have eb : upd H2 b (.tup ((s.map V.int).drop 1)) b = some (.tup ((s.map V.int).drop 1)) := upd_same
    have ea3 : upd H2 b (.tup ((s.map V.int).drop 1)) a = some (tp s) := by rw [upd_ne (npd hb).symm]; exact ea2
    refine ⟨a, b, s.map V.int, (s.map V.int).drop 1, rfl, .inr ⟨SqT.of ea3, SqT.of eb, fun D1 hD1 => ?_⟩⟩
    refine lc_gen (walk_zipT (n := s.length - 1) (by rw [List.length_drop, hlv]; omega)) hD1 (by omega) [] (by simp) (fun H => H a = some (tp s) ∧ H b = some (.tup ((s.map V.int).drop 1))) (fun i acc _ => acc = List.replicate i (V.bl true)) (fun H H' k e => ⟨k.tups a _ e.1, k.tups b _ e.2⟩) (fun _ _ _ _ _ h => h) (fun i acc _ h => by rw [h]; simp)
      (fun H _ e => ⟨SqT.of e.1, SqT.of e.2⟩) ⟨ea3, eb⟩ rfl (fun i x H4 H5 acc hi k2 j2 p2 eD2 y K1 K0 c1 c0 => ?_) (fun H4 acc k2 j2 p2 eD2 => ?_)
    · obtain ⟨T, u, v, rfl, hT, rfl, hu, hv⟩ := y
      have hu : (s.map V.int)[i]? = some u := hu
      have hv : ((s.map V.int).drop 1)[i]? = some v := hv
      rw [List.getElem?_map] at hu
      obtain ⟨n, hn, rfl⟩ := Option.map_eq_some_iff.mp hu
      rw [List.getElem?_drop, List.getElem?_map] at hv
      obtain ⟨m, hm, rfl⟩ := Option.map_eq_some_iff.mp hv
      have lt : n < m := by
        obtain ⟨l1, e1⟩ := List.getElem?_eq_some_iff.mp hn
        obtain ⟨l2, e2⟩ := List.getElem?_eq_some_iff.mp hm
        have := List.pairwise_iff_getElem.mp hs.asc i (1 + i) l1 l2 (by omega)
        rw [e1, e2] at this
        exact this
      refine g2_at upd_same ⟨rfl, yes_of ⟨_, rfl, _, rfl, n, m, rfl, rfl, ?_⟩⟩
      show K1 (.bl (decide (n < m))) _
      rw [decide_eq_true lt]
      have kt : Kp [] H4 (upd H4 T (.tup [.int n, .int m])) := .new hT
      exact c1 _ _ kt ⟨kt.tups _ _ j2.1, kt.tups _ _ j2.2⟩ (by rw [p2, List.replicate_succ'])
    · refine ⟨D1, List.replicate (s.length - 1) true, rfl, SqL.of (by rw [eD2, p2, List.map_replicate]), ?_⟩
      rw [all_rep]
      refine q _ (Kp.same (.trans (.trans k ?_) k2))
      exact .new hb
theorem sc17 : FnScope ["value"] ["value"] (defScope (top 17)) := ⟨rfl, rfl, rfl, by decide +kernel, rfl, by decide +kernel, by decide +kernel⟩
theorem ok_is_simplex (D : Dx K mg "is_simplex" (top 17) ["value"]) (B : Bt mg) (D2 : Df P w K mg base CX0 3 "is_ascending" ["value", "least", "most"] spAsc) : Df P w K mg base CX0 4 "is_simplex" ["value"] spSimp := by
  refine D.ok sc17 (fun vs H Q E h => by obtain ⟨a, s, rfl, _⟩ := h; rfl) (fun f cdv A outer s0 H vs Q E hr h => ?_)
  obtain ⟨a, s, rfl, ea, hne, hs, q⟩ := h
  obtain ⟨tv, mL⟩ := B.mL
  refine ⟨_, pss_one (ps_ret (pe_df D2 hr (by decide) (by rfl) pass0 (pa_cons (pv 0) (pa_cons pe_int (pa_cons (pe_glob (v := .int 8) (by rfl) mL ⟨_, rfl⟩) pa_nil))))), ?_⟩
  have := hs.len
  have : 0 < s.length := List.length_pos_iff.mpr hne
  exact ⟨_, rfl, a, s, 1, 8, rfl, ea, by omega, by omega, hne, hs, q⟩
end
end K18

set_option linter.all false
set_option Elab.async false
set_option maxRecDepth 100000
set_option maxHeartbeats 4000000
namespace K18
open PySem PySem.Spec PyProof.Rows L2 SH

/-- (*e, ..) -/
def tStar (K : PySem.W.Frag) (ta : TE) (tr : TA) : TA := fun σ H Q => ta σ H fun x H1 => ∃ b xs, x = .ref b ∧ SqT K H1 b xs ∧ tr σ H1 fun ys H2 => Q (xs ++ ys) H2
/-! ### parts_of -/
def spParts : Sp := fun vs H Q _ => ∃ (a : Addr) (s : S), vs = [.ref a] ∧ H a = some (tp s) ∧ s.length ≤ 7 ∧ ∀ (H' : Hp) (p : Addr) (bs : List V), Same H H' → H p = none → H' p = some (.lst bs) → Tps H' bs (parts s) → Q (.ref p) H'
theorem cutL1 (xs : List V) : cutV xs (some 1) none = xs.drop 1 := cut1 xs
theorem snoc_tp (p : S) (v : Int) : HO.tup (p.map V.int ++ [.int v]) = tp (p ++ [v]) := by simp [tp]
theorem take_snoc' {s : S} {i : Nat} {v : Int} (h : s[i]? = some v) : s.take (i + 1) = s.take i ++ [v] := by
  rw [List.take_succ, h]
  rfl
theorem allParts_len7 {s : S} (h : s.length ≤ 7) (i : Nat) : (allParts (s.take i)).length ≤ 128 := by
  rw [allParts_length]
  have : (s.take i).length ≤ 7 := by rw [List.length_take]; omega
  exact Nat.le_trans (Nat.pow_le_pow_right (by decide) this) (by decide)
section
variable {P : Program} {w : World} {K : PySem.W.Frag} {mg : Str → Option Value} {base : Heap}
theorem sc18 : FnScope ["simplex", "found", "vertex", "part"] ["simplex"] (defScope (top 18)) := ⟨rfl, rfl, rfl, by decide +kernel, rfl, by decide +kernel, by decide +kernel⟩
theorem ok_parts_of (D : Dx K mg "parts_of" (top 18) ["simplex"]) (B : Bt mg) : Df P w K mg base CX0 1 "parts_of" ["simplex"] spParts := by
  refine D.ok sc18 (fun vs H Q E h => by obtain ⟨a, s, rfl, _⟩ := h; rfl) (fun f cdv A outer s0 H vs Q E hr h => ?_)
  obtain ⟨a, s, rfl, ea, hs, q⟩ := h
  refine ⟨_, pss_cons (ps_set (i := 1) sc18.nd rfl (.inl rfl) (pe_lst (pa_cons (pe_tup pa_nil) pa_nil)))
    (pss_cons (ps_for PassesOwn.never rfl (pi_tup (pv 0)) (pg_name (i := 2) sc18.nd rfl (.inr rfl))
      (pss_one (ps_expr (pe_bm PySem.F.plainAttrs_list PySem.F.slot_list_extend PySem.F.type_list_extend mt_extend (pv 1) (pa_cons (pe_lc (own := [("part", 3)]) (g := gName 3) (tt := tYes) (te := tTup (tStar K (tVar 3) (tCons (tVar 2) tNil))) rfl sc18.nd (pi_list (pv 1))
        (blkOk_by (N := ["simplex", "found", "vertex", "part"]) (sc := defScope (top 18)) (by decide +kernel)) (fun _ _ _ _ _ => pg_name (i := 3) sc18.nd rfl (Or.inl rfl)) (fun _ _ _ _ _ => pts_nil)
        (fun _ _ _ _ _ => pe_tup (pa_star (pv 3) (pa_cons (pv 2) pa_nil)))) pa_nil)))))
    (pss_one (ps_ret (pe_slice sl_list (pv 1) (po_some pe_int) po_none)))), ?_⟩
  -- found = [()]
  refine ⟨by show 0 ≤ sizeLine; exact Nat.zero_le _, fun t ht => ⟨by show 1 ≤ sizeLine; decide, fun l hl => ?_⟩⟩
  have k0 : Kp [] H (upd (upd H t (.tup [])) l (.lst [.ref t])) := (Kp.new ht).new' hl
  have l0 : H l = none := (Kp.new (S := []) ht).free hl
  have ntl : t ≠ l := fun z => by rw [← z, upd_same] at hl; cases hl
  refine ⟨_, rfl, a, rfl, ⟨_, SqT.of (k0.tups _ _ ea)⟩, for_it walk_tup (fun i σ H' => ∃ (bs : List V) (v : Option V), σ = [some (.ref a), some (.ref l), v, none] ∧ Kp [] H H' ∧ H' l = some (.lst bs) ∧ Tps H' bs (allParts (s.take i)))
    ⟨[.ref t], none, rfl, k0, upd_same, .cons ⟨t, rfl, by rw [upd_ne ntl, upd_same]; rfl⟩ .nil⟩ (fun i σ H' _ ⟨_, _, _, k, _⟩ => SqT.of (k.tups _ _ ea)) ?_ ?_⟩
  · rintro i x σ H1 H2 hi ⟨bs, v0, rfl, k, el, tb⟩ ⟨rfl, hx⟩
    rw [List.getElem?_map] at hx
    obtain ⟨v, hv, rfl⟩ := Option.map_eq_some_iff.mp hx
    -- found.extend([(*part, vertex) ..])
    refine ⟨_, rfl, .inl ⟨rfl, _, SqL.of el⟩, _, rfl, l, rfl, ⟨bs, SqL.of el⟩, fun D0 hD0 => ?_⟩
    have nD : l ∉ [D0] := fun z => by
      have e : l = D0 := by simpa using z
      rw [← e, el] at hD0
      cases hD0
    have hb : bs.length = (allParts (s.take i)).length := pd_len tb
    have hb2 := allParts_len7 hs i
    refine lc_gen (walk_list (K := K) (a := l) (xs := bs)) hD0 (by rw [hb]; exact Nat.le_trans hb2 (by decide)) [] (by simp) (fun H' => H' l = some (.lst bs) ∧ Tps H' bs (allParts (s.take i))) (fun j acc H' => Tps H' acc (((allParts (s.take i)).take j).map (· ++ [v])))
      (fun H' H3 kk e => ⟨kk.keep _ _ nD e.1, e.2.tk kk.tups⟩) (fun _ _ _ _ kk h => h.tk kk) (fun j acc _ h => by rw [pd_len h, List.length_map, List.length_take]; omega) (fun H' _ e => SqL.of e.1) ⟨el, tb⟩ (by simpa using Paired.nil)
      (fun j x H3 H4 acc hj kk jj pp eD y K1 K0 c1 c0 => ?_) (fun H3 acc kk jj pp eD => ?_)
    · obtain ⟨rfl, hxj⟩ := y
      obtain ⟨p, hp, b, rfl, eb⟩ := pd_get jj.2 hxj
      have hpl : p.length ≤ 7 := by
        have z := (mem_allParts (s.take i) p).mp (List.mem_of_getElem? hp)
        have := z.length_le
        rw [List.length_take] at this
        omega
      refine ⟨rfl, yes_of ⟨_, rfl, b, _, rfl, SqT.of eb, _, rfl, ?_, fun u hu => ?_⟩⟩
      · have : p.length + 1 ≤ sizeLine := Nat.le_trans (Nat.add_le_add_right hpl 1) (by decide)
        simpa using this
      · rw [snoc_tp]
        have ku : Kp [] H4 (upd H4 u (tp (p ++ [v]))) := .new hu
        refine c1 _ _ ku ⟨ku.keep _ _ (by simp) jj.1, jj.2.tk ku.tups⟩ ?_
        rw [List.take_succ, hp]
        simp only [Option.toList_some, List.map_append, List.map_cons, List.map_nil]
        exact pd_snoc (pp.tk ku.tups) ⟨u, rfl, upd_same⟩
    · rw [hb, List.take_length] at pp
      refine ⟨l, D0, bs, acc, rfl, rfl, jj.1, eD, ?_, ?_⟩
      · have h1 := pd_len pp
        rw [List.length_map] at h1
        have : bs.length + acc.length ≤ 256 := by omega
        exact Nat.le_trans this (by decide)
      · have k2 : Kp [] H (upd H3 l (.lst (bs ++ acc))) := (k.trans kk).put0 l0
        have tk3 : TK H3 (upd H3 l (.lst (bs ++ acc))) := tk_upd jj.1 fun _ => lst_tup
        refine ⟨bs ++ acc, _, rfl, k2, upd_same, ?_⟩
        rw [take_snoc' hv, allParts_snoc]
        exact pd_app (jj.2.tk tk3) (pp.tk tk3)
  · rintro σ H1 ⟨bs, v0, rfl, k, el, tb⟩
    refine ⟨_, rfl, _, rfl, l, bs, rfl, SqL.of el, fun p hp => ?_⟩
    rw [cutL1]
    rw [List.take_of_length_le (by rw [List.length_map]; exact Nat.le_refl _)] at tb
    have k2 : Kp [] H (upd H1 p (.lst (bs.drop 1))) := k.new' hp
    exact q _ p _ k2.same (k.free hp) upd_same (Tps.tk (pd_drop 1 tb) (Kp.new (S := []) hp).tups)
end
end K18

set_option linter.all false
set_option Elab.async false
set_option maxRecDepth 100000
set_option maxHeartbeats 4000000
namespace K18
open PySem PySem.Spec PyProof.Rows L2 SH

/-! ### for x in xs, xs a list or a tuple -/
def SeqR (K : PySem.W.Frag) (H : Hp) (a : Addr) (R : It → Hp → Prop) : Prop := ((∃ xs, SqL K H a xs) ∧ R (Itl K a) H) ∨ ((∃ xs, SqT K H a xs) ∧ R (Itt K a) H)
def iSeq (K : PySem.W.Frag) (tl : TE) : TI := fun σ H R => tl σ H fun x H1 => ∃ a, x = .ref a ∧ SeqR K H1 a R
theorem pi_seq {X : Cx} {tg l : Expr} {tl : TE} (hl : PE X l tl) : PI X tg l (iSeq X.K tl) := by
  refine ⟨fun pins s σ H R I h => ?_⟩
  refine thn (hl.run pins s σ H _ I h) fun v s1 ⟨x, H1, I1, r1, q1⟩ => ?_
  obtain ⟨a, e, q⟩ := q1
  subst e
  cases r1
  have fp : ∀ b ∈ [s1.heap.objs.size], FpOk X pins H1 b := fun b hb => by
    have e : b = s1.heap.objs.size := by simpa using hb
    subst e
    exact I1.fpOk (Nat.le_refl _) (I1.hok.fresh (Nat.le_refl _))
  rcases q with ⟨⟨xs, hq⟩, q⟩ | ⟨⟨xs, hq⟩, q⟩
  · obtain ⟨its, rv, p, hz⟩ := I1.list hq
    refine wpAny_pyIter_list p.isList ?_
    exact ⟨s1.heap.objs.size, [s1.heap.objs.size], _, _, H1, rfl, I1.kept (t' := s1.toks) fun b o e => Heap.get?_push_of_some _ e, turn_list a _, ⟨_, Heap.get?_push_size _ rfl, rfl, rfl⟩, fp, q⟩
  · obtain ⟨its, rv, p, hz⟩ := I1.tuple hq
    refine wpAny_pyIter_tuple (show s1.heap.IsTuple a its.toArray from p) ?_
    exact ⟨s1.heap.objs.size, [s1.heap.objs.size], _, _, H1, rfl, I1.kept (t' := s1.toks) fun b o e => Heap.get?_push_of_some _ e, turn_tuple a _, ⟨_, Heap.get?_push_size _ rfl, rfl, rfl⟩, fp, q⟩
/-- a list or a tuple that stands -/
def SqE (H : Hp) (a : Addr) (xs : List V) : Prop := H a = some (.lst xs) ∨ H a = some (.tup xs)
theorem SqE.kp {H H' : Hp} {a : Addr} {xs : List V} (h : SqE H a xs) (k : Kp [] H H') : SqE H' a xs := by
  rcases h with h | h
  · exact .inl (k.keep _ _ (by simp) h)
  · exact .inr (k.keep _ _ (by simp) h)
theorem seq_or {K : PySem.W.Frag} {H : Hp} {a : Addr} {xs : List V} {R : It → Hp → Prop} (h : SqE H a xs) (k : ∀ (J : It) (G : Hp → Prop), Walk J xs.length G (YAt xs) → (∀ H', H' a = H a → G H') → R J H) : SeqR K H a R := by
  rcases h with h | h
  · exact .inl ⟨⟨xs, SqL.of h⟩, k _ (fun H' => SqL K H' a xs) walk_list fun H' e => SqL.of (e.trans h)⟩
  · exact .inr ⟨⟨xs, SqT.of h⟩, k _ (fun H' => SqT K H' a xs) walk_tup fun H' e => SqT.of (e.trans h)⟩

/-! ### generated -/
def spGen : Sp := fun vs H Q _ => ∃ (a : Addr) (bs : List V) (L : List S), vs = [.ref a] ∧ SqE H a bs ∧ bs.length ≤ 1000 ∧ Tps H bs L ∧ (∀ s ∈ L, Simp s ∧ s ≠ []) ∧
  ∀ (H' : Hp) (d : Addr) (m : List (S × V)), Same H H' → H d = none → H' d = some (dI m) → (m.map (·.1)).Nodup → (∀ k, k ∈ m.map (·.1) ↔ IsFace L k) → Q (.ref d) H'
theorem face_snoc {L : List S} {s k : S} : IsFace (L ++ [s]) k ↔ IsFace L k ∨ (k ≠ [] ∧ k.Sublist s) := by
  unfold IsFace
  constructor
  · rintro ⟨h, t, ht, hk⟩
    rcases List.mem_append.mp ht with ht | ht
    · exact .inl ⟨h, t, ht, hk⟩
    · rw [List.mem_singleton] at ht
      subst ht
      exact .inr ⟨h, hk⟩
  · rintro (⟨h, t, ht, hk⟩ | ⟨h, hk⟩)
    · exact ⟨h, t, List.mem_append_left _ ht, hk⟩
    · exact ⟨h, s, by simp, hk⟩
theorem take_snocL {α : Type} {L : List α} {i : Nat} {s : α} (h : L[i]? = some s) : L.take (i + 1) = L.take i ++ [s] := by
  rw [List.take_succ, h]
  rfl
section
variable {P : Program} {w : World} {K : PySem.W.Frag} {mg : Str → Option Value} {base : Heap}
theorem sc19 : FnScope ["simplices", "found", "simplex", "part"] ["simplices"] (defScope (top 19)) := ⟨rfl, rfl, rfl, by decide +kernel, rfl, by decide +kernel, by decide +kernel⟩
theorem ok_generated (D : Dx K mg "generated" (top 19) ["simplices"]) (B : Bt mg) (D1 : Df P w K mg base CX0 1 "parts_of" ["simplex"] spParts) : Df P w K mg base CX0 2 "generated" ["simplices"] spGen := by
  refine D.ok sc19 (fun vs H Q E h => by obtain ⟨a, bs, L, rfl, _⟩ := h; rfl) (fun f cdv A outer s0 H vs Q E hr h => ?_)
  obtain ⟨a, bs, L, rfl, ea, hz, hT, hL, q⟩ := h
  obtain ⟨tv, mF⟩ := B.mF
  have hu := hu_of hr
  refine ⟨_, pss_cons (ps_set (i := 1) sc19.nd rfl (.inl rfl) pe_dnewT)
    (pss_cons (ps_for PassesOwn.never rfl (pi_seq (pv 0)) (pg_name (i := 2) sc19.nd rfl (.inl rfl))
      (pss_one (ps_if (pt_cmp (pc_dnotin hu (pv 2) (pv 1)))
        (pss_cons (ps_for PassesOwn.never rfl (pi_list (pe_df D1 hr (by decide) (by rfl) pass0 (pa_cons (pv 2) pa_nil))) (pg_name (i := 3) sc19.nd rfl (.inl rfl)) (pss_one (ps_dput hu (pv 1) (pv 3) pe_bl rfl)))
          (pss_one (ps_if (pt_cmpR op_gt (pe_callB call_len_dT (by rfl) B.len PySem.boot_len (pa_cons (pv 1) pa_nil)) (pe_glob (v := .int 400) (by rfl) mF ⟨_, rfl⟩) (nomark _)) (pss_one ps_never) pss_nil)))
        pss_nil)))
    (pss_one (ps_ret (pv 1)))), ?_⟩
  -- found = {}
  refine fun d hd => ?_
  have k0 : Kp [] H (upd H d (.dT [])) := .new hd
  have hbl : bs.length = L.length := pd_len hT
  have faces : ∀ {M : List S} {k : S}, (∀ s ∈ M, s ∈ L) → IsFace M k → Simp k := fun hM h => IsFace.simp (fun s hs => (hL s (hM s hs)).1) h
  refine ⟨_, rfl, a, rfl, seq_or (ea.kp k0) fun J G wk hG => for_it wk (fun i σ H' => ∃ (m : List (S × V)) (v v' : Option V), σ = [some (.ref a), some (.ref d), v, v'] ∧ Kp [] H H' ∧ H' d = some (dI m) ∧ (m.map (·.1)).Nodup ∧ ∀ k, k ∈ m.map (·.1) ↔ IsFace (L.take i) k)
    ⟨[], none, none, rfl, k0, upd_same, by simp, fun k => by simp [IsFace]⟩ (fun i σ H' _ ⟨_, _, _, _, k, _⟩ => ?_) ?_ ?_⟩
  · obtain ⟨o, ho⟩ : ∃ o, H a = some o := ea.elim (fun z => ⟨_, z⟩) fun z => ⟨_, z⟩
    exact hG _ ((k.keep a o (by simp) ho).trans (k0.keep a o (by simp) ho).symm)
  · rintro i x σ H1 H2 hi ⟨m, v, v', rfl, k, ed, nd, hm⟩ ⟨rfl, hx⟩
    obtain ⟨s, hs, b, rfl, eb⟩ := pd_get hT hx
    have hsL := List.mem_of_getElem? hs
    have sL := hL s hsL
    have eb1 : H2 b = some (tp s) := k.tups _ _ eb
    have mem_take : ∀ {n : Nat} {t : S}, t ∈ L.take n → t ∈ L := fun h => List.mem_of_mem_take h
    refine ⟨_, rfl, _, rfl, d, getI m s, rfl, dget ed ⟨b, rfl, eb1⟩, _, rfl, ?_⟩
    rw [getI_isSome]
    by_cases hin : s ∈ m.map (·.1)
    · rw [decide_eq_true hin]
      refine iteF ⟨m, _, _, rfl, k, ed, nd, fun kx => ?_⟩
      rw [hm, take_snocL hs, face_snoc]
      refine ⟨.inl, fun h => h.elim id fun ⟨h1, h2⟩ => ?_⟩
      exact ((hm s).mp hin).sub h1 h2
    · rw [decide_eq_false hin]
      refine iteT ?_
      -- for part in parts_of(simplex)
      refine ⟨_, rfl, b, s, rfl, eb1, sL.1.len, fun H3 p bs' k3 hp ep tps => ?_⟩
      have nd3 : d ∉ ([p] : List Addr) := fun z => by
        have e : d = p := by simpa using z
        rw [e, hp] at ed
        cases ed
      have key : ∀ k', (k' ∈ m.map (·.1) ∨ k' ∈ parts s) ↔ IsFace (L.take (i + 1)) k' := fun k' => by
        rw [take_snocL hs, face_snoc, hm, mem_parts]
      refine ⟨p, rfl, ⟨_, SqL.of ep⟩, for_it walk_list (fun j σ H' => ∃ (m' : List (S × V)) (v' : Option V), σ = [some (.ref a), some (.ref d), some (.ref b), v'] ∧ Kp [] H H' ∧ H' d = some (dI m') ∧ H' p = some (.lst bs') ∧ Tps H' bs' (parts s) ∧ (m'.map (·.1)).Nodup ∧ ∀ k', k' ∈ m'.map (·.1) ↔ k' ∈ m.map (·.1) ∨ k' ∈ (parts s).take j)
        ⟨m, v', rfl, k.trans (.of_same k3), k3 _ _ ed, ep, tps, nd, fun k' => by simp⟩ (fun j σ H' _ ⟨_, _, _, _, _, h, _⟩ => SqL.of h) ?_ ?_⟩
      · rintro j y σ H4 H5 hj ⟨m', w', rfl, k4, ed4, ep4, tps4, nd4, hm4⟩ ⟨rfl, hy⟩
        obtain ⟨q', hq, c, rfl, ec⟩ := pd_get tps4 hy
        have hlen : m'.length ≤ 128 := by
          have z := simps_len nd4 fun t ht => by
            have t1 := (key t).mp (((hm4 t).mp ht).imp id fun z => List.mem_of_mem_take z)
            exact faces (fun _ h => mem_take h) t1
          rwa [List.length_map] at z
        have npd : p ≠ d := fun z => nd3 (by simp [z])
        refine ⟨_, rfl, _, rfl, d, _, rfl, dput ed4 ⟨c, rfl, ec⟩ (Nat.lt_of_le_of_lt hlen (by decide)), ?_⟩
        have tk5 : TK H5 (upd H5 d (dI (putI m' q' (.bl true)))) := tk_upd ed4 fun _ => dI_tup
        refine ⟨_, _, rfl, k4.put0 hd, upd_same, by rw [upd_ne npd]; exact ep4, tps4.tk tk5, putI_nodup nd4, fun k' => ?_⟩
        rw [putI_mem, hm4, take_snocL hq, List.mem_append, List.mem_singleton]
        constructor
        · rintro (h | h | h)
          · exact .inr (.inr h)
          · exact .inl h
          · exact .inr (.inl h)
        · rintro (h | h | h)
          · exact .inr (.inl h)
          · exact .inr (.inr h)
          · exact .inl h
      · rintro σ H4 ⟨m', w', rfl, k4, ed4, ep4, tps4, nd4, hm4⟩
        have hm5 : ∀ k', k' ∈ m'.map (·.1) ↔ IsFace (L.take (i + 1)) k' := fun k' => by
          rw [hm4, pd_len tps4, List.take_length]
          exact key k'
        have hlen : m'.length ≤ 128 := by
          have z := simps_len nd4 fun t ht => faces (fun _ h => mem_take h) ((hm5 t).mp ht)
          rwa [List.length_map] at z
        refine ⟨_, rfl, d, _, rfl, ed4, _, _, rfl, rfl, _, rfl, ?_⟩
        rw [List.length_map]
        have : ¬ ((m'.length : Nat) : Int) > 400 := by omega
        rw [decide_eq_false this]
        exact iteF ⟨m', _, _, rfl, k4, ed4, nd4, hm5⟩
  · rintro σ H1 ⟨m, v, v', rfl, k, ed, nd, hm⟩
    refine ⟨_, rfl, q _ d m k.same hd ed nd fun kx => ?_⟩
    rw [hm, hbl, List.take_length]
end
end K18

set_option linter.all false
set_option Elab.async false
set_option maxRecDepth 100000
set_option maxHeartbeats 4000000
namespace K18
open PySem PySem.Spec PyProof.Rows L2 SH

/-! ### sorted, as its callers use it -/
theorem atv_uniq {H : Hp} {v : V} {x y : At} (h : AtV H v x) (k : AtV H v y) : x = y := by
  match x, y, h, k with
  | .inl i, .inl j, h, k =>
    have h : v = .int i := h
    have k : v = .int j := k
    rw [h] at k
    cases k
    rfl
  | .inr s, .inr t, h, k => rw [Tp.inj h k]
  | .inl i, .inr t, h, k =>
    have h : v = .int i := h
    obtain ⟨a, e, _⟩ := (show Tp H v t from k)
    rw [h] at e
    cases e
  | .inr t, .inl i, h, k =>
    have k : v = .int i := k
    obtain ⟨a, e, _⟩ := (show Tp H v t from h)
    rw [k] at e
    cases e
theorem atvs_uniq {H : Hp} : ∀ {vs : List V} {k l : Ky}, Paired (AtV H) vs k → Paired (AtV H) vs l → k = l
  | _, _, _, .nil, .nil => rfl
  | _, _, _, .cons h t, .cons h' t' => by rw [atv_uniq h h', atvs_uniq t t']
theorem iskey_uniq {H : Hp} {x : V} {k l : Ky} (h : IsKy H x k) (h' : IsKy H x l) : k = l := by
  obtain ⟨t, vs, rfl, e, p⟩ := h
  obtain ⟨t', vs', e1, e2, p'⟩ := h'
  cases e1
  rw [e] at e2
  cases e2
  exact atvs_uniq p p'
theorem AtV.tk {H H' : Hp} {v : V} {x : At} (h : AtV H v x) (k : TK H H') : AtV H' v x := by
  cases x with
  | inl i => exact h
  | inr s => exact Tp.tk h k
theorem IsKy.tk {H H' : Hp} {x : V} {y : Ky} (h : IsKy H x y) (k : TK H H') : IsKy H' x y := by
  obtain ⟨t, vs, e, h1, h2⟩ := h
  exact ⟨t, vs, e, k _ _ h1, L2.Paired.mapP h2 fun _ _ q => AtV.tk q k⟩
theorem perm_pd {α β : Type} {F : α → β → Prop} {xs ys : List α} (p : ys.Perm xs) : ∀ {ts : List β}, Paired F xs ts → ∃ ts', ts'.Perm ts ∧ Paired F ys ts' := by
  induction p with
  | nil => exact fun {ts} h => ⟨ts, .refl _, h⟩
  | cons x _ ih =>
    intro ts h
    cases h with
    | cons r t =>
      obtain ⟨ts', p, q⟩ := ih t
      exact ⟨_, p.cons _, .cons r q⟩
  | swap x y l =>
    intro ts h
    cases h with
    | cons r1 t =>
      cases t with
      | cons r2 t => exact ⟨_, .swap _ _ _, .cons r2 (.cons r1 t)⟩
  | trans _ _ ih1 ih2 =>
    intro ts h
    obtain ⟨t1, p1, q1⟩ := ih2 h
    obtain ⟨t2, p2, q2⟩ := ih1 q1
    exact ⟨t2, p2.trans p1, q2⟩
structure rSrt (K : PySem.W.Frag) (xs : List V) (H : Hp) (Q : VK) : Prop where
  ex : rSortedN K xs H Q
theorem cr_srt {X : Cx} {n : Nat} (hr : Room n X.A) : CallR X (.builtin "sorted") (rSrt X.K) := fun pins s σ H vs us Q I r h => cr_sortedN hr pins s σ H vs us Q I r h.ex
theorem srt_use {β : Type} {K : PySem.W.Frag} {H : Hp} {a : Addr} {xs : List V} {ts : List β} {f : β → Ky} {Q : VK} (hs : SqL K H a xs) (hp : Paired (fun x t => IsKy H x (f t)) xs ts) (hh : ∀ t ∈ ts, headInt (f t)) (hc : ∀ s ∈ ts, ∀ t ∈ ts, Cmpb (f s) (f t))
    (q : ∀ (ys : List V) (ts' : List β) (p : Addr), ts'.Perm ts → Paired (fun x t => IsKy H x (f t)) ys ts' → ts'.Pairwise (fun s t => ltK (f t) (f s) = false) → H p = none → Q (.ref p) (upd H p (.lst ys))) : rSrt K [.ref a] H Q := by
  classical
  constructor
  have ex : ∀ x : V, ∃ k : Ky, (∃ k', IsKy H x k') → IsKy H x k := fun x => by
    by_cases h : ∃ k', IsKy H x k'
    · obtain ⟨k', h'⟩ := h
      exact ⟨k', fun _ => h'⟩
    · exact ⟨[], fun z => absurd z h⟩
  obtain ⟨k, hk⟩ : ∃ k : V → Ky, ∀ x, (∃ k', IsKy H x k') → IsKy H x (k x) := ⟨fun x => Classical.choose (ex x), fun x => Classical.choose_spec (ex x)⟩
  have kf : ∀ {x t}, IsKy H x (f t) → k x = f t := fun h => iskey_uniq (hk _ ⟨_, h⟩) h
  have hx : ∀ x ∈ xs, ∃ t, t ∈ ts ∧ IsKy H x (f t) := fun x m => pd_mem hp m
  refine ⟨a, xs, k, rfl, hs, fun x m => ?_, fun x m y m' => ?_, fun ys p hy hsrt hn => ?_⟩
  · obtain ⟨t, ht, h⟩ := hx x m
    exact ⟨hk _ ⟨_, h⟩, by rw [kf h]; exact hh t ht⟩
  · obtain ⟨t, ht, h⟩ := hx x m
    obtain ⟨t', ht', h'⟩ := hx y m'
    rw [kf h, kf h']
    exact hc t ht t' ht'
  · obtain ⟨ts', p1, p2⟩ := perm_pd hy hp
    refine q ys ts' p p1 p2 ?_ hn
    have hl := pd_len p2
    rw [List.pairwise_iff_getElem] at hsrt ⊢
    intro i j hi hj hij
    have hi' : i < ys.length := by omega
    have hj' : j < ys.length := by omega
    have e := hsrt i j hi' hj' hij
    obtain ⟨t1, e1, f1⟩ := pd_get p2 (List.getElem?_eq_getElem hi')
    obtain ⟨t2, e2, f2⟩ := pd_get p2 (List.getElem?_eq_getElem hj')
    rw [List.getElem?_eq_getElem hi] at e1
    rw [List.getElem?_eq_getElem hj] at e2
    cases e1
    cases e2
    rw [kf f1, kf f2] at e
    exact e
/-- the keys of the sorts -/
def kF (s : S) : Ky := [.inl (s.length : Int), .inr s]
def kS (s : S) : Ky := s.map .inl
def kT (p : Int × S) : Ky := [.inl p.1, .inl (p.2.length : Int), .inr p.2]
theorem kS_lt : ∀ s t : S, ltK (kS s) (kS t) = ltS s t
  | [], [] => rfl
  | [], _ :: _ => rfl
  | _ :: _, [] => rfl
  | a :: s, b :: t => by
    have ih : lexB ltA (s.map Sum.inl) (t.map Sum.inl) = lexB ltI s t := kS_lt s t
    show lexB ltA (.inl a :: s.map .inl) (.inl b :: t.map .inl) = lexB ltI (a :: s) (b :: t)
    unfold lexB
    by_cases h : a = b
    · subst h
      rw [if_pos rfl, if_pos rfl]
      exact ih
    · rw [if_neg (fun z => h (by injection z)), if_neg h]
      rfl
theorem cmp_F (s t : S) : Cmpb (kF s) (kF t) := ⟨True.intro, True.intro, True.intro⟩
theorem cmp_T (s t : Int × S) : Cmpb (kT s) (kT t) := ⟨True.intro, True.intro, True.intro, True.intro⟩
theorem cmp_S : ∀ s t : S, Cmpb (kS s) (kS t)
  | [], [] => True.intro
  | [], _ :: _ => True.intro
  | _ :: _, [] => True.intro
  | _ :: s, _ :: t => ⟨True.intro, cmp_S s t⟩
theorem iskey_S {H : Hp} {x : V} {s : S} (h : Tp H x s) : IsKy H x (kS s) := by
  obtain ⟨a, rfl, e⟩ := h
  refine ⟨a, _, rfl, e, ?_⟩
  have : ∀ l : S, Paired (AtV H) (l.map V.int) (l.map Sum.inl) := fun l => by
    induction l with
    | nil => exact .nil
    | cons a l ih => exact .cons rfl ih
  exact this s
theorem of_iskey_S {H : Hp} {x : V} {s : S} (h : IsKy H x (kS s)) : Tp H x s := by
  obtain ⟨t, vs, rfl, e, p⟩ := h
  have : ∀ (l : S) (vs : List V), Paired (AtV H) vs (l.map Sum.inl) → vs = l.map V.int := fun l => by
    induction l with
    | nil => intro vs h; cases h; rfl
    | cons a l ih =>
      intro vs h
      cases h with
      | @cons v _ vs' _ r t =>
        have r : v = .int a := r
        rw [r, ih _ t]
        rfl
  rw [this s vs p] at e
  exact ⟨t, rfl, e⟩
/-- sorted by a key that tells them apart: strictly -/
theorem strict_perm {α : Type} {f : α → Ky} (hf : ∀ a b, f a = f b → a = b) {ts ts' : List α} (p : ts'.Perm ts) (nd : ts.Nodup) (h : ts'.Pairwise (fun s t => ltK (f t) (f s) = false)) : ts'.Pairwise (fun s t => ltK (f s) (f t) = true) :=
  strict_of sto_K h (by
    have n' := (p.nodup_iff).mpr nd
    exact List.pairwise_map.mpr (List.Pairwise.imp (fun h e => h (hf _ _ e)) n'))
theorem kF_inj (a b : S) (h : kF a = kF b) : a = b := by
  unfold kF at h
  injection h with _ h
  injection h with h _
  injection h
theorem kT_inj (a b : Int × S) (h : kT a = kT b) : a = b := by
  unfold kT at h
  injection h with h1 h
  injection h with _ h
  injection h with h _
  injection h1 with h1
  injection h with h
  exact Prod.ext h1 h
theorem kS_inj (a b : S) (h : kS a = kS b) : a = b := by
  unfold kS at h
  exact (List.map_inj_right (fun x y e => by injection e)).mp h
/-- .. behind a lock -/
theorem unlock_same {H H' : Hp} {d : Addr} {o : Obj} {u : HO} (h : H d = some u) (k : Same (upd H d (.frz o u)) H') : Same H (upd H' d u) := fun b v e => by
  by_cases hb : b = d
  · subst hb
    rw [upd_same, ← e, h]
  · rw [upd_ne hb]
    exact k b v (by rw [upd_ne hb]; exact e)
theorem tk_lock {H : Hp} {d : Addr} {o : Obj} {u : HO} (h : H d = some u) (hu : ∀ xs, u ≠ .tup xs) : TK H (upd H d (.frz o u)) := tk_upd h hu
theorem tk_unlock {H : Hp} {d : Addr} {o : Obj} {u v : HO} (h : H d = some (.frz o u)) : TK H (upd H d v) := tk_upd h fun xs z => by cases z
end K18

set_option linter.all false
set_option Elab.async false
set_option maxRecDepth 100000
set_option maxHeartbeats 4000000
namespace K18
open PySem PySem.Spec PyProof.Rows L2 SH

/-! ### a locked dict of simplices, walked -/
abbrev dL (m : List (S × V)) : List (List Key × V) := m.map fun p => (kk p.1, p.2)
theorem walk_keysI {d : Addr} {o : Obj} {m : List (S × V)} : Walk (Itkt d o (dL m)) m.length (fun H => H d = some (.frz o (dI m))) (fun i H x H' => H' = H ∧ ∃ s, (m.map (·.1))[i]? = some s ∧ Tp H x s) := by
  have w := (walk_keysT (d := d) (o := o) (kvs := dL m)).mono (G' := fun H => H d = some (.frz o (dI m))) (Y' := fun i H x H' => H' = H ∧ ∃ s, (m.map (·.1))[i]? = some s ∧ Tp H x s) (fun _ h => h) fun i H x H' _ _ y => by
    obtain ⟨rfl, k, v, q, e, rfl, h⟩ := y
    rw [List.getElem?_map] at e
    obtain ⟨p, hp, e⟩ := Option.map_eq_some_iff.mp e
    cases e
    rw [kk_V] at h
    exact ⟨rfl, p.1, by rw [List.getElem?_map, hp]; rfl, q, rfl, h⟩
  rw [List.length_map] at w
  exact w
structure rLn (K : PySem.W.Frag) (xs : List V) (H : Hp) (Q : VK) : Prop where
  ex : ∃ p ys, xs = [.ref p] ∧ (SqL K H p ys ∨ SqT K H p ys) ∧ Q (.int (ys.length : Int)) H
theorem cr_len {X : Cx} : CallR X (.builtin "len") (rLn X.K) := fun pins s σ H vs us Q I r h => call_len_seq pins s σ H vs us Q I r h.ex
/-- len of a simplex -/
theorem rln_tp {K : PySem.W.Frag} {H : Hp} {a : Addr} {s : S} {Q : VK} (h : H a = some (tp s)) (q : Q (.int (s.length : Int)) H) : rLn K [.ref a] H Q :=
  ⟨⟨a, _, rfl, .inr (SqT.of h), by rw [List.length_map]; exact q⟩⟩
/-! ### in_order -/
def spOrder : Sp := fun vs H Q _ => ∃ (d : Addr) (m : List (S × V)), vs = [.ref d] ∧ H d = some (dI m) ∧ m.length ≤ 1000 ∧ (m.map (·.1)).Nodup ∧
  ∀ (H' : Hp) (p : Addr) (bs : List V) (L : List S), Same H H' → H p = none → H' p = some (.lst bs) → Tps H' bs L → L.Pairwise (fun s t => ltF s t = true) → L.Perm (m.map (·.1)) → Q (.ref p) H'
section
variable {P : Program} {w : World} {K : PySem.W.Frag} {mg : Str → Option Value} {base : Heap}
theorem sc20 : FnScope ["simplices", "pair", "simplex"] ["simplices"] (defScope (top 20)) := ⟨rfl, rfl, rfl, by decide +kernel, rfl, by decide +kernel, by decide +kernel⟩
theorem ok_in_order (D : Dx K mg "in_order" (top 20) ["simplices"]) (B : Bt mg) : Df P w K mg base CX0 1 "in_order" ["simplices"] spOrder := by
  refine D.ok sc20 (fun vs H Q E h => by obtain ⟨d, m, rfl, _⟩ := h; rfl) (fun f cdv A outer s0 H vs Q E hr h => ?_)
  obtain ⟨d, m, rfl, ed, hz, nd, q⟩ := h
  refine ⟨_, pss_one (ps_ret (pe_lc (own := [("pair", 1)]) (g := gName 1) (tt := tYes) (te := tOp (rIxT K) (tVar 1) (tC (.int 1))) rfl sc20.nd (pi_list (pe_callB (cr_srt hr) (by rfl) B.sorted (by decide +kernel)
      (pa_cons (pe_lock (pe_lc (own := [("simplex", 2)]) (g := gName 2) (tt := tYes) (te := tTup (tCons (tCB (rLn K) (tCons (tVar 2) tNil)) (tCons (tVar 2) tNil))) rfl sc20.nd (pi_keys (pv 0))
        (blkOk_by (N := ["simplices", "pair", "simplex"]) (sc := defScope (top 20)) (by decide +kernel)) (fun _ _ _ _ _ => pg_name (i := 2) sc20.nd rfl (Or.inl rfl)) (fun _ _ _ _ _ => pts_nil)
        (fun _ _ _ _ _ => pe_tup (pa_cons (pe_callB cr_len (by rfl) B.len PySem.boot_len (pa_cons (pv 2) pa_nil)) (pa_cons (pv 2) pa_nil))))) pa_nil)))
      (blkOk_by (N := ["simplices", "pair", "simplex"]) (sc := defScope (top 20)) (by decide +kernel)) (fun _ _ _ _ _ => pg_name (i := 1) sc20.nd rfl (Or.inl rfl)) (fun _ _ _ _ _ => pts_nil)
      (fun _ _ _ _ _ => pe_ix ix_tup (pv 1) pe_int (fun _ _ => rfl)))), ?_⟩
  -- the pairs
  refine ⟨d, dI m, ed, True.intro, fun od => ?_⟩
  have tkl : TK H (upd H d (.frz od (dI m))) := tk_lock ed fun _ => dI_tup
  refine ⟨_, rfl, d, od, rfl, .inr ⟨dL m, upd_same, fun D0 hD0 => ?_⟩⟩
  have ndD : ∀ {p : Addr}, upd H d (.frz od (dI m)) p = none → d ≠ p := fun {p} h z => by
    rw [← z, upd_same] at h
    cases h
  have hml : (m.map (·.1)).length = m.length := List.length_map ..
  refine lc_gen (walk_keysI (m := m)) hD0 (Nat.le_trans hz (by decide)) [] (by simp) (fun H' => H' d = some (.frz od (dI m))) (fun i acc H' => Paired (fun x s => IsKy H' x (kF s)) acc ((m.map (·.1)).take i)) (fun H' H3 kk e => kk.keep d _ (by simpa using ndD hD0) e)
    (fun _ _ _ _ kk h => L2.Paired.mapP h fun _ _ z => z.tk kk) (fun i acc _ h => by rw [pd_len h, List.length_take]; omega) (fun H' _ e => e) upd_same (by simpa using Paired.nil) (fun i x H2 H3 acc hi k j pp eD y K1 K0 c1 c0 => ?_) (fun H2 acc k j pp eD => ?_)
  · obtain ⟨rfl, s, hs, a, rfl, ea⟩ := y
    refine ⟨rfl, yes_of ⟨_, rfl, rln_tp ea ⟨_, rfl, by show 2 ≤ sizeLine; decide, fun T hT => ?_⟩⟩⟩
    have kT : Kp [] H3 (upd H3 T (.tup [.int (s.length : Int), .ref a])) := .new hT
    refine c1 _ _ kT (kT.keep _ _ (by simp) j) ?_
    rw [take_snocL hs]
    exact pd_snoc (L2.Paired.mapP pp fun _ _ z => z.tk kT.tups) ⟨T, _, rfl, upd_same, .cons rfl (.cons ⟨a, rfl, kT.tups _ _ ea⟩ .nil)⟩
  · refine ⟨j, ?_⟩
    rw [← hml, List.take_length] at pp
    have tku : TK H2 (upd H2 d (dI m)) := tk_unlock j
    have ndD2 : D0 ≠ d := fun z => ndD hD0 z.symm
    have k1 : Same H (upd H2 d (dI m)) := unlock_same ed k.same
    refine srt_use (SqL.of (by rw [upd_ne ndD2]; exact eD)) (L2.Paired.mapP pp fun _ _ z => z.tk tku) (fun _ _ => True.intro) (fun s _ t _ => cmp_F s t) fun ys ts' p perm py srt hp => ?_
    have strict := strict_perm kF_inj perm nd srt
    have kp : Kp [] (upd H2 d (dI m)) (upd (upd H2 d (dI m)) p (.lst ys)) := .new hp
    have hl : ts'.length ≤ 1000 := by rw [perm.length_eq, hml]; exact hz
    have hyl := pd_len py
    refine ⟨p, rfl, ⟨ys, SqL.of upd_same⟩, fun D1 hD1 => ?_⟩
    have npD : p ≠ D1 := fun z => by
      rw [← z, upd_same] at hD1
      cases hD1
    refine lc_gen (walk_list (K := K) (a := p) (xs := ys)) hD1 (by rw [hyl]; exact Nat.le_trans hl (by decide)) [] (by simp) (fun H' => H' p = some (.lst ys) ∧ Paired (fun x s => IsKy H' x (kF s)) ys ts') (fun i acc H' => Tps H' acc (ts'.take i))
      (fun H' H3 kk e => ⟨kk.keep p _ (by simpa using npD) e.1, L2.Paired.mapP e.2 fun _ _ z => z.tk kk.tups⟩) (fun _ _ _ _ kk h => h.tk kk) (fun i acc _ h => by rw [pd_len h, List.length_take]; omega) (fun H' _ e => SqL.of e.1) ⟨upd_same, L2.Paired.mapP py fun _ _ z => z.tk kp.tups⟩
      (by simpa using Paired.nil) (fun i x H3 H4 acc hi k2 j2 pp2 eD2 y K1 K0 c1 c0 => ?_) (fun H3 acc k2 j2 pp2 eD2 => ?_)
    · obtain ⟨rfl, hx⟩ := y
      obtain ⟨s, hs, T, vs, rfl, eT, pk⟩ := pd_get j2.2 hx
      cases pk with
      | @cons v0 _ _ _ r0 pk =>
        cases pk with
        | @cons v1 _ _ _ r1 pk =>
          cases pk
          refine ⟨rfl, yes_of ⟨_, rfl, T, _, 1, v1, rfl, rfl, SqT.of eT, rfl, ?_⟩⟩
          refine c1 _ _ (.refl _ _) j2 ?_
          rw [take_snocL hs]
          exact pd_snoc pp2 r1
    · rw [hyl, List.take_length] at pp2
      refine q _ D1 acc ts' (k1.trans (kp.trans k2).same) (k1.free (kp.free hD1)) eD2 pp2 strict perm
end
end K18

set_option linter.all false
set_option Elab.async false
set_option maxRecDepth 100000
set_option maxHeartbeats 4000000
namespace K18
open PySem PySem.Spec PyProof.Rows L2 SH

/-! ### s[:at] + s[at + 1:] -/
abbrev tEraG (K : PySem.W.Frag) (tb tk : TE) : TE := tOp (rCatA K) (tSl (rSlA K) tb tNoPart (tPart tk)) (tSl (rSlA K) tb (tPart (tOp (rI0 fun i j => .int (i + j)) tk (tC (.int 1)))) tNoPart)
structure tEra (K : PySem.W.Frag) (tb tk : TE) (σ : L2.St) (H : Hp) (Q : VK) : Prop where
  run : tEraG K tb tk σ H Q
theorem pe_era {X : Cx} {e : Expr} {tb tk : TE} (h : PE X e (tEraG X.K tb tk)) : PE X e (tEra X.K tb tk) := ⟨fun pins s σ H Q I k => h.run pins s σ H Q I k.run⟩
theorem era_use {K : PySem.W.Frag} {tb tk : TE} {σ : L2.St} {H : Hp} {Q : VK} {b : Addr} {s : S} {i : Nat} (hb : ∀ H' (Q' : VK), Same H H' → Q' (.ref b) H' → tb σ H' Q') (hk : ∀ H' (Q' : VK), Same H H' → Q' (.int (i : Int)) H' → tk σ H' Q')
    (eb : H b = some (tp s)) (hz : s.length ≤ 1000) (hi : i < s.length) (q : ∀ H' v, Same H H' → Tp H' v (s.eraseIdx i) → Q v H') : tEra K tb tk σ H Q := by
  constructor
  have hl : (s.map V.int).length = s.length := List.length_map ..
  refine hb _ _ (Same.refl H) (hk _ _ (Same.refl H) ⟨_, rfl, b, _, rfl, SqT.of eb, fun z => ?_, fun _ p1 hp1 => ?_⟩)
  · exfalso
    rw [hl, HT.sIx_nat] at z
    omega
  have s1 : Same H (upd H p1 (.tup (cutV (s.map V.int) none (some (i : Int))))) := (Kp.new (S := []) hp1).same
  refine hb _ _ s1 (hk _ _ s1 ⟨_, _, rfl, rfl, _, rfl, b, _, rfl, SqT.of (s1 _ _ eb), fun z => ?_, fun _ p2 hp2 => ?_⟩)
  · exfalso
    rw [hl] at z
    have := z.1
    rw [show ((i : Int) + 1) = ((i + 1 : Nat) : Int) by omega, HT.sIx_nat] at this
    omega
  have s2 : Same (upd H p1 (.tup (cutV (s.map V.int) none (some (i : Int))))) (upd (upd H p1 (.tup (cutV (s.map V.int) none (some (i : Int))))) p2 (.tup (cutV (s.map V.int) (some ((i : Int) + 1)) none))) := (Kp.new (S := []) hp2).same
  have c1 : cutV (s.map V.int) none (some (i : Int)) = (s.take i).map V.int := by
    unfold cutV
    rw [hl, HT.sIx_nat, HT.sIx_none, Nat.min_eq_left (by omega), List.drop_zero, List.map_take]
    rfl
  have c2 : cutV (s.map V.int) (some ((i : Int) + 1)) none = (s.drop (i + 1)).map V.int := by
    unfold cutV
    rw [hl, show ((i : Int) + 1) = ((i + 1 : Nat) : Int) by omega, HT.sIx_nat, HT.sIx_none, Nat.min_eq_left (by omega), List.map_drop]
    rw [List.take_of_length_le (by rw [List.length_drop, hl]; exact Nat.le_refl _)]
  rw [c1] at s1 s2 hp2 ⊢
  rw [c2] at s2 ⊢
  have e1 := s2 _ _ (upd_same (H := H) (a := p1) (o := .tup ((s.take i).map V.int)))
  have er : s.eraseIdx i = s.take i ++ s.drop (i + 1) := List.eraseIdx_eq_take_drop_succ ..
  refine ⟨p1, p2, _, _, rfl, rfl, SqT.of e1, SqT.of upd_same, ?_, fun h => ?_, fun _ h => ?_, fun _ _ p3 hp3 => ?_⟩
  · rw [List.length_map, List.length_map, List.length_take, List.length_drop]
    exact Nat.le_trans (show _ ≤ 1000 by omega) (by decide)
  · refine q _ _ (s1.trans s2) ⟨p2, rfl, ?_⟩
    have h' : s.take i = [] := List.map_eq_nil_iff.mp h
    rw [er, h', List.nil_append]
    exact upd_same
  · refine q _ _ (s1.trans s2) ⟨p1, rfl, ?_⟩
    have h' : s.drop (i + 1) = [] := List.map_eq_nil_iff.mp h
    rw [h'] at e1 ⊢
    rw [er, h', List.append_nil]
    exact e1
  · refine q _ _ ((s1.trans s2).trans (Kp.new (S := []) hp3).same) ⟨p3, rfl, ?_⟩
    rw [er]
    show upd _ _ _ _ = some (.tup _)
    rw [upd_same, List.map_append]

/-! ### maximal -/
theorem rmax_len {m : List (S × V)} (nd : (m.map (·.1)).Nodup) (h : ∀ k ∈ m.map (·.1), Simp k) : m.length ≤ 128 := by
  have z := simps_len nd h
  rwa [List.length_map] at z
def spMax : Sp := fun vs H Q _ => ∃ (d : Addr) (m : List (S × V)), vs = [.ref d] ∧ H d = some (dI m) ∧ (m.map (·.1)).Nodup ∧ (∀ k ∈ m.map (·.1), Simp k ∧ k ≠ []) ∧
  ∀ (H' : Hp) (p : Addr) (bs : List V) (T : List S), Same H H' → H p = none → H' p = some (.tup bs) → Tps H' bs T → T.Pairwise (fun s t => ltS s t = true) → (∀ t, t ∈ T ↔ t ∈ m.map (·.1) ∧ ¬ Inner (· ∈ m.map (·.1)) t) → Q (.ref p) H'
section
variable {P : Program} {w : World} {K : PySem.W.Frag} {mg : Str → Option Value} {base : Heap}
theorem sc21 : FnScope ["faces", "inner", "simplex", "at"] ["faces"] (defScope (top 21)) := ⟨rfl, rfl, rfl, by decide +kernel, rfl, by decide +kernel, by decide +kernel⟩
theorem ok_maximal (D : Dx K mg "maximal" (top 21) ["faces"]) (B : Bt mg) : Df P w K mg base CX0 1 "maximal" ["faces"] spMax := by
  refine D.ok sc21 (fun vs H Q E h => by obtain ⟨d, m, rfl, _⟩ := h; rfl) (fun f cdv A outer s0 H vs Q E hr h => ?_)
  obtain ⟨d, m, rfl, ed, nd, hm, q⟩ := h
  have hu := hu_of hr
  refine ⟨_, pss_cons (ps_set (i := 1) sc21.nd rfl (.inr rfl) pe_dnewT)
    (pss_cons (ps_lock (ps_for PassesOwn.never rfl (pi_keys (pv 0)) (pg_name (i := 2) sc21.nd rfl (.inl rfl))
      (pss_one (ps_for PassesOwn.never rfl (pi_range1 (by rfl) B.range (pa_cons (pe_callB cr_len (by rfl) B.len PySem.boot_len (pa_cons (pv 2) pa_nil)) pa_nil)) (pg_name (i := 3) sc21.nd rfl (.inl rfl))
        (pss_one (ps_dput hu (pv 1) (pe_era (pe_op op_catA (pe_slice sl_tupA (pv 2) po_none (po_some (pv 3))) (pe_slice sl_tupA (pv 2) (po_some (pe_op op_add (pv 3) pe_int)) po_none))) pe_bl rfl))))))
    (pss_one (ps_ret (pe_callTy call_tuple_of (by rfl) B.tuple (by decide +kernel) (pa_cons (pe_callB (cr_srt hr) (by rfl) B.sorted (by decide +kernel)
      (pa_cons (pe_lock (pe_lc (own := [("simplex", 2)]) (g := gName 2) (tt := tB (tDNotIn (tVar 2) (tVar 1))) (te := tVar 2) rfl sc21.nd (pi_keys (pv 0))
        (blkOk_by (N := ["faces", "inner", "simplex", "at"]) (sc := defScope (top 21)) (by decide +kernel)) (fun _ _ _ _ _ => pg_name (i := 2) sc21.nd rfl (Or.inl rfl)) (fun _ _ _ _ _ => pts_one (pt_cmp (pc_dnotin hu (pv 2) (pv 1))))
        (fun _ _ _ _ _ => pv 2))) pa_nil)) pa_nil))))), ?_⟩
  have hz : m.length ≤ 128 := rmax_len nd fun k h => (hm k h).1
  have hml : (m.map (·.1)).length = m.length := List.length_map ..
  refine fun n hn => ?_
  have ndn : d ≠ n := ne_of_none ed hn
  have ed1 : upd H n (.dT []) d = some (dI m) := by rw [upd_ne ndn]; exact ed
  -- for simplex in faces
  refine ⟨d, dI m, ed1, True.intro, fun od => ?_⟩
  have kl0 : TK H (upd (upd H n (.dT [])) d (.frz od (dI m))) := (Kp.new (S := []) hn).tups.trans (tk_lock ed1 fun _ => dI_tup)
  have en0 : upd (upd H n (.dT [])) d (.frz od (dI m)) n = some (dI []) := by rw [upd_ne ndn.symm, upd_same]; rfl
  have dn : d ∉ ([n] : List Addr) := by simpa using ndn
  refine ⟨_, rfl, d, od, rfl, .inr ⟨dL m, upd_same, for_it (walk_keysI (m := m)) (fun i σ H' => ∃ (mi : List (S × V)) (v v' : Option V), σ = [some (.ref d), some (.ref n), v, v'] ∧ Kp [n] (upd (upd H n (.dT [])) d (.frz od (dI m))) H' ∧ H' n = some (dI mi) ∧ (mi.map (·.1)).Nodup ∧
      ∀ k, k ∈ mi.map (·.1) ↔ ∃ x ∈ (m.map (·.1)).take i, ∃ j, j < x.length ∧ k = x.eraseIdx j)
    ⟨[], none, none, rfl, .refl _ _, en0, by simp, fun k => by simp⟩ (fun i σ H' _ ⟨_, _, _, _, k, _⟩ => k.keep d _ dn upd_same) ?_ ?_⟩⟩
  · rintro i x σ H1 H2 hi ⟨mi, v, v', rfl, k, en, nn, hk⟩ ⟨rfl, s, hs, b, rfl, eb⟩
    have hsm := List.mem_of_getElem? hs
    have sS := (hm s hsm).1
    refine ⟨_, rfl, rln_tp eb ⟨(s.length : Int), rfl, by omega, by have := sS.len; omega, ?_⟩⟩
    rw [Int.toNat_natCast]
    refine for_it walk_range (fun j σ H' => ∃ (mi' : List (S × V)) (v' : Option V), σ = [some (.ref d), some (.ref n), some (.ref b), v'] ∧ Kp [n] (upd (upd H n (.dT [])) d (.frz od (dI m))) H' ∧ H' n = some (dI mi') ∧ (mi'.map (·.1)).Nodup ∧ H' b = some (tp s) ∧
        ∀ k, k ∈ mi'.map (·.1) ↔ k ∈ mi.map (·.1) ∨ ∃ j', j' < j ∧ k = s.eraseIdx j')
      ⟨mi, v', rfl, k, en, nn, eb, fun k => by simp⟩ (fun _ _ _ _ _ => True.intro) ?_ ?_
    · rintro j x σ H3 H4 hj ⟨mi', w', rfl, k3, en3, nn3, eb3, hk3⟩ ⟨rfl, rfl⟩
      -- inner[..] = True
      refine ⟨_, rfl, era_use (i := j) (b := b) (s := s) (fun H' Q' _ z => ⟨_, rfl, z⟩) (fun H' Q' _ z => ⟨_, rfl, by show Q' (.int (0 + (j : Int))) H'; rw [Int.zero_add]; exact z⟩) eb3 (Nat.le_trans sS.len (by decide)) hj fun H5 u k5 tu => ?_⟩
      have en5 := k5 _ _ en3
      have key : ∀ k', k' ∈ mi'.map (·.1) ∨ k' = s.eraseIdx j → Simp k' := fun k' h => by
        rcases h with h | h
        · rcases (hk3 k').mp h with h | ⟨j', hj', rfl⟩
          · obtain ⟨x, hx, j', _, rfl⟩ := (hk k').mp h
            exact ((hm x (List.mem_of_mem_take hx)).1).sub (erase_sub _ _)
          · exact sS.sub (erase_sub _ _)
        · rw [h]
          exact sS.sub (erase_sub _ _)
      have hlen : mi'.length ≤ 128 := rmax_len nn3 fun k' h => key k' (.inl h)
      refine ⟨n, _, rfl, dput en5 tu (Nat.lt_of_le_of_lt hlen (by decide)), ?_⟩
      have k6 : Kp [n] (upd (upd H n (.dT [])) d (.frz od (dI m))) (upd H5 n (dI (putI mi' (s.eraseIdx j) (.bl true)))) := (k3.trans (.of_same k5)).put' (by simp) en5 fun _ => dI_tup
      have tk6 : TK H5 (upd H5 n (dI (putI mi' (s.eraseIdx j) (.bl true)))) := tk_upd en5 fun _ => dI_tup
      refine ⟨_, _, rfl, k6, upd_same, putI_nodup nn3, tk6 _ _ (k5 _ _ eb3), fun k' => ?_⟩
      rw [putI_mem, hk3]
      constructor
      · rintro (h | h | ⟨j', hj', h⟩)
        · exact .inr ⟨j, Nat.lt_succ_self _, h⟩
        · exact .inl h
        · exact .inr ⟨j', Nat.lt_succ_of_lt hj', h⟩
      · rintro (h | ⟨j', hj', h⟩)
        · exact .inr (.inl h)
        · rcases Nat.lt_succ_iff_lt_or_eq.mp hj' with z | z
          · exact .inr (.inr ⟨j', z, h⟩)
          · subst z
            exact .inl h
    · rintro σ H3 ⟨mi', w', rfl, k3, en3, nn3, eb3, hk3⟩
      refine ⟨mi', _, _, rfl, k3, en3, nn3, fun k' => ?_⟩
      rw [hk3, hk, take_snocL hs]
      constructor
      · rintro (⟨x, hx, j, hj, h⟩ | ⟨j, hj, h⟩)
        · exact ⟨x, List.mem_append_left _ hx, j, hj, h⟩
        · exact ⟨s, by simp, j, hj, h⟩
      · rintro ⟨x, hx, j, hj, h⟩
        rcases List.mem_append.mp hx with hx | hx
        · exact .inl ⟨x, hx, j, hj, h⟩
        · rw [List.mem_singleton] at hx
          subst hx
          exact .inr ⟨j, hj, h⟩
  · rintro σ H1 ⟨mi, v, v', rfl, k, en, nn, hk⟩
    have ed1' := k.keep d _ dn upd_same
    refine ⟨ed1', ?_⟩
    rw [← hml, List.take_length] at hk
    -- behind the loop
    have s1 : Same H (upd H1 d (dI m)) := fun b o e => by
      by_cases hb : b = d
      · subst hb
        rw [upd_same, ← e, ed]
      · have hbn : b ≠ n := ne_of_none e hn
        rw [upd_ne hb]
        exact k.keep b o (by simpa using hbn) (by rw [upd_ne hb, upd_ne hbn]; exact e)
    have en1 : upd H1 d (dI m) n = some (dI mi) := by rw [upd_ne ndn.symm]; exact en
    refine ⟨d, dI m, upd_same, True.intro, fun od2 => ?_⟩
    have en2 : upd (upd H1 d (dI m)) d (.frz od2 (dI m)) n = some (dI mi) := by rw [upd_ne ndn.symm]; exact en1
    refine ⟨_, rfl, d, od2, rfl, .inr ⟨dL m, upd_same, fun D0 hD0 => ?_⟩⟩
    have n1 : d ∉ ([D0] : List Addr) := fun z => by
      have e : d = D0 := by simpa using z
      rw [← e, upd_same] at hD0
      cases hD0
    have n2 : n ∉ ([D0] : List Addr) := fun z => by
      have e : n = D0 := by simpa using z
      rw [← e, en2] at hD0
      cases hD0
    have flt : ∀ L : List S, ((L.filter fun k => decide (k ∉ mi.map (·.1)))).length ≤ L.length := fun L => List.length_filter_le ..
    refine lc_gen (walk_keysI (m := m)) hD0 (Nat.le_trans hz (by decide)) [] (by simp) (fun H' => H' d = some (.frz od2 (dI m)) ∧ H' n = some (dI mi)) (fun i acc H' => Tps H' acc (((m.map fun p : S × V => p.1).take i).filter fun k : S => decide (k ∉ mi.map fun p : S × V => p.1))) (fun H' H3 kk e => ⟨kk.keep d _ n1 e.1, kk.keep n _ n2 e.2⟩)
      (fun _ _ _ _ kk h => h.tk kk) (fun i acc _ h => by have := flt ((m.map (·.1)).take i); rw [pd_len h]; rw [List.length_take] at this; omega) (fun H' _ e => e.1) ⟨upd_same, en2⟩ (by simpa using Paired.nil) (fun i x H2 H3 acc hi k2 j pp eD y K1 K0 c1 c0 => ?_) (fun H2 acc k2 j pp eD => ?_)
    · obtain ⟨rfl, s, hs, ts⟩ := y
      refine ⟨rfl, _, rfl, _, rfl, n, _, rfl, dget j.2 ts, _, rfl, ?_⟩
      rw [getI_isSome]
      by_cases hin : s ∈ mi.map (·.1)
      · rw [decide_eq_true hin]
        refine iteF (c0 _ (.refl _ _) j ?_)
        rw [take_snocL hs, List.filter_append, List.filter_cons_of_neg (by simpa using hin), List.filter_nil, List.append_nil]
        exact pp
      · rw [decide_eq_false hin]
        refine iteT ⟨_, rfl, c1 _ _ (.refl _ _) j ?_⟩
        rw [take_snocL hs, List.filter_append, List.filter_cons_of_pos (by simpa using hin), List.filter_nil]
        exact pd_snoc pp ts
    · refine ⟨j.1, ?_⟩
      rw [← hml, List.take_length] at pp
      have tku : TK H2 (upd H2 d (dI m)) := tk_unlock j.1
      have n3 : D0 ≠ d := fun z => n1 (by simp [z])
      have k3 : Same (upd H1 d (dI m)) (upd H2 d (dI m)) := unlock_same upd_same k2.same
      refine srt_use (SqL.of (by rw [upd_ne n3]; exact eD)) (L2.Paired.mapP pp fun _ _ z => iskey_S (z.tk tku)) (fun s hs => ?_) (fun s _ t _ => cmp_S s t) fun ys ts' p perm py srt hp => ?_
      · have h1 := (hm s ((List.mem_filter.mp hs).1)).2
        cases s with
        | nil => exact absurd rfl h1
        | cons a s => exact True.intro
      · have strict := strict_perm kS_inj perm (nd.sublist List.filter_sublist) srt
        refine ⟨p, ys, rfl, .inl ⟨SqL.of upd_same, fun u hu => ?_⟩⟩
        have kp : Kp [] (upd H2 d (dI m)) (upd (upd (upd H2 d (dI m)) p (.lst ys)) u (.tup ys)) := (Kp.new hp).new' hu
        have hu0 : H u = none := (s1.trans k3).free ((Kp.new (S := []) hp).free hu)
        refine q _ u ys ts' ((s1.trans k3).trans kp.same) hu0 upd_same (L2.Paired.mapP py fun _ _ z => (of_iskey_S z).tk kp.tups) (strict.imp fun {a b} h => by rw [kS_lt] at h; exact h) fun t => ?_
        rw [perm.mem_iff, List.mem_filter]
        have : t ∈ mi.map (·.1) ↔ Inner (· ∈ m.map (·.1)) t := by
          rw [hk]
          unfold Inner
          constructor
          · rintro ⟨x, h1, j, h2, h3⟩
            exact ⟨x, j, h1, h2, h3⟩
          · rintro ⟨x, j, h1, h2, h3⟩
            exact ⟨x, h1, j, h2, h3⟩
        rw [← this]
        simp
end
end K18

set_option linter.all false
set_option Elab.async false
set_option maxRecDepth 100000
set_option maxHeartbeats 4000000
namespace K18
open PySem PySem.Spec PyProof.Rows L2 SH

/-! ### Complex -/
abbrev sCI : Stmt := inClass (top 22) 0
abbrev sCE : Stmt := inClass (top 22) 2
abbrev sFI : Stmt := inClass (top 29) 0
abbrev sFT : Stmt := inClass (top 29) 1
abbrev sFE : Stmt := inClass (top 29) 2
structure Obs (K : PySem.W.Frag) : Prop where
  hn : PySem.W.specialIn K (.builtin "object.__class__") "__get__" = some (some (.builtin "getset_descriptor.__get__"))
  ht : PySem.W.takesIn K (.builtin "object.__class__") = some true
structure CxT (K : PySem.W.Frag) (mg : Str → Option Value) (C : Addr) : Prop where
  cl : Cls K C
  nF : NoAttr K C "faces"
  nT : NoAttr K C "tops"
  mgC : mg "Complex" = some (.ref C)
  ca : PySem.W.findIn K (.ref C) "__class__" = some (some (.builtin "object.__class__"))
  cm : PySem.W.mroIn K C (.type "object") = some true
  k1 : PySem.W.kitOne K (.ref C) (.ref C) = some true
  k2 : PySem.W.kitOne K (.type "tuple") (.ref C) = some false
theorem ft_ : ¬ (("faces" : Str) = "tops") := by decide +kernel
def cf (d t : Addr) : List (Str × V) := putF "tops" (.ref t) (putF "faces" (.ref d) [])
theorem cf_faces (d t : Addr) : (cf d t).lookup ("faces" : Str) = some (.ref d) := by
  unfold cf
  rw [lookup_putF, if_neg ft_, lookup_putF, if_pos rfl]
theorem cf_tops (d t : Addr) : (cf d t).lookup ("tops" : Str) = some (.ref t) := by
  unfold cf
  rw [lookup_putF, if_pos rfl]
theorem c1_faces (d : Addr) : (putF "faces" (.ref d) []).lookup ("faces" : Str) = some (.ref d) := by
  rw [lookup_putF, if_pos rfl]
/-- at x: a Complex of the faces F -/
structure CxO (C : Addr) (H : Hp) (x : Addr) (F : S → Prop) : Prop where
  ex : ∃ (dx d t : Addr) (m : List (S × V)) (bt : List V) (T : List S), H x = some (.ins C dx (cf d t)) ∧ H d = some (dI m) ∧ (m.map (·.1)).Nodup ∧ (∀ k, k ∈ m.map (·.1) ↔ F k) ∧ H t = some (.tup bt) ∧ Tps H bt T ∧ T.Pairwise (fun s t => ltS s t = true) ∧ ∀ s, s ∈ T ↔ F s ∧ ¬ Inner F s
theorem CxO.kp {C : Addr} {H H' : Hp} {x : Addr} {F : S → Prop} {R : List Addr} (h : CxO C H x F) (k : Kp R H H') (hR : ∀ r ∈ R, ∃ xs, H r = some (.lst xs)) : CxO C H' x F := by
  obtain ⟨dx, d, t, m, bt, T, e1, e2, nd, hm, e3, h1, h2, h3⟩ := h.ex
  have nx : x ∉ R := fun z => by
    obtain ⟨xs, e⟩ := hR x z
    rw [e1] at e
    cases e
  have ndd : d ∉ R := fun z => by
    obtain ⟨xs, e⟩ := hR d z
    rw [e2] at e
    cases e
  exact ⟨dx, d, t, m, bt, T, k.keep _ _ nx e1, k.keep _ _ ndd e2, nd, hm, k.tups _ _ e3, h1.tk k.tups, h2, h3⟩
theorem CxO.same {C : Addr} {H H' : Hp} {x : Addr} {F : S → Prop} (h : CxO C H x F) (k : Same H H') : CxO C H' x F := h.kp (.of_same (S := []) k) (by simp)
def spCI (C : Addr) : Sp := fun vs H Q _ => ∃ (x dx a : Addr) (bs : List V) (L : List S), vs = [.ref x, .ref a] ∧ H x = some (.ins C dx []) ∧ H a = some (.tup bs) ∧ Tps H bs L ∧ L.length ≤ 400 ∧ (∀ s ∈ L, Simp s ∧ s ≠ []) ∧
  ∀ H', Kp [x] H H' → CxO C H' x (IsFace L) → Q .non H'
section
variable {P : Program} {w : World} {K : PySem.W.Frag} {mg : Str → Option Value} {base : Heap}
theorem scCI : FnScope ["self", "simplices", "index", "simplex"] ["self", "simplices"] (defScope sCI) := ⟨rfl, rfl, rfl, by decide +kernel, rfl, by decide +kernel, by decide +kernel⟩
theorem ok_cinit {f C : Addr} {fd : FuncData} (Fn : Fun K "__init__" "Complex.__init__" sCI f fd) (B : Bt mg) (T : CxT K mg C) (D3 : Df P w K mg base CX0 1 "is_list" ["value", "least", "most"] (spIsList K)) (D17 : Df P w K mg base CX0 4 "is_simplex" ["value"] spSimp)
    (D19 : Df P w K mg base CX0 2 "generated" ["simplices"] spGen) (D21 : Df P w K mg base CX0 1 "maximal" ["faces"] spMax) : FnOk P w K mg base CX0 5 f fd ["self", "simplices"] (spCI C) := by
  refine Fn.ok scCI (fun vs H Q E h => by obtain ⟨x, dx, a, bs, L, rfl, _⟩ := h; rfl) (fun cdv A outer s0 H vs Q E hr h => ?_)
  obtain ⟨x, dx, a, bs, L, rfl, ex, ea, hT, hz, hL, q⟩ := h
  obtain ⟨tv, mF⟩ := B.mF
  refine ⟨_, pss_cons (ps_if (pt_not (pt_val (pe_df D3 hr (by decide) (by rfl) pass0 (pa_cons (pv 1) (pa_cons pe_int (pa_cons (pe_glob (v := .int 400) (by rfl) mF ⟨_, rfl⟩) pa_nil)))))) (pss_one ps_never) pss_nil)
    (pss_cons (ps_for PassesOwn.never rfl (pi_enumT (by rfl) B.enum (pa_cons (pv 1) pa_nil)) (pg_tup rfl (pgs_cons (pg_name (i := 2) scCI.nd rfl (.inl rfl)) (pgs_cons (pg_name (i := 3) scCI.nd rfl (.inl rfl)) pgs_nil)))
      (pss_one (ps_if (pt_not (pt_val (pe_df D17 hr (by decide) (by rfl) pass0 (pa_cons (pv 3) pa_nil)))) (pss_one ps_never) pss_nil)))
    (pss_cons (ps_fld (pv 0) (pe_df D19 hr (by decide) (by rfl) pass0 (pa_cons (pv 1) pa_nil)) rfl)
    (pss_one (ps_fld (pv 0) (pe_df D21 hr (by decide) (by rfl) pass0 (pa_cons (pe_fld (pv 0) rfl) pa_nil)) rfl)))), ?_⟩
  have hbl := pd_len hT
  refine ⟨_, rfl, _, some bs.length, 0, 400, rfl, .tup ea, true, ?_, ?_⟩
  · have h1 : (0 : Int) ≤ (bs.length : Int) := by omega
    have h2 : (bs.length : Int) ≤ 400 := by omega
    simp [h1, h2]
  refine iteF ?_
  refine ⟨_, rfl, a, bs, rfl, SqT.of ea, for_it walk_enumT (fun i σ H' => ∃ v v' : Option V, σ = [some (.ref x), some (.ref a), v, v'] ∧ Same H H') ⟨none, none, rfl, .refl _⟩ (fun i σ H' _ ⟨_, _, _, k⟩ => SqT.of (k _ _ ea)) ?_ ?_⟩
  · rintro i y σ H1 H2 hi ⟨v, v', rfl, k⟩ ⟨T0, u, z, rfl, hT0, rfl, hu, hz'⟩
    have hz' : bs[i]? = some z := hz'
    obtain ⟨s, hs, b, rfl, eb⟩ := pd_get hT hz'
    have sL := hL s (List.mem_of_getElem? hs)
    have k2 : Same H1 (upd H1 T0 (.tup [u, .ref b])) := (Kp.new (S := []) hT0).same
    refine g2_at upd_same ⟨_, rfl, b, s, rfl, k2 _ _ (k _ _ eb), sL.2, sL.1, fun H3 k3 => ?_⟩
    refine ⟨true, rfl, iteF ⟨_, _, rfl, (k.trans k2).trans k3⟩⟩
  · rintro σ H1 ⟨v, v', rfl, k⟩
    -- self.faces
    refine ⟨_, rfl, a, bs, L, rfl, .inr (k _ _ ea), Nat.le_trans (by omega : bs.length ≤ 400) (by decide), Tps.tk hT (Kp.of_same (S := []) k).tups, hL, fun H2 d m k2 hd ed nd hm => ?_⟩
    have kx : Same H H2 := k.trans k2
    refine ⟨_, rfl, x, C, dx, [], rfl, kx _ _ ex, T.cl, T.nF, by show 0 < 1000; decide, ?_⟩
    -- self.tops
    have hd0 : H d = none := k.free hd
    have nxd : d ≠ x := fun z => by
      rw [z, ex] at hd0
      cases hd0
    have ed3 : upd H2 x (.ins C dx (putF "faces" (.ref d) [])) d = some (dI m) := by rw [upd_ne nxd]; exact ed
    refine ⟨_, rfl, x, C, dx, _, _, rfl, upd_same, T.cl, T.nF, c1_faces d, d, m, rfl, ed3, nd, fun k' hk' => ?_, fun H3 t bt Tt k3 ht et htt hsrt htm => ?_⟩
    · have fk := (hm k').mp hk'
      exact ⟨IsFace.simp (fun s hs => (hL s hs).1) fk, fk.1⟩
    · have ex3 := k3 _ _ (upd_same (H := H2) (a := x) (o := .ins C dx (putF "faces" (.ref d) [])))
      refine ⟨_, rfl, x, C, dx, _, rfl, ex3, T.cl, T.nT, by show 1 < 1000; decide, ?_⟩
      have kA : Kp [x] H (upd H2 x (.ins C dx (putF "faces" (.ref d) []))) := (Kp.of_same kx).put' (by simp) (kx _ _ ex) fun _ => ins_tup
      have kB : Kp [x] H (upd H3 x (.ins C dx (cf d t))) := (kA.trans (.of_same k3)).put' (by simp) ex3 fun _ => ins_tup
      have tkB : TK H3 (upd H3 x (.ins C dx (cf d t))) := tk_upd ex3 fun _ => ins_tup
      refine q _ kB ⟨dx, d, t, m, bt, Tt, upd_same, by rw [upd_ne nxd]; exact k3 _ _ ed3, nd, hm, tkB _ _ et, htt.tk tkB, hsrt, fun s => ?_⟩
      rw [htm, hm]
      have : Inner (· ∈ m.map (·.1)) s ↔ Inner (IsFace L) s := by
        unfold Inner
        constructor
        · rintro ⟨y, i, h1, h2, h3⟩
          exact ⟨y, i, (hm y).mp h1, h2, h3⟩
        · rintro ⟨y, i, h1, h2, h3⟩
          exact ⟨y, i, (hm y).mpr h1, h2, h3⟩
      rw [this]
end
end K18

set_option linter.all false
set_option Elab.async false
set_option maxRecDepth 100000
set_option maxHeartbeats 4000000
namespace K18
open PySem PySem.Spec PyProof.Rows L2 SH

/-! ### equality of tuples of ints, of simplices -/
abbrev dInts (s : List Int) : PyData := .tuple (s.map .int)
abbrev dSimps (L : List S) : PyData := .tuple (L.map dInts)
theorem lay_ints : ∀ s : List Int, PyData.canLayAll0 (s.map PyData.int) = true ∧ PyData.depthAll (s.map PyData.int) ≤ 1
  | [] => ⟨rfl, by simp [PyData.depthAll]⟩
  | a :: s => by
    obtain ⟨h1, h2⟩ := lay_ints s
    refine ⟨by simp [PyData.canLayAll0, PyData.canLay0, h1], ?_⟩
    simp only [List.map_cons, PyData.depthAll, PyData.depth]
    omega
theorem lay_simps : ∀ L : List S, PyData.canLayAll0 (L.map dInts) = true ∧ PyData.depthAll (L.map dInts) ≤ 2
  | [] => ⟨rfl, by simp [PyData.depthAll]⟩
  | s :: L => by
    obtain ⟨h1, h2⟩ := lay_simps L
    obtain ⟨h3, h4⟩ := lay_ints s
    refine ⟨by simp [PyData.canLayAll0, PyData.canLay0, h1, h3], ?_⟩
    simp only [List.map_cons, PyData.depthAll, PyData.depth]
    omega
theorem shp_ints (s : List Int) : SeqAt.shaped (dInts s) = true := by
  obtain ⟨h1, h2⟩ := lay_ints s
  unfold SeqAt.shaped
  have : (dInts s).depth ≤ 64 := by simp only [PyData.depth]; omega
  simp [PyData.canLay0, h1, this]
theorem shp_simps (s : List S) : SeqAt.shaped (dSimps s) = true := by
  obtain ⟨h1, h2⟩ := lay_simps s
  unfold SeqAt.shaped
  have : (dSimps s).depth ≤ 64 := by simp only [PyData.depth]; omega
  simp [PyData.canLay0, h1, this]
theorem dpAll_ints {K : PySem.W.Frag} {H : Hp} : ∀ s : List Int, DpAll K H (s.map V.int) (s.map PyData.int)
  | [] => .nil
  | a :: s => .cons (.int a) (dpAll_ints s)
theorem dp_ints {K : PySem.W.Frag} {H : Hp} {a : Addr} {s : List Int} (h : H a = some (.tup (s.map V.int))) : Dp K H (.ref a) (dInts s) := .tup (SqT.of h) (dpAll_ints s)
theorem dpAll_simps {K : PySem.W.Frag} {H : Hp} {bs : List V} {L : List S} (h : Tps H bs L) : DpAll K H bs (L.map dInts) := by
  induction h with
  | nil => exact .nil
  | cons r _ ih =>
    obtain ⟨a, rfl, e⟩ := r
    exact .cons (dp_ints e) ih
theorem dp_simps {K : PySem.W.Frag} {H : Hp} {a : Addr} {bs : List V} {L : List S} (h : H a = some (.tup bs)) (t : Tps H bs L) : Dp K H (.ref a) (dSimps L) := .tup (SqT.of h) (dpAll_simps t)
/-! ### Complex.__eq__, need_complex, made, simplices_of -/
def spCE (C : Addr) : Sp := fun vs H Q _ => ∃ (x : Addr) (F : S → Prop), vs = [.ref x, .ref x] ∧ CxO C H x F ∧ Q (.bl true) H
theorem cx_ty {K : PySem.W.Frag} {mg : Str → Option Value} {C dx x : Addr} {H : Hp} {fs : List (Str × V)} (T : CxT K mg C) (O : Obs K) (e : H x = some (.ins C dx fs)) : TyX K H (.ref x) (.ref C) := .base (.ins e T.cl T.ca O.hn O.ht T.cm)
section
variable {P : Program} {w : World} {K : PySem.W.Frag} {mg : Str → Option Value} {base : Heap}
theorem scCE : FnScope ["self", "other"] ["self", "other"] (defScope sCE) := ⟨rfl, rfl, rfl, by decide +kernel, rfl, by decide +kernel, by decide +kernel⟩
theorem ok_ceq {f C : Addr} {fd : FuncData} (Fn : Fun K "__eq__" "Complex.__eq__" sCE f fd) (B : Bt mg) (O : Obs K) (T : CxT K mg C) : FnOk P w K mg base CX0 1 f fd ["self", "other"] (spCE C) := by
  refine Fn.ok scCE (fun vs H Q E h => by obtain ⟨x, F, rfl, _⟩ := h; rfl) (fun cdv A outer s0 H vs Q E hr h => ?_)
  obtain ⟨x, F, rfl, hx, q⟩ := h
  refine ⟨_, pss_one (ps_ret (pe_and (pe_callB call_isi (by rfl) B.isi (by decide +kernel) (pa_cons (pv 1) (pa_cons (pe_glob (v := .ref C) (by rfl) T.mgC rfl) pa_nil)))
    (pe_one (pe_cmpR (op_eqD hr.units) (pe_fld (pv 0) rfl) (pe_fld (pv 1) rfl) (nomark _))))), ?_⟩
  obtain ⟨dx, d, t, m, bt, Tt, e1, e2, nd, hm, e3, h1, h2, h3⟩ := hx.ex
  refine ⟨_, rfl, _, _, _, _, true, rfl, .own C, cx_ty T O e1, T.k1, true, rfl, iteT ⟨_, rfl, x, C, dx, _, _, rfl, e1, T.cl, T.nT, cf_tops d t, _, rfl, x, C, dx, _, _, rfl, e1, T.cl, T.nT, cf_tops d t, ?_⟩⟩
  refine ⟨dSimps Tt, dSimps Tt, dp_simps e3 h1, dp_simps e3 h1, shp_simps Tt, shp_simps Tt, ?_⟩
  rw [SeqAt.eqv_refl (dSimps Tt) (SeqAt.canLay_of_shaped (shp_simps Tt))]
  exact q
/-- a class of exceptions without a text of its own -/
structure EcT (K : PySem.W.Frag) (mg : Str → Option Value) (x : Str) (C : Addr) : Prop where
  mgC : mg x = some (.ref C)
  ex : PySem.W.excIn K C [.type "ValueError", .type "Exception", .type "BaseException", .type "object"] "ValueError.__new__" = true
  kp : PySem.W.keepIn K (.ref C) = true
  sb : PySem.W.subIn K (.ref C) (.type "BaseException") = some true
  ty : PySem.W.typeIn K (.ref C) = some (.type "type")
def spNC (C NC : Addr) : Sp := fun vs H Q E => ∃ x : Addr, vs = [.ref x] ∧ ((∃ dx fs, H x = some (.ins C dx fs) ∧ Q .non H) ∨ (∃ xs, H x = some (.tup xs) ∧ E (.ref NC) none H))
theorem sc23 : FnScope ["value"] ["value"] (defScope (top 23)) := ⟨rfl, rfl, rfl, by decide +kernel, rfl, by decide +kernel, by decide +kernel⟩
theorem ok_need_complex {C NC : Addr} (D : Dx K mg "need_complex" (top 23) ["value"]) (B : Bt mg) (O : Obs K) (T : CxT K mg C) (N : EcT K mg "NotComplex" NC) : Df P w K mg base (L2.CX P w) 1 "need_complex" ["value"] (spNC C NC) := by
  refine D.okX sc23 (fun vs H Q E h => by obtain ⟨x, rfl, _⟩ := h; rfl) (fun f cdv A outer s0 H vs Q E hr h => ?_)
  obtain ⟨x, rfl, h⟩ := h
  refine ⟨_, pss_one (ps_if (pt_not (pt_val (pe_callB call_isi (by rfl) B.isi (by decide +kernel) (pa_cons (pv 0) (pa_cons (pe_glob (v := .ref C) (by rfl) T.mgC rfl) pa_nil)))))
    (pss_one (ps_raise rfl (takes_of rfl rfl rfl rfl) (pmk_own0 PySem.F.excBase_ValueError N.ex N.mgC N.kp (raises_own N.sb N.ty) (by rfl)))) pss_nil), ?_⟩
  rcases h with ⟨dx, fs, e, q⟩ | ⟨xs, e, q⟩
  · exact ⟨_, rfl, _, _, _, _, true, rfl, .own C, cx_ty T O e, T.k1, true, rfl, iteF q⟩
  · exact ⟨_, rfl, _, _, _, _, false, rfl, .own C, .base (.tup e), T.k2, false, rfl, iteT q⟩
end
end K18

set_option linter.all false
set_option Elab.async false
set_option maxRecDepth 100000
set_option maxHeartbeats 4000000
namespace K18
open PySem PySem.Spec PyProof.Rows L2 SH

/-! ### made, simplices_of -/
/-- a class that can be made -/
structure MkD (P : Program) (w : World) (K : PySem.W.Frag) (mg : Str → Option Value) (base : Heap) (CX : CXT) (k : Nat) (C : Addr) (ps : List Str) (sp : Sp) : Prop where
  ex : ∃ f fd, Mk K C f ∧ FnOk P w K mg base CX k f fd ps sp ∧ Binds K fd ps []
theorem pe_mkd {X : Cx} {CX : CXT} {k j : Nat} {C : Addr} {x : Str} {ps : List Str} {sp : Sp} {E : XK} {p pos : Pos} {e : Expr} {es : List Expr} {t : TA} (D : MkD X.prog X.w X.K X.mg X.base CX k C ps sp) (hr : Room j X.A) (hk : k + 1 ≤ j) (hg : Gl X x) (hm : X.mg x = some (.ref C)) (hx : Passes CX X E) (ha : PA X (e :: es) t)
    (hdb : (x == ("__debug__" : Str)) = false := by decide) (he : starEach (e :: es) X.env = (false, eval e X.env) :: starEach es X.env := by rfl) (hpl : (backTo pos (starEach es X.env)).any (·.1) = false := by rfl) : PE X (.Call (.Name x p) (e :: es) [] pos) (tMake C sp [] E t) := by
  obtain ⟨f, fd, M, F, b⟩ := D.ex
  exact pe_make M F (hr.mono hk) hg hm b .nil hx ha hdb he hpl
theorem CxO.congr {C : Addr} {H : Hp} {x : Addr} {F G : S → Prop} (h : CxO C H x F) (e : ∀ k, F k ↔ G k) : CxO C H x G := by
  have : F = G := funext fun k => propext (e k)
  rw [← this]
  exact h
def spMade (C : Addr) : Sp := fun vs H Q _ => ∃ (a : Addr) (bs : List V) (L : List S), vs = [.ref a] ∧ SqE H a bs ∧ bs.length ≤ 1000 ∧ Tps H bs L ∧ (∀ s ∈ L, Simp s ∧ s ≠ []) ∧ ∀ (H' : Hp) (x : Addr), Same H H' → H x = none → CxO C H' x (IsFace L) → Q (.ref x) H'
def spSO (C : Addr) : Sp := fun vs H Q _ => ∃ (x : Addr) (F : S → Prop), vs = [.ref x] ∧ CxO C H x F ∧ (∀ k, F k → Simp k) ∧ ∀ (H' : Hp) (p : Addr) (bs : List V) (L : List S), Same H H' → H p = none → H' p = some (.lst bs) → Tps H' bs L → L.Pairwise (fun s t => ltF s t = true) → (∀ k, k ∈ L ↔ F k) → Q (.ref p) H'
section
variable {P : Program} {w : World} {K : PySem.W.Frag} {mg : Str → Option Value} {base : Heap}
theorem sc24 : FnScope ["simplices"] ["simplices"] (defScope (top 24)) := ⟨rfl, rfl, rfl, by decide +kernel, rfl, by decide +kernel, by decide +kernel⟩
theorem ok_made {C : Addr} (D : Dx K mg "made" (top 24) ["simplices"]) (T : CxT K mg C) (I : MkD P w K mg base CX0 5 C ["self", "simplices"] (spCI C))
    (D19 : Df P w K mg base CX0 2 "generated" ["simplices"] spGen) (D21 : Df P w K mg base CX0 1 "maximal" ["faces"] spMax) : Df P w K mg base CX0 7 "made" ["simplices"] (spMade C) := by
  refine D.ok sc24 (fun vs H Q E h => by obtain ⟨a, bs, L, rfl, _⟩ := h; rfl) (fun f cdv A outer s0 H vs Q E hr h => ?_)
  obtain ⟨a, bs, L, rfl, ea, hz, hT, hL, q⟩ := h
  refine ⟨_, pss_one (ps_ret (pe_mkd I hr (by decide) (by rfl) T.mgC pass0 (pa_cons (pe_df D21 hr (by decide) (by rfl) pass0 (pa_cons (pe_df D19 hr (by decide) (by rfl) pass0 (pa_cons (pv 0) pa_nil)) pa_nil)) pa_nil))), ?_⟩
  refine ⟨_, rfl, a, bs, L, rfl, ea, hz, hT, hL, fun H1 d m k1 hd ed nd hm => ?_⟩
  have key : ∀ k ∈ m.map (·.1), Simp k ∧ k ≠ [] := fun k h => by
    have f := (hm k).mp h
    exact ⟨IsFace.simp (fun s hs => (hL s hs).1) f, f.1⟩
  refine ⟨d, m, rfl, ed, nd, key, fun H2 t bt Tt k2 ht et htt hsrt htm => ?_⟩
  intro x dx hx hdx ne
  have hx2 : upd (upd H2 dx (.own x)) x (.ins C dx []) x = some (.ins C dx []) := upd_same
  have k3 : Same H2 (upd (upd H2 dx (.own x)) x (.ins C dx [])) := (Kp.new (S := []) hdx |>.new' (by rw [upd_ne ne.symm]; exact hx)).same
  have tk3 : TK H2 (upd (upd H2 dx (.own x)) x (.ins C dx [])) := fun b xs e => k3 b _ e
  have inn : ∀ s, Inner (· ∈ m.map (·.1)) s ↔ Inner (IsFace L) s := fun s => by
    unfold Inner
    constructor
    · rintro ⟨y, i, h1, h2, h3⟩
      exact ⟨y, i, (hm y).mp h1, h2, h3⟩
    · rintro ⟨y, i, h1, h2, h3⟩
      exact ⟨y, i, (hm y).mpr h1, h2, h3⟩
  have tl : Tt.length ≤ 128 := simps_len (nodup_of_strict sto_S hsrt) fun s hs => (key s ((htm s).mp hs).1).1
  refine ⟨x, dx, t, bt, Tt, rfl, hx2, k3 _ _ et, htt.tk tk3, by omega, fun s hs => key s ((htm s).mp hs).1, fun H4 k4 hx4 => ⟨rfl, q H4 x ?_ ?_ (hx4.congr fun k => ?_)⟩⟩
  · refine (k1.trans k2).trans fun b o e => ?_
    have nb : b ≠ x := ne_of_none e hx
    exact k4.keep b o (by simpa using nb) (k3 b o e)
  · exact (k1.trans k2).free hx
  · refine tops_gen (P := IsFace L) (fun s h => IsFace.simp (fun s hs => (hL s hs).1) h) (fun s h => h.1) (fun p s h hp hs => h.sub hp hs) (fun s => ?_) k
    rw [htm, hm, inn]
theorem sc25 : FnScope ["shape"] ["shape"] (defScope (top 25)) := ⟨rfl, rfl, rfl, by decide +kernel, rfl, by decide +kernel, by decide +kernel⟩
theorem ok_simplices_of {C NC : Addr} (D : Dx K mg "simplices_of" (top 25) ["shape"]) (T : CxT K mg C) (D23 : Df P w K mg base (L2.CX P w) 1 "need_complex" ["value"] (spNC C NC))
    (D20 : Df P w K mg base CX0 1 "in_order" ["simplices"] spOrder) : Df P w K mg base CX0 2 "simplices_of" ["shape"] (spSO C) := by
  refine D.ok sc25 (fun vs H Q E h => by obtain ⟨x, F, rfl, _⟩ := h; rfl) (fun f cdv A outer s0 H vs Q E hr h => ?_)
  obtain ⟨x, F, rfl, hx, hF, q⟩ := h
  refine ⟨_, pss_cons (ps_expr (pe_df D23 hr (by decide) (by rfl) passL (pa_cons (pv 0) pa_nil))) (pss_one (ps_ret (pe_df D20 hr (by decide) (by rfl) pass0 (pa_cons (pe_fld (pv 0) rfl) pa_nil)))), ?_⟩
  obtain ⟨dx, d, t, m, bt, Tt, e1, e2, nd, hm, e3, h1, h2, h3⟩ := hx.ex
  refine ⟨_, rfl, x, rfl, .inl ⟨dx, _, e1, ?_⟩⟩
  refine ⟨_, rfl, x, C, dx, _, _, rfl, e1, T.cl, T.nF, cf_faces d t, d, m, rfl, e2, Nat.le_trans (rmax_len nd fun k h => hF k ((hm k).mp h)) (by decide), nd, fun H' p bs L k hp ep tp' hs perm => ?_⟩
  exact q H' p bs L k hp ep tp' hs fun k' => by rw [perm.mem_iff, hm]
end
end K18

set_option linter.all false
set_option Elab.async false
set_option maxRecDepth 100000
set_option maxHeartbeats 4000000
namespace K18
open PySem PySem.Spec PyProof.Rows L2 SH

/-! ### Filtration -/
structure FlT (K : PySem.W.Frag) (mg : Str → Option Value) (C : Addr) : Prop where
  cl : Cls K C
  nS : NoAttr K C "shape"
  nK : NoAttr K C "clock"
  nG : NoAttr K C "given"
  mgC : mg "Filtration" = some (.ref C)
  ca : PySem.W.findIn K (.ref C) "__class__" = some (some (.builtin "object.__class__"))
  cm : PySem.W.mroIn K C (.type "object") = some true
  k1 : PySem.W.kitOne K (.ref C) (.ref C) = some true
  k2 : PySem.W.kitOne K (.type "tuple") (.ref C) = some false
structure BtD (P : Program) (w : World) (K : PySem.W.Frag) (mg : Str → Option Value) (base : Heap) (BT : Addr) : Prop where
  T : OexC K BT
  mgC : mg "BadTimes" = some (.ref BT)
  ex : ∃ f fd, PySem.W.findIn K (.ref BT) "__init__" = some (some (.ref f)) ∧ PySem.W.typeIn K (.ref f) = some (.type "function") ∧ FnOk P w K mg base (L2.CX P w) 1 f fd ["self", "index"] (spSup K BT) ∧ Binds K fd ["self", "index"] []
theorem sk_ : ¬ (("shape" : Str) = "clock") := by decide +kernel
theorem sg_ : ¬ (("shape" : Str) = "given") := by decide +kernel
theorem kg_ : ¬ (("clock" : Str) = "given") := by decide +kernel
def ff1 (x : Addr) : List (Str × V) := putF "shape" (.ref x) []
def ff2 (x c : Addr) : List (Str × V) := putF "clock" (.ref c) (ff1 x)
def ff (x c t : Addr) : List (Str × V) := putF "given" (.ref t) (ff2 x c)
theorem ff_shape (x c t : Addr) : (ff x c t).lookup ("shape" : Str) = some (.ref x) := by
  unfold ff ff2 ff1
  rw [lookup_putF, if_neg sg_, lookup_putF, if_neg sk_, lookup_putF, if_pos rfl]
theorem ff_clock (x c t : Addr) : (ff x c t).lookup ("clock" : Str) = some (.ref c) := by
  unfold ff ff2 ff1
  rw [lookup_putF, if_neg kg_, lookup_putF, if_pos rfl]
theorem ff_given (x c t : Addr) : (ff x c t).lookup ("given" : Str) = some (.ref t) := by
  unfold ff ff2 ff1
  rw [lookup_putF, if_pos rfl]
/-- the clock of these faces -/
def vd (τ : S → Int) (L : List S) : List (S × V) := L.map fun f => (f, .int (τ f))
theorem vd_keys (τ : S → Int) (L : List S) : (vd τ L).map (·.1) = L := by
  unfold vd
  rw [List.map_map]
  exact List.map_id' L
theorem vd_get {τ : S → Int} {L : List S} (nd : L.Nodup) {f : S} (h : f ∈ L) : getI (vd τ L) f = some (.int (τ f)) :=
  getI_of_mem (by rw [vd_keys]; exact nd) (List.mem_map.mpr ⟨f, h, rfl⟩)
theorem vd_put {τ : S → Int} {L : List S} {f : S} (h : f ∉ L) : putI (vd τ L) f (.int (τ f)) = vd τ (L ++ [f]) := by
  rw [putI_new (by rw [vd_keys]; exact h)]
  simp [vd]
theorem vd_len (τ : S → Int) (L : List S) : (vd τ L).length = L.length := List.length_map ..
/-- at g: a Filtration of the Complex at x, these faces, these times -/
structure FlO (CF : Addr) (H : Hp) (g x t : Addr) (L : List S) (τ : S → Int) : Prop where
  ex : ∃ dx c, H g = some (.ins CF dx (ff x c t)) ∧ H c = some (dI (vd τ L)) ∧ H t = some (.tup ((L.map τ).map V.int))
theorem FlO.kp {CF : Addr} {H H' : Hp} {g x t : Addr} {L : List S} {τ : S → Int} {R : List Addr} (h : FlO CF H g x t L τ) (k : Kp R H H') (hR : ∀ r ∈ R, ∃ xs, H r = some (.lst xs)) : FlO CF H' g x t L τ := by
  obtain ⟨dx, c, e1, e2, e3⟩ := h.ex
  refine ⟨dx, c, k.keep _ _ (fun z => ?_) e1, k.keep _ _ (fun z => ?_) e2, k.tups _ _ e3⟩
  · obtain ⟨xs, e⟩ := hR g z
    rw [e1] at e
    cases e
  · obtain ⟨xs, e⟩ := hR c z
    rw [e2] at e
    cases e
theorem FlO.same {CF : Addr} {H H' : Hp} {g x t : Addr} {L : List S} {τ : S → Int} (h : FlO CF H g x t L τ) (k : Same H H') : FlO CF H' g x t L τ := h.kp (.of_same (S := []) k) (by simp)
/-- the faces, in their order -/
structure Fcs (F : S → Prop) (L : List S) : Prop where
  simp : ∀ k, F k → Simp k ∧ k ≠ []
  cl : ∀ p s, F s → p ≠ [] → p.Sublist s → F p
  srt : L.Pairwise (fun s t => ltF s t = true)
  mem : ∀ k, k ∈ L ↔ F k
theorem ltF_len {a b : S} (h : ltF a b = true) : a.length ≤ b.length := by
  unfold ltF ltK lexB at h
  by_cases e : a.length = b.length
  · omega
  · rw [if_neg (fun z => e (by injection z with z; omega))] at h
    have h : decide ((a.length : Int) < (b.length : Int)) = true := h
    have := of_decide_eq_true h
    omega
theorem Fcs.nd {F : S → Prop} {L : List S} (h : Fcs F L) : L.Nodup := nodup_of_strict sto_F h.srt
theorem Fcs.len {F : S → Prop} {L : List S} (h : Fcs F L) : L.length ≤ 128 := simps_len h.nd fun s hs => (h.simp s ((h.mem s).mp hs)).1
theorem Fcs.before {F : S → Prop} {L : List S} (h : Fcs F L) {i : Nat} {f p : S} (hf : L[i]? = some f) (hp : p ∈ L) (hl : p.length < f.length) : p ∈ L.take i := by
  obtain ⟨j, hj⟩ := List.getElem?_of_mem hp
  obtain ⟨li, ei⟩ := List.getElem?_eq_some_iff.mp hf
  obtain ⟨lj, ej⟩ := List.getElem?_eq_some_iff.mp hj
  by_cases c : j < i
  · rw [List.mem_take_iff_getElem]
    exact ⟨j, by omega, ej⟩
  · exfalso
    by_cases e : j = i
    · subst e
      rw [ei] at ej
      rw [ej] at hl
      omega
    · have z := List.pairwise_iff_getElem.mp h.srt i j li lj (by omega)
      rw [ei, ej] at z
      have := ltF_len z
      omega
theorem Fcs.part {F : S → Prop} {L : List S} (h : Fcs F L) {i : Nat} {f : S} (hf : L[i]? = some f) (hl : 1 < f.length) {j : Nat} (hj : j < f.length) : f.eraseIdx j ∈ L.take i := by
  have el := erase_len hj
  have Ff := (h.mem f).mp (List.mem_of_getElem? hf)
  refine h.before hf ((h.mem _).mpr (h.cl _ f Ff (fun z => ?_) (erase_sub f j))) (by omega)
  rw [z] at el
  simp at el
  omega
/-- a face's time is right -/
structure Good (τ : S → Int) (f : S) : Prop where
  lo : 0 ≤ τ f
  hi : τ f ≤ 1000
  up : 1 < f.length → ∀ j, j < f.length → τ (f.eraseIdx j) ≤ τ f
/-- .. is wrong -/
inductive Bad (K : PySem.W.Frag) (H : Hp) (τ : S → Int) (f : S) (v : V) : Prop where
  | no (h : Ask K H v none)
  | out (n : Int) (h : v = .int n) (o : ¬ (0 ≤ n ∧ n ≤ 1000))
  | low (n : Int) (h : v = .int n) (o : 0 ≤ n ∧ n ≤ 1000) (l : 1 < f.length) (j : Nat) (hj : j < f.length) (c : n < τ (f.eraseIdx j))
def spTime (K : PySem.W.Frag) : Sp := fun vs H Q _ => ∃ (v : V) (o : Option Int), vs = [v] ∧ Ask K H v o ∧ Q (.bl (match o with | some i => decide (0 ≤ i) && decide (i ≤ 1000) | none => false)) H
def spFI (K : PySem.W.Frag) (C CF NC BT : Addr) : Sp := fun vs H Q E => ∃ (g dx x : Addr) (t : V), vs = [.ref g, .ref x, t] ∧ H g = some (.ins CF dx []) ∧
  ((∃ xs, H x = some (.tup xs) ∧ E (.ref NC) none H) ∨
    ∃ (F : S → Prop) (L : List S), CxO C H x F ∧ Fcs F L ∧
      ((∃ o, AskT K H t o ∧ o ≠ some L.length ∧ ∀ (H' : Hp) (d : Addr), Same H H' → H d = none → H' d = some (.xd [("index", .non)]) → E (.ref BT) (some d) H') ∨
        ∃ (ta : Addr) (tv : List V) (τ : S → Int) (n : Nat), t = .ref ta ∧ H ta = some (.tup tv) ∧ tv.length = L.length ∧ (∀ i f, i < n → L[i]? = some f → tv[i]? = some (.int (τ f)) ∧ Good τ f) ∧
          ((n = L.length ∧ ∀ H', Kp [g] H H' → FlO CF H' g x ta L τ → Q .non H') ∨
            ∃ (f : S) (v : V), L[n]? = some f ∧ tv[n]? = some v ∧ Bad K H τ f v ∧ ∀ (H' : Hp) (d : Addr), Same H H' → H d = none → H' d = some (.xd [("index", .int (n : Int))]) → E (.ref BT) (some d) H')))
theorem Ask.same {K : PySem.W.Frag} {H H' : Hp} {v : V} {o : Option Int} (h : Ask K H v o) (k : Same H H') : Ask K H' v o := by
  cases h with
  | int i => exact .int i
  | non => exact .non
  | bl b => exact .bl b
  | str z => exact .str z
  | tup e => exact .tup (k _ _ e)
theorem AskT.same {K : PySem.W.Frag} {H H' : Hp} {v : V} {o : Option Nat} (h : AskT K H v o) (k : Same H H') : AskT K H' v o := by
  cases h with
  | int i => exact .int i
  | non => exact .non
  | lst e => exact .lst (k _ _ e)
  | tup e => exact .tup (k _ _ e)
theorem rln_lst {K : PySem.W.Frag} {H : Hp} {a : Addr} {xs : List V} {Q : VK} (h : H a = some (.lst xs)) (q : Q (.int (xs.length : Int)) H) : rLn K [.ref a] H Q := ⟨⟨a, _, rfl, .inl (SqL.of h), q⟩⟩
theorem nd_take {α : Type} {L : List α} (nd : L.Nodup) {i : Nat} {f : α} (h : L[i]? = some f) : f ∉ L.take i := fun m => by
  obtain ⟨li, ei⟩ := List.getElem?_eq_some_iff.mp h
  obtain ⟨j, hj, ej⟩ := List.mem_take_iff_getElem.mp m
  have := List.pairwise_iff_getElem.mp nd j i (by omega) li (by omega)
  rw [ei, ej] at this
  exact this rfl
/-- raise BadTimes(v) -/
theorem bt_use {K : PySem.W.Frag} {BT : Addr} {H : Hp} {v : V} {E : XK} (k : ∀ (H' : Hp) (d : Addr), Same H H' → H d = none → H' d = some (.xd [("index", v)]) → E (.ref BT) (some d) H') :
    [v].length ≤ 1000 ∧ ∀ a, H a = none → spSup K BT (.ref a :: ([v] ++ [])) (upd H a (exo a BT none)) (fun u H2 => u = .non ∧ ∃ (d : Addr) (fs : List (Str × V)), H2 a = some (exo a BT (some d)) ∧ H2 d = some (exd d fs) ∧ H d = none ∧ E (.ref BT) (some d) (upd (del H2 a) d (.xd fs))) (fun _ _ _ => False) := by
  refine ⟨by show 1 ≤ 1000; decide, fun a ha => ⟨a, v, rfl, upd_same, fun d hd hne => ⟨rfl, d, _, upd_same, by rw [upd_ne hne, upd_same], ?_, ?_⟩⟩⟩
  · rw [upd_ne hne] at hd
    exact hd
  · rw [upd_ne hne] at hd
    refine k _ d (fun b o e => ?_) hd upd_same
    have n1 : b ≠ a := ne_of_none e ha
    have n2 : b ≠ d := ne_of_none e hd
    rw [upd_ne n2, del_ne n1, upd_ne n1, upd_ne n2, upd_ne n1]
    exact e
section
variable {P : Program} {w : World} {K : PySem.W.Frag} {mg : Str → Option Value} {base : Heap}
theorem sc28 : FnScope ["value"] ["value"] (defScope (top 28)) := ⟨rfl, rfl, rfl, by decide +kernel, rfl, by decide +kernel, by decide +kernel⟩
theorem ok_is_time (D : Dx K mg "is_time" (top 28) ["value"]) (B : Bt mg) (D2 : Df P w K mg base CX0 2 "is_in" ["value", "least", "most"] (spIsIn K)) : Df P w K mg base CX0 3 "is_time" ["value"] (spTime K) := by
  refine D.ok sc28 (fun vs H Q E h => by obtain ⟨v, o, rfl, _⟩ := h; rfl) (fun f cdv A outer s0 H vs Q E hr h => ?_)
  obtain ⟨v, o, rfl, k, q⟩ := h
  obtain ⟨tv, mT⟩ := B.mT
  refine ⟨_, pss_one (ps_ret (pe_df D2 hr (by decide) (by rfl) pass0 (pa_cons (pv 0) (pa_cons pe_int (pa_cons (pe_glob (v := .int 1000) (by rfl) mT ⟨_, rfl⟩) pa_nil))))), ?_⟩
  exact ⟨_, rfl, v, o, 0, 1000, rfl, k, q⟩
abbrev nFI : List Str := ["self", "shape", "times", "simplices", "clock", "index", "simplex", "parts", "at", "part"]
theorem scFI : FnScope nFI ["self", "shape", "times"] (defScope sFI) := ⟨rfl, rfl, rfl, by decide +kernel, rfl, by decide +kernel, by decide +kernel⟩
theorem ok_finit {f C CF NC BT : Addr} {fd : FuncData} (Fn : Fun K "__init__" "Filtration.__init__" sFI f fd) (B : Bt mg) (T : CxT K mg C) (TF : FlT K mg CF) (TB : BtD P w K mg base BT) (D23 : Df P w K mg base (L2.CX P w) 1 "need_complex" ["value"] (spNC C NC))
    (D20 : Df P w K mg base CX0 1 "in_order" ["simplices"] spOrder) (D3 : Df P w K mg base CX0 1 "is_list" ["value", "least", "most"] (spIsList K)) (D28 : Df P w K mg base CX0 3 "is_time" ["value"] (spTime K)) : FnOk P w K mg base (L2.CX P w) 4 f fd ["self", "shape", "times"] (spFI K C CF NC BT) := by
  refine Fn.okX scFI (fun vs H Q E h => by obtain ⟨g, dx, x, t, rfl, _⟩ := h; rfl) (fun cdv A outer s0 H vs Q E hr h => ?_)
  obtain ⟨g, dx, x, t, rfl, eg, h⟩ := h
  have hu := hu_of hr
  obtain ⟨fI, fdI, iC, tI, F1, bI⟩ := TB.ex
  refine ⟨_, pss_cons (ps_expr (pe_df D23 hr (by decide) (by rfl) (passes_call (takes_of rfl rfl rfl rfl) fun _ _ _ _ z => z) (pa_cons (pv 1) pa_nil)))
    (pss_cons (ps_set (i := 3) scFI.nd rfl (.inl rfl) (pe_df D20 hr (by decide) (by rfl) pass0 (pa_cons (pe_fld (pv 1) rfl) pa_nil)))
    (pss_cons (ps_if (pt_not (pt_val (pe_df D3 hr (by decide) (by rfl) pass0 (pa_cons (pv 2) (pa_cons (pe_callB cr_len (by rfl) B.len PySem.boot_len (pa_cons (pv 3) pa_nil)) (pa_cons (pe_callB cr_len (by rfl) B.len PySem.boot_len (pa_cons (pv 3) pa_nil)) pa_nil))))))
      (pss_one (ps_raise rfl (takes_of rfl rfl rfl rfl) (pmk_oex TB.T iC tI F1 (hr.mono (by decide)) bI .nil passL (by rfl) TB.mgC (pa_cons pe_non pa_nil)))) pss_nil)
    (pss_cons (ps_set (i := 4) scFI.nd rfl (.inr rfl) pe_dnewT)
    (pss_cons (ps_for (passes_of rfl) rfl (pi_enum (by rfl) B.enum (pa_cons (pv 3) pa_nil)) (pg_tup rfl (pgs_cons (pg_name (i := 5) scFI.nd rfl (.inl rfl)) (pgs_cons (pg_name (i := 6) scFI.nd rfl (.inr rfl)) pgs_nil)))
      (pss_cons (ps_if (pt_not (pt_val (pe_df D28 hr (by decide) (by rfl) pass0 (pa_cons (pe_ix ix_tup (pv 2) (pv 5) (fun _ _ => rfl)) pa_nil))))
        (pss_one (ps_raise rfl (takes_of rfl rfl rfl rfl) (pmk_oex TB.T iC tI F1 (hr.mono (by decide)) bI .nil passL (by rfl) TB.mgC (pa_cons (pv 5) pa_nil)))) pss_nil)
      (pss_cons (ps_setLc (i := 7) (own := [("at", 8)]) (g := gName 8) (tt := tYes) (te := tEra K (tVar 6) (tVar 8)) rfl scFI.nd rfl rfl (sw_true rfl rfl rfl (by decide +kernel)) (pi_range1 (by rfl) B.range (pa_cons (pe_callB cr_len (by rfl) B.len PySem.boot_len (pa_cons (pv 6) pa_nil)) pa_nil))
        (blkOk_by (N := nFI) (sc := defScope sFI) (by decide +kernel)) (fun _ _ _ _ _ => pg_name (i := 8) scFI.nd rfl (Or.inl rfl)) (fun _ _ _ _ _ => pts_nil)
        (fun _ _ _ _ _ => pe_era (pe_op op_catA (pe_slice sl_tupA (pv 6) po_none (po_some (pv 8))) (pe_slice sl_tupA (pv 6) (po_some (pe_op op_add (pv 8) pe_int)) po_none))))
      (pss_cons (ps_if (PW.pt (pw_and (pt_cmpR op_gt (pe_callB cr_len (by rfl) B.len PySem.boot_len (pa_cons (pv 6) pa_nil)) pe_int (nomark _)) (pw_and1 (pt_cmpR op_gt (pe_callB (cr_max rfl) (by rfl) B.max (by decide +kernel) (pa_cons
          (pe_lc (own := [("part", 9)]) (g := gName 9) (tt := tYes) (te := tDGet (tVar 4) (tVar 9)) rfl scFI.nd (pi_list (pv 7)) (blkOk_by (N := nFI) (sc := defScope sFI) (by decide +kernel)) (fun _ _ _ _ _ => pg_name (i := 9) scFI.nd rfl (Or.inl rfl)) (fun _ _ _ _ _ => pts_nil)
            (fun _ _ _ _ _ => pe_dget hu (pv 4) (pv 9) (fun _ _ => rfl))) pa_nil)) (pe_ix ix_tup (pv 2) (pv 5) (fun _ _ => rfl)) (nomark _)))))
        (pss_one (ps_raise rfl (takes_of rfl rfl rfl rfl) (pmk_oex TB.T iC tI F1 (hr.mono (by decide)) bI .nil passL (by rfl) TB.mgC (pa_cons (pv 5) pa_nil)))) pss_nil)
      (pss_one (ps_dput hu (pv 4) (pv 6) (pe_ix ix_tup (pv 2) (pv 5) (fun _ _ => rfl)) rfl))))))
    (pss_cons (ps_fld (pv 0) (pv 1) rfl) (pss_cons (ps_fld (pv 0) (pv 4) rfl) (pss_one (ps_fld (pv 0) (pv 2) rfl)))))))), ?_⟩
  rcases h with ⟨xs, ex, q⟩ | ⟨F, L, hx, hF, h⟩
  · exact ⟨_, rfl, x, rfl, .inr ⟨xs, ex, q⟩⟩
  obtain ⟨dx', d, tt, m, bt, Tt, e1, e2, nd, hm, e3, h1, h2, h3⟩ := hx.ex
  refine ⟨_, rfl, x, rfl, .inl ⟨dx', _, e1, ?_⟩⟩
  refine ⟨_, rfl, x, C, dx', _, _, rfl, e1, T.cl, T.nF, cf_faces d tt, d, m, rfl, e2, Nat.le_trans (rmax_len nd fun k h => (hF.simp k ((hm k).mp h)).1) (by decide), nd, fun H1 p bs L' k1 hp ep tb hs perm => ?_⟩
  obtain rfl : L' = L := srt_uniq sto_F hs hF.srt fun k => by rw [perm.mem_iff, hm, hF.mem]
  have hbl := pd_len tb
  have hL128 := hF.len
  rcases h with ⟨o, ho, hne, q⟩ | ⟨ta, tv, τ, n, rfl, et, htl, hgood, h⟩
  · -- no tuple of the right length
    refine ⟨_, rfl, _, rfl, rln_lst ep ⟨_, rfl, rln_lst ep ⟨t, o, _, _, rfl, ho.same k1, false, ?_, iteT ?_⟩⟩⟩
    · cases o with
      | none => rfl
      | some k =>
        have : ¬ (k = L'.length) := fun z => hne (by rw [z])
        have h2 : (decide ((bs.length : Int) ≤ (k : Int)) && decide ((k : Int) ≤ (bs.length : Int))) = false := by
          by_cases c1 : (bs.length : Int) ≤ (k : Int)
          · have : ¬ ((k : Int) ≤ (bs.length : Int)) := by omega
            simp [this]
          · simp [c1]
        exact congrArg V.bl h2
    · exact bt_use fun H' d' k' hd' ed' => q H' d' (k1.trans k') (k1.free hd') ed'
  · have et1 := k1 _ _ et
    refine ⟨_, rfl, _, rfl, rln_lst ep ⟨_, rfl, rln_lst ep ⟨_, _, _, _, rfl, .tup et1, true, ?_, iteF ?_⟩⟩⟩
    · have h1 : (bs.length : Int) ≤ (tv.length : Int) := by omega
      have h2 : (tv.length : Int) ≤ (bs.length : Int) := by omega
      simp [h1, h2]
    refine fun c hc => ?_
    have ec0 : upd H1 c (.dT []) c = some (dI (vd τ (L'.take 0))) := upd_same
    have kc : Kp [] H1 (upd H1 c (.dT [])) := .new hc
    refine ⟨_, rfl, p, bs, rfl, SqL.of (kc.keep _ _ (by simp) ep), for_it walk_enum (fun i σ H' => ∃ v5 v6 v7 : Option V, σ = [some (.ref g), some (.ref x), some (.ref ta), some (.ref p), some (.ref c), v5, v6, v7, none, none] ∧ Kp [] H1 H' ∧ i ≤ n ∧ H' c = some (dI (vd τ (L'.take i))))
      ⟨none, none, none, rfl, kc, Nat.zero_le _, ec0⟩ (fun i σ H' _ ⟨_, _, _, _, k, _⟩ => SqL.of (k.keep _ _ (by simp) ep)) ?_ ?_⟩
    · rintro i y σ H2 H3 hi ⟨v5, v6, v7, rfl, k2, hin, ec⟩ ⟨T0, u, z0, rfl, hT0, rfl, hu0, hz0⟩
      have hu0 : some (V.int (i : Int)) = some u := hu0
      cases hu0
      have hz0 : bs[i]? = some z0 := hz0
      obtain ⟨f, hf, b, rfl, eb⟩ := pd_get tb hz0
      have kT : Kp [] H2 (upd H2 T0 (.tup [.int (i : Int), .ref b])) := .new hT0
      have k3 := k2.trans kT
      have ec3 := kT.keep _ _ (by simp) ec
      have eb3 := k3.tups _ _ eb
      have et3 := k3.tups _ _ et1
      have sf := hF.simp f ((hF.mem f).mp (List.mem_of_getElem? hf))
      have kH : Same H (upd H2 T0 (.tup [.int (i : Int), .ref b])) := k1.trans k3.same
      -- the outcome here
      have hcase : ∃ v, tv[i]? = some v ∧ (((∃ o, Ask K H v o ∧ (match o with | some i => decide (0 ≤ i) && decide (i ≤ 1000) | none => false) = false) ∧ ∀ (H' : Hp) (d : Addr), Same H H' → H d = none → H' d = some (.xd [("index", .int (i : Int))]) → E (.ref BT) (some d) H') ∨
          ∃ z, v = .int z ∧ 0 ≤ z ∧ z ≤ 1000 ∧ ((i < n ∧ z = τ f ∧ Good τ f) ∨ ((1 < f.length ∧ ∃ j, j < f.length ∧ z < τ (f.eraseIdx j)) ∧ ∀ (H' : Hp) (d : Addr), Same H H' → H d = none → H' d = some (.xd [("index", .int (i : Int))]) → E (.ref BT) (some d) H'))) := by
        by_cases c0 : i < n
        · obtain ⟨h1, h2⟩ := hgood i f c0 hf
          exact ⟨_, h1, .inr ⟨_, rfl, h2.lo, h2.hi, .inl ⟨c0, rfl, h2⟩⟩⟩
        · have e : i = n := by omega
          subst e
          rcases h with ⟨h, _⟩ | ⟨f', v, hf', hv, bad, q⟩
          · exact absurd (List.getElem?_eq_some_iff.mp hf).1 (by omega)
          · rw [hf] at hf'
            cases hf'
            refine ⟨v, hv, ?_⟩
            cases bad with
            | no a => exact .inl ⟨⟨none, a, rfl⟩, q⟩
            | out n' h o =>
              subst h
              refine .inl ⟨⟨some n', .int n', ?_⟩, q⟩
              by_cases a : 0 ≤ n'
              · have : ¬ n' ≤ 1000 := fun z => o ⟨a, z⟩
                simp [this]
              · simp [a]
            | low n' h o l j hj c => exact .inr ⟨n', h, o.1, o.2, .inr ⟨⟨l, j, hj, c⟩, q⟩⟩
      obtain ⟨v, hv, hcase⟩ := hcase
      refine g2_at upd_same ⟨_, rfl, _, rfl, ta, tv, _, v, rfl, rfl, SqT.of et3, atI_nat hv, ?_⟩
      rcases hcase with ⟨⟨o, ha, hb⟩, q⟩ | ⟨z, rfl, hz1, hz2, hcase⟩
      · refine ⟨v, o, rfl, ha.same kH, false, by rw [hb], iteT ⟨_, rfl, bt_use fun H' d' k' hd' ed' => q H' d' (kH.trans k') (kH.free hd') ed'⟩⟩
      · refine ⟨.int z, some z, rfl, .int z, true, by simp [hz1, hz2], iteF ?_⟩
        -- parts
        refine ⟨_, rfl, rln_tp eb3 ⟨(f.length : Int), rfl, by omega, by have := sf.1.len; omega, ?_⟩⟩
        rw [Int.toNat_natCast]
        refine fun D hD => ?_
        refine lc_gen walk_range hD (Nat.le_trans sf.1.len (by decide)) [] (by simp) (fun H' => H' b = some (tp f)) (fun j acc H' => Tps H' acc ((List.range j).map fun j' => f.eraseIdx j')) (fun H' H5 kk e => kk.tups _ _ e) (fun _ _ _ _ kk h => h.tk kk) (fun j acc _ h => by rw [pd_len h, List.length_map, List.length_range]; omega) (fun _ _ _ => True.intro) eb3 (by simpa using Paired.nil)
          (fun j y H5 H6 acc hj kk jj pp eD yy K1 K0 c1 c0 => ?_) (fun H4 acc kk jj pp eD => ?_)
        · obtain ⟨rfl, rfl⟩ := yy
          refine ⟨rfl, yes_of (era_use (i := j) (b := b) (s := f) (fun H' Q' _ z => ⟨_, rfl, z⟩) (fun H' Q' _ z => ⟨_, rfl, by show Q' (.int (0 + (j : Int))) H'; rw [Int.zero_add]; exact z⟩) jj (Nat.le_trans sf.1.len (by decide)) hj fun H7 u k7 tu => ?_)⟩
          refine c1 _ _ (.of_same k7) (k7 _ _ jj) ?_
          rw [List.range_succ, List.map_append]
          exact pd_snoc (Tps.tk pp fun b xs e => k7 _ _ e) tu
        · have k4 := k3.trans kk
          have ec4 := kk.keep _ _ (by simp) ec3
          have et4 := k4.tups _ _ et1
          have kH4 : Same H H4 := k1.trans k4.same
          have hacc := pd_len pp
          rw [List.length_map, List.length_range] at hacc
          have fresh := nd_take hF.nd hf
          have hnL : (vd τ (L'.take i)).length < sizeLine := by
            rw [vd_len, List.length_take]
            exact Nat.lt_of_le_of_lt (show min i L'.length ≤ 128 by omega) (by decide)
          have fin : ∀ H5, Kp [] H1 H5 → H5 c = some (dI (vd τ (L'.take i))) → z = τ f → i < n → DPut H5 c (.ref b) (.int z) (upd H5 c (dI (vd τ (L'.take (i + 1))))) ∧ Kp [] H1 (upd H5 c (dI (vd τ (L'.take (i + 1))))) := fun H5 k5 ec5 ez _ => by
            have z1 := dput (w := .int z) ec5 ⟨b, rfl, k5.tups _ _ eb⟩ hnL
            rw [ez, vd_put fresh, ← take_snocL hf, ← ez] at z1
            exact ⟨z1, k5.put0 hc⟩
          refine ⟨_, rfl, rln_tp jj ⟨_, _, rfl, rfl, _, rfl, ?_⟩⟩
          by_cases hl : 1 < f.length
          · rw [show decide ((f.length : Int) > 1) = true from decide_eq_true (by omega)]
            refine iteT ?_
            -- max
            have parts_in : ∀ p' ∈ (List.range f.length).map (fun j' => f.eraseIdx j'), p' ∈ L'.take i := fun p' h => by
              obtain ⟨j', h1, rfl⟩ := List.mem_map.mp h
              exact hF.part hf hl (List.mem_range.mp h1)
            refine ⟨_, rfl, D, rfl, ⟨acc, SqL.of eD⟩, fun D2 hD2 => ?_⟩
            have n1 : D ∉ ([D2] : List Addr) := fun z => by
              have e : D = D2 := by simpa using z
              rw [← e, eD] at hD2
              cases hD2
            have n2 : c ∉ ([D2] : List Addr) := fun z => by
              have e : c = D2 := by simpa using z
              rw [← e, ec4] at hD2
              cases hD2
            refine lc_gen (walk_list (K := K) (a := D) (xs := acc)) hD2 (by rw [hacc]; exact Nat.le_trans sf.1.len (by decide)) [] (by simp) (fun H' => H' D = some (.lst acc) ∧ Tps H' acc ((List.range f.length).map fun j' => f.eraseIdx j') ∧ H' c = some (dI (vd τ (L'.take i))))
              (fun j acc2 _ => acc2 = ((((List.range f.length).map fun j' => f.eraseIdx j').take j).map τ).map V.int) (fun H' H5 kk e => ⟨kk.keep _ _ n1 e.1, e.2.1.tk kk.tups, kk.keep _ _ n2 e.2.2⟩) (fun _ _ _ _ _ h => h) (fun j acc2 _ h => by rw [h, List.length_map, List.length_map, List.length_take]; omega) (fun H' _ e => SqL.of e.1) ⟨eD, pp, ec4⟩ (by simp)
              (fun j y H5 H6 acc2 hj kk2 jj2 pp2 eD2 yy K1 K0 c1 c0 => ?_) (fun H5 acc2 kk2 jj2 pp2 eD2 => ?_)
            · obtain ⟨rfl, hy⟩ := yy
              obtain ⟨p', hp', tp'⟩ := pd_get jj2.2.1 hy
              refine ⟨rfl, yes_of ⟨_, rfl, _, rfl, c, .int (τ p'), rfl, ?_, c1 _ _ (.refl _ _) jj2 ?_⟩⟩
              · have z1 := dget jj2.2.2 tp'
                rw [vd_get (hF.nd.sublist (List.take_sublist _ _)) (parts_in p' (List.mem_of_getElem? hp'))] at z1
                exact z1
              · rw [pp2, take_snocL hp', List.map_append, List.map_append]
                rfl
            · have k5 := k4.trans kk2
              have et5 := k5.tups _ _ et1
              have kH5 : Same H H5 := k1.trans k5.same
              rw [hacc, List.take_of_length_le (by rw [List.length_map, List.length_range]; exact Nat.le_refl _)] at pp2
              refine ⟨D2, (((List.range f.length).map fun j' => f.eraseIdx j').map τ), rfl, SqL.of (by rw [eD2, pp2]), by rw [List.length_map, List.length_map, List.length_range]; omega, fun mm hmm hle => ?_⟩
              refine ⟨_, rfl, _, rfl, ta, tv, _, .int z, rfl, rfl, SqT.of et5, atI_nat hv, _, _, rfl, rfl, _, rfl, ?_⟩
              rcases hcase with ⟨c0, ez, gd⟩ | ⟨⟨_, j, hj, hjz⟩, q⟩
              · have hmz : ¬ (mm > z) := by
                  obtain ⟨p', hp', rfl⟩ := List.mem_map.mp hmm
                  obtain ⟨j', h1, rfl⟩ := List.mem_map.mp hp'
                  have := gd.up hl j' (List.mem_range.mp h1)
                  omega
                rw [decide_eq_false hmz]
                refine iteF ?_
                obtain ⟨z1, z2⟩ := fin H5 k5 jj2.2.2 ez c0
                exact ⟨_, rfl, _, rfl, ta, tv, _, .int z, rfl, rfl, SqT.of et5, atI_nat hv, _, rfl, _, rfl, c, _, rfl, z1, _, _, _, rfl, z2, c0, upd_same⟩
              · have hmz : mm > z := by
                  have := hle (τ (f.eraseIdx j)) (List.mem_map.mpr ⟨_, List.mem_map.mpr ⟨j, List.mem_range.mpr hj, rfl⟩, rfl⟩)
                  omega
                rw [decide_eq_true hmz]
                exact iteT ⟨_, rfl, bt_use fun H' d' k' hd' ed' => q H' d' (kH5.trans k') (kH5.free hd') ed'⟩
          · rw [show decide ((f.length : Int) > 1) = false from decide_eq_false (by omega)]
            refine iteF (iteF ?_)
            rcases hcase with ⟨c0, ez, gd⟩ | ⟨⟨l, _⟩, q⟩
            · obtain ⟨z1, z2⟩ := fin H4 k4 ec4 ez c0
              exact ⟨_, rfl, _, rfl, ta, tv, _, .int z, rfl, rfl, SqT.of et4, atI_nat hv, _, rfl, _, rfl, c, _, rfl, z1, _, _, _, rfl, z2, c0, upd_same⟩
            · exact absurd l hl
    · rintro σ H2 ⟨v5, v6, v7, rfl, k2, hn, ec⟩
      rw [hbl] at hn ec
      rcases h with ⟨hnL, q⟩ | ⟨f', v, hf', _⟩
      · have eg2 := k2.keep _ _ (by simp) (k1 _ _ eg)
        have hgc : g ≠ c := fun z => by
          rw [← z, k1 _ _ eg] at hc
          cases hc
        refine ⟨_, rfl, _, rfl, g, CF, dx, [], rfl, eg2, TF.cl, TF.nS, by show 0 < 1000; decide, ?_⟩
        refine ⟨_, rfl, _, rfl, g, CF, dx, ff1 x, rfl, upd_same, TF.cl, TF.nK, by show 1 < 1000; decide, ?_⟩
        refine ⟨_, rfl, _, rfl, g, CF, dx, ff2 x c, rfl, upd_same, TF.cl, TF.nG, by show 2 < 1000; decide, ?_⟩
        have kA : Kp [g] H1 H2 := k2.mono (by simp)
        have kB : Kp [g] H (upd (upd (upd H2 g (.ins CF dx (ff1 x))) g (.ins CF dx (ff2 x c))) g (.ins CF dx (ff x c ta))) :=
          (((Kp.of_same k1).trans kA |>.put' (by simp) eg2 fun _ => ins_tup).put' (by simp) upd_same fun _ => ins_tup).put' (by simp) upd_same fun _ => ins_tup
        refine q _ kB ⟨dx, c, upd_same, ?_, ?_⟩
        · rw [upd_ne hgc.symm, upd_ne hgc.symm, upd_ne hgc.symm, ec, List.take_length]
        · refine (kB.tups _ _ et).trans ?_
          congr 2
          refine List.ext_getElem? fun i => ?_
          rw [List.getElem?_map, List.getElem?_map]
          cases hf : L'[i]? with
          | none =>
            rw [List.getElem?_eq_none_iff] at hf
            exact List.getElem?_eq_none_iff.mpr (by omega)
          | some f => exact (hgood i f (by have := (List.getElem?_eq_some_iff.mp hf).1; omega) hf).1
      · have := (List.getElem?_eq_some_iff.mp hf').1
        omega
end
end K18

set_option linter.all false
set_option Elab.async false
set_option maxRecDepth 100000
set_option maxHeartbeats 4000000
namespace K18
open PySem PySem.Spec PyProof.Rows L2 SH

/-! ### Filtration's methods, stage, order_of -/
structure EqD (P : Program) (w : World) (K : PySem.W.Frag) (mg : Str → Option Value) (base : Heap) (k : Nat) (C : Addr) (sp : Sp) : Prop where
  ex : ∃ f fd, FnOk P w K mg base CX0 k f fd ["self", "other"] sp ∧ PySem.W.findIn K (.ref C) "__eq__" = some (some (.ref f)) ∧ PySem.W.isFn K (.ref f) = true ∧ Binds K fd ["self", "other"] []
structure rEqW (K : PySem.W.Frag) (C : Addr) (sp : Sp) (x y : V) (H : Hp) (Q : VK) : Prop where
  ex : rEqOwn K C sp E0 x y H Q
theorem op_eqW {X : Cx} {k j : Nat} {C : Addr} {sp : Sp} (D : EqD X.prog X.w X.K X.mg X.base k C sp) (hr : Room j X.A) (hk : k ≤ j) : OpR X (compareOp .Eq) (rEqW X.K C sp) := fun pins s σ H x y u v Q I rx ry h => by
  obtain ⟨f, fd, F, hs, hf, hb⟩ := D.ex
  exact op_eqOwn F (hr.mono hk) hs hf hb pass0 pins s σ H x y u v Q I rx ry h.ex
def spGiven (CF : Addr) : Sp := fun vs H Q _ => ∃ (g x t : Addr) (L : List S) (τ : S → Int), vs = [.ref g] ∧ FlO CF H g x t L τ ∧ Q (.ref t) H
def spFE (C CF : Addr) : Sp := fun vs H Q _ => ∃ (g g' x t : Addr) (L : List S) (τ : S → Int) (F : S → Prop), vs = [.ref g, .ref g'] ∧ FlO CF H g x t L τ ∧ CxO C H x F ∧ ((FlO CF H g' x t L τ ∧ Q (.bl true) H) ∨ (∃ xs, H g' = some (.tup xs) ∧ Q (.bl false) H))
def spNF (CF : Addr) : Sp := fun vs H Q _ => ∃ (g dx : Addr) (fs : List (Str × V)), vs = [.ref g] ∧ H g = some (.ins CF dx fs) ∧ Q .non H
def spNT : Sp := fun vs H Q _ => ∃ n : Int, vs = [.int n] ∧ 0 ≤ n ∧ n ≤ 1000 ∧ Q .non H
def spStageIn (C CF : Addr) : Sp := fun vs H Q _ => ∃ (g x t : Addr) (L : List S) (τ : S → Int) (F : S → Prop) (n : Int), vs = [.ref g, .int n] ∧ FlO CF H g x t L τ ∧ Fcs F L ∧ ∀ (H' : Hp) (y : Addr), Same H H' → H y = none → CxO C H' y (IsFace (L.filter fun f => decide (τ f ≤ n))) → Q (.ref y) H'
def spStage (C CF : Addr) : Sp := fun vs H Q _ => ∃ (g x t : Addr) (L : List S) (τ : S → Int) (F : S → Prop) (n : Int), vs = [.ref g, .int n] ∧ FlO CF H g x t L τ ∧ Fcs F L ∧ (∀ f ∈ L, Good τ f) ∧ 0 ≤ n ∧ n ≤ 1000 ∧ ∀ (H' : Hp) (y : Addr), Same H H' → H y = none → CxO C H' y (fun k => F k ∧ τ k ≤ n) → Q (.ref y) H'
def spOwn (CF : Addr) : Sp := fun vs H Q _ => ∃ (g x t : Addr) (L : List S) (τ : S → Int) (F : S → Prop), vs = [.ref g] ∧ FlO CF H g x t L τ ∧ Fcs F L ∧ ∀ (H' : Hp) (p : Addr) (bs : List V) (M : List S), Same H H' → H p = none → H' p = some (.lst bs) → Tps H' bs M → M.Perm L → M.Pairwise (fun a b => ltK (kT (τ a, a)) (kT (τ b, b)) = true) → Q (.ref p) H'
def spOrdOf (CF : Addr) : Sp := fun vs H Q _ => ∃ (g x t : Addr) (L : List S) (τ : S → Int) (F : S → Prop), vs = [.ref g] ∧ FlO CF H g x t L τ ∧ Fcs F L ∧ ∀ (H' : Hp) (p : Addr) (bs : List V) (M : List S), Same H H' → H p = none → H' p = some (.tup bs) → Tps H' bs M → M.Perm L → M.Pairwise (fun a b => ltK (kT (τ a, a)) (kT (τ b, b)) = true) → Q (.ref p) H'
theorem walk_itemsI {d : Addr} {o : Obj} {τ : S → Int} {L : List S} : Walk (ItiT d o (dL (vd τ L))) L.length (fun H => H d = some (.frz o (dI (vd τ L)))) (fun i H x H' => ∃ T f q, L[i]? = some f ∧ x = .ref T ∧ H T = none ∧ H q = some (tp f) ∧ H' = upd H T (.tup [.ref q, .int (τ f)])) := by
  have w := (walk_itemsT (d := d) (o := o) (kvs := dL (vd τ L))).mono (G' := fun H => H d = some (.frz o (dI (vd τ L)))) (Y' := fun i H x H' => ∃ T f q, L[i]? = some f ∧ x = .ref T ∧ H T = none ∧ H q = some (tp f) ∧ H' = upd H T (.tup [.ref q, .int (τ f)])) (fun _ h => h) fun i H x H' _ _ y => by
    obtain ⟨T, k, v, q, e, rfl, hT, h, h'⟩ := y
    rw [List.getElem?_map] at e
    obtain ⟨p, hp, e⟩ := Option.map_eq_some_iff.mp e
    cases e
    unfold vd at hp
    rw [List.getElem?_map] at hp
    obtain ⟨f, hf, hp⟩ := Option.map_eq_some_iff.mp hp
    cases hp
    rw [kk_V] at h
    exact ⟨T, f, q, hf, rfl, hT, h, h'⟩
  rw [List.length_map, vd_len] at w
  exact w
section
variable {P : Program} {w : World} {K : PySem.W.Frag} {mg : Str → Option Value} {base : Heap}
theorem scFT : FnScope ["self"] ["self"] (defScope sFT) := ⟨rfl, rfl, rfl, by decide +kernel, rfl, by decide +kernel, by decide +kernel⟩
theorem ok_given {f CF : Addr} {fd : FuncData} (Fn : Fun K "times" "Filtration.times" sFT f fd) (TF : FlT K mg CF) : FnOk P w K mg base CX0 1 f fd ["self"] (spGiven CF) := by
  refine Fn.ok scFT (fun vs H Q E h => by obtain ⟨g, x, t, L, τ, rfl, _⟩ := h; rfl) (fun cdv A outer s0 H vs Q E hr h => ?_)
  obtain ⟨g, x, t, L, τ, rfl, hg, q⟩ := h
  refine ⟨_, pss_one (ps_ret (pe_fld (pv 0) rfl)), ?_⟩
  obtain ⟨dx, c, e1, e2, e3⟩ := hg.ex
  exact ⟨_, rfl, g, CF, dx, _, _, rfl, e1, TF.cl, TF.nG, ff_given x c t, q⟩
theorem fl_ty {CF dx x : Addr} {H : Hp} {fs : List (Str × V)} (TF : FlT K mg CF) (O : Obs K) (e : H x = some (.ins CF dx fs)) : TyX K H (.ref x) (.ref CF) := .base (.ins e TF.cl TF.ca O.hn O.ht TF.cm)
theorem scFE : FnScope ["self", "other"] ["self", "other"] (defScope sFE) := ⟨rfl, rfl, rfl, by decide +kernel, rfl, by decide +kernel, by decide +kernel⟩
theorem ok_feq {f C CF : Addr} {fd : FuncData} (Fn : Fun K "__eq__" "Filtration.__eq__" sFE f fd) (B : Bt mg) (O : Obs K) (TF : FlT K mg CF) (DE : EqD P w K mg base 1 C (spCE C)) : FnOk P w K mg base CX0 2 f fd ["self", "other"] (spFE C CF) := by
  refine Fn.ok scFE (fun vs H Q E h => by obtain ⟨g, g', x, t, L, τ, F, rfl, _⟩ := h; rfl) (fun cdv A outer s0 H vs Q E hr h => ?_)
  obtain ⟨g, g', x, t, L, τ, F, rfl, hg, hx, h⟩ := h
  refine ⟨_, pss_one (ps_ret (pe_and (pe_callB call_isi (by rfl) B.isi (by decide +kernel) (pa_cons (pv 1) (pa_cons (pe_glob (v := .ref CF) (by rfl) TF.mgC rfl) pa_nil)))
    (pe_and (pe_cmpR (op_eqW DE hr (by decide)) (pe_fld (pv 0) rfl) (pe_fld (pv 1) rfl) (nomark _)) (pe_one (pe_cmpR (op_eqD hr.units) (pe_fld (pv 0) rfl) (pe_fld (pv 1) rfl) (nomark _)))))), ?_⟩
  obtain ⟨dx, c, e1, e2, e3⟩ := hg.ex
  rcases h with ⟨hg', q⟩ | ⟨xs, e, q⟩
  · obtain ⟨dx', c', e1', e2', e3'⟩ := hg'.ex
    obtain ⟨dxx, d, tt, m, bt, Tt, f1, _⟩ := hx.ex
    refine ⟨_, rfl, _, _, _, _, true, rfl, .own CF, fl_ty TF O e1', TF.k1, true, rfl, iteT ⟨_, rfl, g, CF, dx, _, _, rfl, e1, TF.cl, TF.nS, ff_shape x c t, _, rfl, g', CF, dx', _, _, rfl, e1', TF.cl, TF.nS, ff_shape x c' t, ⟨x, x, dxx, _, rfl, rfl, f1, .inl ⟨_, _, f1⟩, x, F, rfl, hx, true, rfl, ?_⟩⟩⟩
    refine ⟨true, rfl, iteT ⟨_, rfl, g, CF, dx, _, _, rfl, e1, TF.cl, TF.nG, ff_given x c t, _, rfl, g', CF, dx', _, _, rfl, e1', TF.cl, TF.nG, ff_given x c' t, ?_⟩⟩
    refine ⟨dInts (L.map τ), dInts (L.map τ), dp_ints e3, dp_ints e3, shp_ints _, shp_ints _, ?_⟩
    rw [SeqAt.eqv_refl _ (SeqAt.canLay_of_shaped (shp_ints _))]
    exact q
  · exact ⟨_, rfl, _, _, _, _, false, rfl, .own CF, .base (.tup e), TF.k2, false, rfl, iteF q⟩
theorem sc30 : FnScope ["value"] ["value"] (defScope (top 30)) := ⟨rfl, rfl, rfl, by decide +kernel, rfl, by decide +kernel, by decide +kernel⟩
theorem ok_need_filtration {CF : Addr} (D : Dx K mg "need_filtration" (top 30) ["value"]) (B : Bt mg) (O : Obs K) (TF : FlT K mg CF) : Df P w K mg base CX0 1 "need_filtration" ["value"] (spNF CF) := by
  refine D.ok sc30 (fun vs H Q E h => by obtain ⟨g, dx, fs, rfl, _⟩ := h; rfl) (fun f cdv A outer s0 H vs Q E hr h => ?_)
  obtain ⟨g, dx, fs, rfl, e, q⟩ := h
  refine ⟨_, pss_one (ps_if (pt_not (pt_val (pe_callB call_isi (by rfl) B.isi (by decide +kernel) (pa_cons (pv 0) (pa_cons (pe_glob (v := .ref CF) (by rfl) TF.mgC rfl) pa_nil))))) (pss_one ps_never) pss_nil), ?_⟩
  exact ⟨_, rfl, _, _, _, _, true, rfl, .own CF, fl_ty TF O e, TF.k1, true, rfl, iteF q⟩
theorem sc31 : FnScope ["value"] ["value"] (defScope (top 31)) := ⟨rfl, rfl, rfl, by decide +kernel, rfl, by decide +kernel, by decide +kernel⟩
theorem ok_need_time (D : Dx K mg "need_time" (top 31) ["value"]) (D28 : Df P w K mg base CX0 3 "is_time" ["value"] (spTime K)) : Df P w K mg base CX0 4 "need_time" ["value"] spNT := by
  refine D.ok sc31 (fun vs H Q E h => by obtain ⟨n, rfl, _⟩ := h; rfl) (fun f cdv A outer s0 H vs Q E hr h => ?_)
  obtain ⟨n, rfl, h1, h2, q⟩ := h
  refine ⟨_, pss_one (ps_if (pt_not (pt_val (pe_df D28 hr (by decide) (by rfl) pass0 (pa_cons (pv 0) pa_nil)))) (pss_one ps_never) pss_nil), ?_⟩
  exact ⟨_, rfl, _, some n, rfl, .int n, true, by simp [h1, h2], iteF q⟩
theorem sc32 : FnScope ["filtration", "time", "simplex", "own"] ["filtration", "time"] (defScope (top 32)) := ⟨rfl, rfl, rfl, by decide +kernel, rfl, by decide +kernel, by decide +kernel⟩
theorem ok_stage_in {C CF : Addr} (D : Dx K mg "stage_in" (top 32) ["filtration", "time"]) (TF : FlT K mg CF) (D24 : Df P w K mg base CX0 7 "made" ["simplices"] (spMade C)) : Df P w K mg base CX0 8 "stage_in" ["filtration", "time"] (spStageIn C CF) := by
  refine D.ok sc32 (fun vs H Q E h => by obtain ⟨g, x, t, L, τ, F, n, rfl, _⟩ := h; rfl) (fun f cdv A outer s0 H vs Q E hr h => ?_)
  obtain ⟨g, x, t, L, τ, F, n, rfl, hg, hF, q⟩ := h
  refine ⟨_, pss_one (ps_ret (pe_df D24 hr (by decide) (by rfl) pass0 (pa_cons (pe_lock (pe_lc (own := [("simplex", 2), ("own", 3)]) (g := g2 K 2 3) (te := tVar 2) rfl sc32.nd (pi_itemsT (pe_fld (pv 0) rfl))
    (blkOk_by (N := ["filtration", "time", "simplex", "own"]) (sc := defScope (top 32)) (by decide +kernel)) (fun _ _ _ _ _ => pg_tup rfl (pgs_cons (pg_name (i := 2) sc32.nd rfl (.inl rfl)) (pgs_cons (pg_name (i := 3) sc32.nd rfl (.inl rfl)) pgs_nil)))
    (fun _ _ _ _ _ => pts_one (pt_cmpR op_le (pv 3) (pv 1) (nomark _))) (fun _ _ _ _ _ => pv 2))) pa_nil))), ?_⟩
  obtain ⟨dx, c, e1, e2, e3⟩ := hg.ex
  have hgc : g ≠ c := fun z => by
    rw [z, e2] at e1
    cases e1
  refine ⟨c, dI (vd τ L), e2, True.intro, fun od => ?_⟩
  have e1l : upd H c (.frz od (dI (vd τ L))) g = some (.ins CF dx (ff x c t)) := by rw [upd_ne hgc]; exact e1
  refine ⟨_, rfl, g, CF, dx, _, _, rfl, e1l, TF.cl, TF.nK, ff_clock x c t, c, od, dL (vd τ L), rfl, upd_same, fun D0 hD0 => ?_⟩
  have n1 : c ∉ ([D0] : List Addr) := fun z => by
    have e : c = D0 := by simpa using z
    rw [← e, upd_same] at hD0
    cases hD0
  have hL := hF.len
  refine lc_gen walk_itemsI hD0 (Nat.le_trans hL (by decide)) [] (by simp) (fun H' => H' c = some (.frz od (dI (vd τ L)))) (fun i acc H' => Tps H' acc ((L.take i).filter fun f : S => decide (τ f ≤ n))) (fun H' H3 kk e => kk.keep c _ n1 e) (fun _ _ _ _ kk h => h.tk kk)
    (fun i acc _ h => by have := List.length_filter_le (fun f : S => decide (τ f ≤ n)) (L.take i); rw [pd_len h]; rw [List.length_take] at this; omega) (fun H' _ e => e) upd_same (by simpa using Paired.nil) (fun i y H2 H3 acc hi k j pp eD yy K1 K0 c1 c0 => ?_) (fun H2 acc k j pp eD => ?_)
  · obtain ⟨T, f, b, hf, rfl, hT, eb, rfl⟩ := yy
    have kT : Kp [] H2 (upd H2 T (.tup [.ref b, .int (τ f)])) := .new hT
    refine g2_at upd_same ⟨rfl, _, rfl, _, rfl, τ f, n, rfl, rfl, _, rfl, ?_⟩
    by_cases hn : τ f ≤ n
    · rw [decide_eq_true hn]
      refine iteT ⟨_, rfl, c1 _ _ kT (kT.keep _ _ (by simp) j) ?_⟩
      rw [take_snocL hf, List.filter_append, List.filter_cons_of_pos (by simpa using hn), List.filter_nil]
      exact pd_snoc (pp.tk kT.tups) ⟨b, rfl, kT.tups _ _ eb⟩
    · rw [decide_eq_false hn]
      refine iteF (c0 _ kT (kT.keep _ _ (by simp) j) ?_)
      rw [take_snocL hf, List.filter_append, List.filter_cons_of_neg (by simpa using hn), List.filter_nil, List.append_nil]
      exact pp.tk kT.tups
  · refine ⟨j, ?_⟩
    rw [List.take_length] at pp
    have tku : TK H2 (upd H2 c (dI (vd τ L))) := tk_unlock j
    have n3 : D0 ≠ c := fun z => n1 (by simp [z])
    have k1 : Same H (upd H2 c (dI (vd τ L))) := unlock_same e2 k.same
    have hlen : acc.length ≤ 1000 := by
      have := List.length_filter_le (fun f : S => decide (τ f ≤ n)) L
      rw [pd_len pp]
      omega
    refine ⟨D0, acc, _, rfl, .inl (by rw [upd_ne n3]; exact eD), hlen, Tps.tk pp tku, fun s hs => hF.simp s ((hF.mem s).mp (List.mem_filter.mp hs).1), fun H' y k2 hy hcx => ?_⟩
    exact q H' y (k1.trans k2) (k1.free hy) hcx
theorem sc33 : FnScope ["filtration", "time"] ["filtration", "time"] (defScope (top 33)) := ⟨rfl, rfl, rfl, by decide +kernel, rfl, by decide +kernel, by decide +kernel⟩
theorem ok_stage {C CF : Addr} (D : Dx K mg "stage" (top 33) ["filtration", "time"]) (D30 : Df P w K mg base CX0 1 "need_filtration" ["value"] (spNF CF)) (D31 : Df P w K mg base CX0 4 "need_time" ["value"] spNT)
    (D32 : Df P w K mg base CX0 8 "stage_in" ["filtration", "time"] (spStageIn C CF)) : Df P w K mg base CX0 9 "stage" ["filtration", "time"] (spStage C CF) := by
  refine D.ok sc33 (fun vs H Q E h => by obtain ⟨g, x, t, L, τ, F, n, rfl, _⟩ := h; rfl) (fun f cdv A outer s0 H vs Q E hr h => ?_)
  obtain ⟨g, x, t, L, τ, F, n, rfl, hg, hF, hG, h1, h2, q⟩ := h
  refine ⟨_, pss_cons (ps_expr (pe_df D30 hr (by decide) (by rfl) pass0 (pa_cons (pv 0) pa_nil))) (pss_cons (ps_expr (pe_df D31 hr (by decide) (by rfl) pass0 (pa_cons (pv 1) pa_nil)))
    (pss_one (ps_ret (pe_df D32 hr (by decide) (by rfl) pass0 (pa_cons (pv 0) (pa_cons (pv 1) pa_nil)))))), ?_⟩
  obtain ⟨dx, c, e1, e2, e3⟩ := hg.ex
  refine ⟨_, rfl, g, dx, _, rfl, e1, _, rfl, n, rfl, h1, h2, _, rfl, _, rfl, g, x, t, L, τ, F, n, rfl, hg, hF, fun H' y k hy hcx => q H' y k hy (hcx.congr fun kf => ?_)⟩
  constructor
  · rintro ⟨hne, f, hf, hs⟩
    obtain ⟨fL, ft⟩ := List.mem_filter.mp hf
    have Ff := (hF.mem f).mp fL
    refine closed_of (P := fun s => F s ∧ τ s ≤ n) (fun s i hP hl hi => ?_) f.length kf f rfl ⟨Ff, of_decide_eq_true ft⟩ hne hs
    have el := erase_len hi
    have hne' : s.eraseIdx i ≠ [] := fun z => by
      rw [z] at el
      simp at el
      omega
    refine ⟨hF.cl _ s hP.1 hne' (erase_sub s i), ?_⟩
    have := (hG s ((hF.mem s).mpr hP.1)).up hl i hi
    have := hP.2
    omega
  · rintro ⟨hk, ht⟩
    exact ⟨(hF.simp kf hk).2, kf, List.mem_filter.mpr ⟨(hF.mem kf).mpr hk, decide_eq_true ht⟩, List.Sublist.refl _⟩
end
end K18

set_option linter.all false
set_option Elab.async false
set_option maxRecDepth 100000
set_option maxHeartbeats 4000000
namespace K18
open PySem PySem.Spec PyProof.Rows L2 SH

/-! ### order_of -/
/-- a list of rows (time, length, face), sorted: their faces -/
theorem rows_get {K : PySem.W.Frag} {H : Hp} {x : V} {p : Int × S} (h : IsKy H x (kT p)) : ∃ T vs v, x = .ref T ∧ H T = some (.tup vs) ∧ vs[2]? = some v ∧ Tp H v p.2 := by
  obtain ⟨T, vs, rfl, e, pk⟩ := h
  cases pk with
  | @cons v0 _ _ _ r0 pk =>
    cases pk with
    | @cons v1 _ _ _ r1 pk =>
      cases pk with
      | @cons v2 _ _ _ r2 pk =>
        cases pk
        exact ⟨T, _, v2, rfl, e, rfl, r2⟩
section
variable {P : Program} {w : World} {K : PySem.W.Frag} {mg : Str → Option Value} {base : Heap}
abbrev nOO : List Str := ["filtration", "row", "one", "time"]
theorem sc34 : FnScope nOO ["filtration"] (defScope (top 34)) := ⟨rfl, rfl, rfl, by decide +kernel, rfl, by decide +kernel, by decide +kernel⟩
theorem ok_own_order {CF : Addr} (D : Dx K mg "own_order" (top 34) ["filtration"]) (B : Bt mg) (TF : FlT K mg CF) : Df P w K mg base CX0 1 "own_order" ["filtration"] (spOwn CF) := by
  refine D.ok sc34 (fun vs H Q E h => by obtain ⟨g, x, t, L, τ, F, rfl, _⟩ := h; rfl) (fun f cdv A outer s0 H vs Q E hr h => ?_)
  obtain ⟨g, x, t, L, τ, F, rfl, hg, hF, q⟩ := h
  refine ⟨_, pss_one (ps_ret (pe_lc (own := [("row", 1)]) (g := gName 1) (tt := tYes) (te := tOp (rIxT K) (tVar 1) (tC (.int 2))) rfl sc34.nd (pi_list (pe_callB (cr_srt hr) (by rfl) B.sorted (by decide +kernel)
      (pa_cons (pe_lock (pe_lc (own := [("one", 2), ("time", 3)]) (g := g2 K 2 3) (tt := tYes) (te := tTup (tCons (tVar 3) (tCons (tCB (rLn K) (tCons (tVar 2) tNil)) (tCons (tVar 2) tNil)))) rfl sc34.nd (pi_itemsT (pe_fld (pv 0) rfl))
        (blkOk_by (N := nOO) (sc := defScope (top 34)) (by decide +kernel)) (fun _ _ _ _ _ => pg_tup rfl (pgs_cons (pg_name (i := 2) sc34.nd rfl (.inl rfl)) (pgs_cons (pg_name (i := 3) sc34.nd rfl (.inl rfl)) pgs_nil))) (fun _ _ _ _ _ => pts_nil)
        (fun _ _ _ _ _ => pe_tup (pa_cons (pv 3) (pa_cons (pe_callB cr_len (by rfl) B.len PySem.boot_len (pa_cons (pv 2) pa_nil)) (pa_cons (pv 2) pa_nil)))))) pa_nil)))
      (blkOk_by (N := nOO) (sc := defScope (top 34)) (by decide +kernel)) (fun _ _ _ _ _ => pg_name (i := 1) sc34.nd rfl (Or.inl rfl)) (fun _ _ _ _ _ => pts_nil)
      (fun _ _ _ _ _ => pe_ix ix_tup (pv 1) pe_int (fun _ _ => rfl)))), ?_⟩
  obtain ⟨dx, c, e1, e2, e3⟩ := hg.ex
  have hgc : g ≠ c := fun z => by
    rw [z, e2] at e1
    cases e1
  refine ⟨c, dI (vd τ L), e2, True.intro, fun od => ?_⟩
  have e1l : upd H c (.frz od (dI (vd τ L))) g = some (.ins CF dx (ff x c t)) := by rw [upd_ne hgc]; exact e1
  refine ⟨_, rfl, g, CF, dx, _, _, rfl, e1l, TF.cl, TF.nK, ff_clock x c t, c, od, dL (vd τ L), rfl, upd_same, fun D0 hD0 => ?_⟩
  have n1 : c ∉ ([D0] : List Addr) := fun z => by
    have e : c = D0 := by simpa using z
    rw [← e, upd_same] at hD0
    cases hD0
  have hL := hF.len
  refine lc_gen walk_itemsI hD0 (Nat.le_trans hL (by decide)) [] (by simp) (fun H' => H' c = some (.frz od (dI (vd τ L)))) (fun i acc H' => Paired (fun x f => IsKy H' x (kT (τ f, f))) acc (L.take i)) (fun H' H3 kk e => kk.keep c _ n1 e) (fun _ _ _ _ kk h => L2.Paired.mapP h fun _ _ z => z.tk kk)
    (fun i acc _ h => by rw [pd_len h, List.length_take]; omega) (fun H' _ e => e) upd_same (by simpa using Paired.nil) (fun i y H2 H3 acc hi k j pp eD yy K1 K0 c1 c0 => ?_) (fun H2 acc k j pp eD => ?_)
  · obtain ⟨T, f, b, hf, rfl, hT, eb, rfl⟩ := yy
    have kT' : Kp [] H2 (upd H2 T (.tup [.ref b, .int (τ f)])) := .new hT
    refine g2_at upd_same ⟨rfl, yes_of ⟨_, rfl, _, rfl, rln_tp (kT'.tups _ _ eb) ⟨_, rfl, by show 3 ≤ sizeLine; decide, fun U hU => ?_⟩⟩⟩
    have kU := kT'.new' (o := .tup [.int (τ f), .int (f.length : Int), .ref b]) hU
    refine c1 _ _ kU (kU.keep _ _ (by simp) j) ?_
    rw [take_snocL hf]
    exact pd_snoc (L2.Paired.mapP pp fun _ _ z => z.tk kU.tups) ⟨U, _, rfl, upd_same, .cons rfl (.cons rfl (.cons ⟨b, rfl, kU.tups _ _ eb⟩ .nil))⟩
  · refine ⟨j, ?_⟩
    rw [List.take_length] at pp
    have tku : TK H2 (upd H2 c (dI (vd τ L))) := tk_unlock j
    have n3 : D0 ≠ c := fun z => n1 (by simp [z])
    have k1 : Same H (upd H2 c (dI (vd τ L))) := unlock_same e2 k.same
    refine srt_use (f := fun a => kT (τ a, a)) (SqL.of (by rw [upd_ne n3]; exact eD)) (L2.Paired.mapP pp fun _ _ z => z.tk tku) (fun _ _ => True.intro) (fun s _ t _ => cmp_T _ _) fun ys M p perm py srt hp => ?_
    have strict := strict_perm (f := fun a => kT (τ a, a)) (fun a b e => by have := kT_inj _ _ e; injection this) perm hF.nd srt
    have kp : Kp [] (upd H2 c (dI (vd τ L))) (upd (upd H2 c (dI (vd τ L))) p (.lst ys)) := .new hp
    have hl : M.length ≤ 128 := by rw [perm.length_eq]; exact hL
    have hyl := pd_len py
    refine ⟨p, rfl, ⟨ys, SqL.of upd_same⟩, fun D1 hD1 => ?_⟩
    have npD : p ≠ D1 := fun z => by
      rw [← z, upd_same] at hD1
      cases hD1
    refine lc_gen (walk_list (K := K) (a := p) (xs := ys)) hD1 (by rw [hyl]; exact Nat.le_trans hl (by decide)) [] (by simp) (fun H' => H' p = some (.lst ys) ∧ Paired (fun x f => IsKy H' x (kT (τ f, f))) ys M) (fun i acc H' => Tps H' acc (M.take i))
      (fun H' H3 kk e => ⟨kk.keep p _ (by simpa using npD) e.1, L2.Paired.mapP e.2 fun _ _ z => z.tk kk.tups⟩) (fun _ _ _ _ kk h => h.tk kk) (fun i acc _ h => by rw [pd_len h, List.length_take]; omega) (fun H' _ e => SqL.of e.1) ⟨upd_same, L2.Paired.mapP py fun _ _ z => z.tk kp.tups⟩
      (by simpa using Paired.nil) (fun i x H3 H4 acc hi k2 j2 pp2 eD2 y K1 K0 c1 c0 => ?_) (fun H3 acc k2 j2 pp2 eD2 => ?_)
    · obtain ⟨rfl, hx⟩ := y
      obtain ⟨s, hs, pk⟩ := pd_get j2.2 hx
      obtain ⟨T, vs, v, rfl, eT, hv, tv⟩ := rows_get (K := K) pk
      refine ⟨rfl, yes_of ⟨_, rfl, T, _, 2, v, rfl, rfl, SqT.of eT, atI_nat (j := 2) hv, ?_⟩⟩
      refine c1 _ _ (.refl _ _) j2 ?_
      rw [take_snocL hs]
      exact pd_snoc pp2 tv
    · rw [hyl, List.take_length] at pp2
      exact q _ D1 acc M (k1.trans (kp.trans k2).same) (k1.free (kp.free hD1)) eD2 pp2 perm strict
theorem sc35 : FnScope ["filtration"] ["filtration"] (defScope (top 35)) := ⟨rfl, rfl, rfl, by decide +kernel, rfl, by decide +kernel, by decide +kernel⟩
theorem ok_order_of {CF : Addr} (D : Dx K mg "order_of" (top 35) ["filtration"]) (B : Bt mg) (D30 : Df P w K mg base CX0 1 "need_filtration" ["value"] (spNF CF)) (D34 : Df P w K mg base CX0 1 "own_order" ["filtration"] (spOwn CF)) : Df P w K mg base CX0 2 "order_of" ["filtration"] (spOrdOf CF) := by
  refine D.ok sc35 (fun vs H Q E h => by obtain ⟨g, x, t, L, τ, F, rfl, _⟩ := h; rfl) (fun f cdv A outer s0 H vs Q E hr h => ?_)
  obtain ⟨g, x, t, L, τ, F, rfl, hg, hF, q⟩ := h
  refine ⟨_, pss_cons (ps_expr (pe_df D30 hr (by decide) (by rfl) pass0 (pa_cons (pv 0) pa_nil))) (pss_one (ps_ret (pe_callTy call_tuple_of (by rfl) B.tuple (by decide +kernel) (pa_cons (pe_df D34 hr (by decide) (by rfl) pass0 (pa_cons (pv 0) pa_nil)) pa_nil)))), ?_⟩
  obtain ⟨dx, c, e1, e2, e3⟩ := hg.ex
  refine ⟨_, rfl, g, dx, _, rfl, e1, _, rfl, g, x, t, L, τ, F, rfl, hg, hF, fun H1 p bs M k1 hp ep tb perm srt => ⟨p, bs, rfl, .inl ⟨SqL.of ep, fun u hu => ?_⟩⟩⟩
  have kn : Kp [] H1 (upd H1 u (.tup bs)) := .new hu
  exact q _ u bs M (k1.trans kn.same) (k1.free hu) upd_same (tb.tk kn.tups) perm srt
end
end K18

set_option linter.all false
set_option Elab.async false
set_option maxRecDepth 100000
set_option maxHeartbeats 4000000
namespace K18
open PySem PySem.Spec PyProof.Rows L2 SH

/-! ### the law's row of draws -/
def rw4 (scr : Addr) (b c d : Int) : HO := .lst [.ref scr, .int b, .int c, .int d]
structure Row (K : PySem.W.Frag) (H : Hp) (r scr : Addr) (ns : List Int) : Prop where
  ex : ∃ b c d : Int, H r = some (rw4 scr b c d) ∧ 0 ≤ b ∧ 0 ≤ c ∧ c < 2147483647
  sq : SqL K H scr (ns.map V.int)
theorem sql_put {K : PySem.W.Frag} {H H' : Hp} {a : Addr} {xs : List V} (h : SqL K H a xs) (k : ∀ o, H a = some o → H' a = some o) : SqL K H' a xs := by
  rcases h with (h | ⟨o, h⟩) | h
  · exact .inl (.inl (k _ h))
  · exact .inl (.inr ⟨o, k _ h⟩)
  · exact .inr h
theorem rw4_not {scr : Addr} {b c d : Int} {ns : List Int} : rw4 scr b c d ≠ .lst (ns.map V.int) := fun z => by
  unfold rw4 at z
  injection z with z
  cases ns with
  | nil => cases z
  | cons n ns =>
    injection z with z
    cases z
theorem sql_setr {K : PySem.W.Frag} {H : Hp} {r scr : Addr} {ns : List Int} {b c d : Int} {o : HO} (h : SqL K H scr (ns.map V.int)) (e : H r = some (rw4 scr b c d)) : SqL K (upd H r o) scr (ns.map V.int) := by
  rcases h with (h | ⟨o', h⟩) | h
  · have : scr ≠ r := fun z => by
      rw [z, e] at h
      exact rw4_not (Option.some.inj h)
    exact .inl (.inl (by rw [upd_ne this]; exact h))
  · have : scr ≠ r := fun z => by
      rw [z, e] at h
      cases h
    exact .inl (.inr ⟨o', by rw [upd_ne this]; exact h⟩)
  · exact .inr h
theorem Row.same {K : PySem.W.Frag} {H H' : Hp} {r scr : Addr} {ns : List Int} (h : Row K H r scr ns) (k : Same H H') : Row K H' r scr ns := by
  obtain ⟨b, c, d, e, h1⟩ := h.ex
  exact ⟨⟨b, c, d, k _ _ e, h1⟩, sql_put h.sq fun o e => k _ _ e⟩
theorem Row.set {K : PySem.W.Frag} {H : Hp} {r scr : Addr} {ns : List Int} {b c d : Int} (h : Row K H r scr ns) (h1 : 0 ≤ b) (h2 : 0 ≤ c) (h3 : c < 2147483647) : Row K (upd H r (rw4 scr b c d)) r scr ns := by
  obtain ⟨b', c', d', e, _⟩ := h.ex
  exact ⟨⟨b, c, d, upd_same, h1, h2, h3⟩, sql_setr h.sq e⟩
/-- a thing that is newer than the row is changed -/
theorem Row.put0 {K : PySem.W.Frag} {H H' : Hp} {r scr l : Addr} {ns : List Int} {o : HO} (h : Row K H r scr ns) (hl : H l = none) (h' : Row K H' r scr ns) : Row K (upd H' l o) r scr ns := by
  obtain ⟨b, c, d, e, _⟩ := h.ex
  obtain ⟨b', c', d', e', h1⟩ := h'.ex
  have nr : r ≠ l := fun z => by
    rw [z, hl] at e
    cases e
  refine ⟨⟨b', c', d', by rw [upd_ne nr]; exact e', h1⟩, ?_⟩
  rcases h.sq with (q | ⟨o', q⟩) | q
  · exact sql_put h'.sq fun u hu => by rw [upd_ne (fun z => by rw [z, hl] at q; cases q)]; exact hu
  · exact sql_put h'.sq fun u hu => by rw [upd_ne (fun z => by rw [z, hl] at q; cases q)]; exact hu
  · exact .inr q
theorem Row.lst {K : PySem.W.Frag} {H : Hp} {r scr : Addr} {ns : List Int} (h : Row K H r scr ns) : ∀ x ∈ [r], ∃ xs, H x = some (.lst xs) := fun x hx => by
  obtain ⟨b, c, d, e, _⟩ := h.ex
  have : x = r := by simpa using hx
  subst this
  exact ⟨_, e⟩
def spTaken (K : PySem.W.Frag) : Sp := fun vs H Q _ => ∃ (r scr : Addr) (ns : List Int) (m : Int), vs = [.ref r, .int m] ∧ Row K H r scr ns ∧ 0 < m ∧ m < 1073741824 ∧ ∀ (H' : Hp) (v : Int), Row K H' r scr ns → Kp [r] H H' → 0 ≤ v → v < m → Q (.int v) H'
def spPick (K : PySem.W.Frag) : Sp := fun vs H Q _ => ∃ (r scr a : Addr) (ns : List Int) (xs : List V), vs = [.ref r, .ref a] ∧ Row K H r scr ns ∧ SqE H a xs ∧ a ≠ r ∧ 0 < xs.length ∧ xs.length ≤ 1000 ∧ ∀ (H' : Hp) (i : Nat) (v : V), xs[i]? = some v → Row K H' r scr ns → Kp [r] H H' → Q v H'
section
variable {P : Program} {w : World} {K : PySem.W.Frag} {mg : Str → Option Value} {base : Heap}
abbrev nTk : List Str := ["_law_row", "_law_many", "_law_found", "_law_cell"]
theorem sc37 : FnScope nTk ["_law_row", "_law_many"] (defScope (top 37)) := ⟨rfl, rfl, rfl, by decide +kernel, rfl, by decide +kernel, by decide +kernel⟩
theorem ok_taken (D : Dx K mg "_law_taken" (top 37) ["_law_row", "_law_many"]) (B : Bt mg) : Df P w K mg base CX0 1 "_law_taken" ["_law_row", "_law_many"] (spTaken K) := by
  refine D.ok sc37 (fun vs H Q E h => by obtain ⟨r, scr, ns, m, rfl, _⟩ := h; rfl) (fun f cdv A outer s0 H vs Q E hr h => ?_)
  obtain ⟨r, scr, ns, m, rfl, hR, m1, m2, q⟩ := h
  refine ⟨_, pss_cons (ps_if (pt_cmpR op_gt (pe_ix ix_list (pv 0) pe_int (fun _ _ => rfl)) pe_int (nomark _))
      (pss_cons (ps_set (i := 2) sc37.nd rfl (.inl rfl) (pe_op op_mod (pe_callTy call_int1 (by rfl) B.int (by decide +kernel) (pa_cons (pe_ix ix_list (pv 0) pe_int (fun _ _ => rfl)) pa_nil)) (pv 1)))
      (pss_cons (ps_asg (pe_op op_fdiv (pe_ix ix_list (pv 0) pe_int (fun _ _ => rfl)) (pv 1)) (pg_sub (pv 0) pe_int set_list)) (pss_one (ps_ret (pv 2))))) pss_nil)
    (pss_cons (ps_asg (pe_op op_add (pe_ix ix_list (pv 0) pe_int (fun _ _ => rfl)) pe_int) (pg_sub (pv 0) pe_int set_list))
    (pss_cons (ps_if (pt_cmpR op_gt (pe_ix ix_list (pv 0) pe_int (fun _ _ => rfl)) (pe_callB cr_len (by rfl) B.len PySem.boot_len (pa_cons (pe_ix ix_list (pv 0) pe_int (fun _ _ => rfl)) pa_nil)) (nomark _))
      (pss_cons (ps_asg (pe_op op_mod (pe_callTy call_int1 (by rfl) B.int (by decide +kernel) (pa_cons (pe_op op_add (pe_op op_mul (pe_ix ix_list (pv 0) pe_int (fun _ _ => rfl)) pe_int) pe_int) pa_nil)) pe_int) (pg_sub (pv 0) pe_int set_list))
        (pss_one (ps_ret (pe_op op_mod (pe_callTy call_int1 (by rfl) B.int (by decide +kernel) (pa_cons (pe_op op_fdiv (pe_ix ix_list (pv 0) pe_int (fun _ _ => rfl)) pe_int) pa_nil)) (pv 1))))) pss_nil)
    (pss_cons (ps_set (i := 3) sc37.nd rfl (.inl rfl) (pe_ix ix_list (pe_ix ix_list (pv 0) pe_int (fun _ _ => rfl)) (pe_op op_sub (pe_ix ix_list (pv 0) pe_int (fun _ _ => rfl)) pe_int) (fun _ _ => rfl)))
    (pss_cons (ps_asg (pe_op op_mod (pe_callTy call_int1 (by rfl) B.int (by decide +kernel) (pa_cons (pe_op op_add (pe_op op_add (pe_op op_mul (pe_ix ix_list (pv 0) pe_int (fun _ _ => rfl)) pe_int) (pv 3)) pe_int) pa_nil)) pe_int) (pg_sub (pv 0) pe_int set_list))
    (pss_cons (ps_if (pt_cmpR op_ge (pv 3) (pe_op op_pow pe_int pe_int) (nomark _)) (pss_one (ps_asg (pe_op op_fdiv (pv 3) (pv 1)) (pg_sub (pv 0) pe_int set_list))) pss_nil)
    (pss_one (ps_ret (pe_op op_mod (pe_callTy call_int1 (by rfl) B.int (by decide +kernel) (pa_cons (pv 3) pa_nil)) (pv 1))))))))), ?_⟩
  obtain ⟨b, c, d, e, hb, hc, hc2⟩ := hR.ex
  have s1 : SqL K H r [.ref scr, .int b, .int c, .int d] := SqL.of e
  have rl : ∀ {o : HO}, Kp [r] H (upd H r o) := fun {o} => .put (by simp) e fun _ => lst_tup
  -- if row[3] > 0
  refine ⟨_, rfl, r, _, 3, _, rfl, rfl, s1, rfl, _, _, rfl, rfl, _, rfl, ?_⟩
  by_cases hd : (0 : Int) < d
  · rw [decide_eq_true hd]
    refine iteT ⟨_, rfl, r, _, 3, _, rfl, rfl, s1, rfl, .inl ⟨_, rfl, _, rfl, _, _, rfl, rfl, m1, ?_⟩⟩
    refine ⟨_, rfl, r, _, 3, _, rfl, rfl, s1, rfl, _, rfl, _, _, rfl, rfl, ⟨m1, m2⟩, ?_⟩
    refine ⟨_, rfl, r, _, 3, 3, rfl, rfl, e, rfl, ?_⟩
    refine ⟨_, rfl, q (upd H r (rw4 scr b c (d / m))) _ (hR.set hb hc hc2) rl (Int.emod_nonneg _ (by omega)) (Int.emod_lt_of_pos _ m1)⟩
  · rw [decide_eq_false hd]
    refine iteF ?_
    -- row[1] = row[1] + 1
    refine ⟨_, rfl, r, _, 1, _, rfl, rfl, s1, rfl, _, _, rfl, rfl, ?_⟩
    refine ⟨_, rfl, r, _, 1, 1, rfl, rfl, e, rfl, ?_⟩
    have hR2 : Row K (upd H r (rw4 scr (b + 1) c d)) r scr ns := hR.set (by omega) hc hc2
    have e2 : upd H r (rw4 scr (b + 1) c d) r = some (rw4 scr (b + 1) c d) := upd_same
    show tSeq _ _ _ _ (upd H r (rw4 scr (b + 1) c d))
    have s2 : SqL K (upd H r (rw4 scr (b + 1) c d)) r [.ref scr, .int (b + 1), .int c, .int d] := SqL.of e2
    refine ⟨_, rfl, r, _, 1, _, rfl, rfl, s2, rfl, _, rfl, r, _, 0, _, rfl, rfl, s2, rfl, ⟨⟨scr, _, rfl, .inl hR2.sq, ?_⟩⟩⟩
    rw [List.length_map]
    refine ⟨_, _, rfl, rfl, _, rfl, ?_⟩
    have k2 : Kp [r] H (upd H r (rw4 scr (b + 1) c d)) := rl
    by_cases hl : (ns.length : Int) < b + 1
    · rw [decide_eq_true hl]
      refine iteT ⟨_, rfl, r, _, 2, _, rfl, rfl, s2, rfl, _, _, rfl, rfl, .inl ⟨by omega, by omega⟩, _, _, rfl, rfl, .inl ⟨_, rfl, _, _, rfl, rfl, by show (0 : Int) < 2147483647; decide, ?_⟩⟩
      refine ⟨_, rfl, r, _, 2, 2, rfl, rfl, e2, rfl, ?_⟩
      have b1 : 0 ≤ (c * 48271 + 11) % 2147483647 := Int.emod_nonneg _ (by decide)
      have b2 : (c * 48271 + 11) % 2147483647 < 2147483647 := Int.emod_lt_of_pos _ (by decide)
      have hR3 := hR2.set (b := b + 1) (d := d) (by omega) b1 b2
      have s3 : SqL K (upd (upd H r (rw4 scr (b + 1) c d)) r (rw4 scr (b + 1) ((c * 48271 + 11) % 2147483647) d)) r [.ref scr, .int (b + 1), .int ((c * 48271 + 11) % 2147483647), .int d] := SqL.of upd_same
      refine ⟨_, rfl, r, _, 2, _, rfl, rfl, s3, rfl, _, _, rfl, rfl, ⟨by decide, by decide⟩, .inl ⟨_, rfl, _, rfl, _, _, rfl, rfl, m1, ?_⟩⟩
      exact q _ _ hR3 (k2.put' (by simp) e2 fun _ => lst_tup) (Int.emod_nonneg _ (by omega)) (Int.emod_lt_of_pos _ m1)
    · rw [decide_eq_false hl]
      refine iteF ?_
      -- the cell
      obtain ⟨z, hz⟩ : ∃ z, ns[b.toNat]? = some z := ⟨_, List.getElem?_eq_getElem (by omega)⟩
      have hz' : atI (ns.map V.int) (b + 1 - 1) = some (.int z) := by
        rw [show b + 1 - 1 = ((b.toNat : Nat) : Int) by omega]
        exact atI_nat (by rw [List.getElem?_map, hz]; rfl)
      refine ⟨_, rfl, r, _, 0, _, rfl, rfl, s2, rfl, _, rfl, r, _, 1, _, rfl, rfl, s2, rfl, _, _, rfl, rfl, scr, _, _, _, rfl, rfl, hR2.sq, hz', ?_⟩
      refine ⟨_, rfl, r, _, 2, _, rfl, rfl, s2, rfl, _, _, rfl, rfl, .inl ⟨by omega, by omega⟩, _, rfl, _, _, rfl, rfl, _, _, rfl, rfl, .inl ⟨_, rfl, _, _, rfl, rfl, by show (0 : Int) < 2147483647; decide, ?_⟩⟩
      refine ⟨_, rfl, r, _, 2, 2, rfl, rfl, e2, rfl, ?_⟩
      have b1 : 0 ≤ (c * 48271 + z + 11) % 2147483647 := Int.emod_nonneg _ (by decide)
      have b2 : (c * 48271 + z + 11) % 2147483647 < 2147483647 := Int.emod_lt_of_pos _ (by decide)
      have hR3 := hR2.set (b := b + 1) (d := d) (by omega) b1 b2
      have e3 : upd (upd H r (rw4 scr (b + 1) c d)) r (rw4 scr (b + 1) ((c * 48271 + z + 11) % 2147483647) d) r = some (rw4 scr (b + 1) ((c * 48271 + z + 11) % 2147483647) d) := upd_same
      have k3 : Kp [r] H (upd (upd H r (rw4 scr (b + 1) c d)) r (rw4 scr (b + 1) ((c * 48271 + z + 11) % 2147483647) d)) := k2.put' (by simp) e2 fun _ => lst_tup
      show tSeq _ _ _ _ (upd (upd H r (rw4 scr (b + 1) c d)) r (rw4 scr (b + 1) ((c * 48271 + z + 11) % 2147483647) d))
      refine ⟨_, rfl, _, _, rfl, rfl, ⟨by decide, by decide, by decide⟩, _, _, rfl, rfl, _, rfl, ite2 (fun _ => ?_) fun _ => ?_⟩
      · refine ⟨_, rfl, _, rfl, _, _, rfl, rfl, ⟨m1, m2⟩, _, rfl, r, _, 3, 3, rfl, rfl, e3, rfl, ?_⟩
        refine ⟨_, rfl, .inl ⟨_, rfl, _, rfl, _, _, rfl, rfl, m1, ?_⟩⟩
        exact q _ _ (hR3.set (b := b + 1) (d := z / m) (by omega) b1 b2) (k3.put' (by simp) e3 fun _ => lst_tup) (Int.emod_nonneg _ (by omega)) (Int.emod_lt_of_pos _ m1)
      · refine ⟨_, rfl, .inl ⟨_, rfl, _, rfl, _, _, rfl, rfl, m1, ?_⟩⟩
        exact q _ _ hR3 k3 (Int.emod_nonneg _ (by omega)) (Int.emod_lt_of_pos _ m1)
end
end K18

set_option linter.all false
set_option Elab.async false
set_option maxRecDepth 100000
set_option maxHeartbeats 4000000
namespace K18
open PySem PySem.Spec PyProof.Rows L2 SH

theorem rln_sq {K : PySem.W.Frag} {H : Hp} {a : Addr} {xs : List V} {Q : VK} (h : SqE H a xs) (q : Q (.int (xs.length : Int)) H) : rLn K [.ref a] H Q := ⟨⟨a, xs, rfl, h.elim (fun h => .inl (SqL.of h)) fun h => .inr (SqT.of h), q⟩⟩
/-! ### _law_alike -/
/-- alike to this depth: ints, then lists or tuples -/
def Alk (H : Hp) : Nat → V → V → Prop
  | 0, u, v => ∃ i : Int, u = .int i ∧ v = .int i
  | d + 1, u, v => ∃ (a b : Addr) (xs ys : List V), u = .ref a ∧ v = .ref b ∧ ((H a = some (.lst xs) ∧ H b = some (.lst ys)) ∨ (H a = some (.tup xs) ∧ H b = some (.tup ys))) ∧ Paired (Alk H d) xs ys ∧ xs.length ≤ 1000
theorem Alk.same {H H' : Hp} (k : Same H H') : ∀ {d : Nat} {u v : V}, Alk H d u v → Alk H' d u v
  | 0, _, _, h => h
  | d + 1, _, _, ⟨a, b, xs, ys, e1, e2, h, p, l⟩ => ⟨a, b, xs, ys, e1, e2, h.imp (fun z => ⟨k _ _ z.1, k _ _ z.2⟩) fun z => ⟨k _ _ z.1, k _ _ z.2⟩, L2.Paired.mapP p fun _ _ z => Alk.same k z, l⟩
theorem alk_ints {H : Hp} : ∀ l : List Int, Paired (Alk H 0) (l.map V.int) (l.map V.int)
  | [] => .nil
  | a :: l => .cons ⟨a, rfl, rfl⟩ (alk_ints l)
theorem alk_tp {H : Hp} {u v : V} {s : S} (h : Tp H u s) (k : Tp H v s) (hl : s.length ≤ 1000) : Alk H 1 u v := by
  obtain ⟨a, rfl, e1⟩ := h
  obtain ⟨b, rfl, e2⟩ := k
  exact ⟨a, b, _, _, rfl, rfl, .inr ⟨e1, e2⟩, alk_ints s, by rw [List.length_map]; exact hl⟩
theorem alk_tps {H : Hp} : ∀ {bs cs : List V} {L : List S}, Tps H bs L → Tps H cs L → (∀ s ∈ L, s.length ≤ 1000) → Paired (Alk H 1) bs cs
  | _, _, _, .nil, .nil, _ => .nil
  | _, _, _, .cons h t, .cons h' t', hl => .cons (alk_tp h h' (hl _ (by simp))) (alk_tps t t' fun s hs => hl s (by simp [hs]))
def spAlk (d : Nat) : Sp := fun vs H Q _ => ∃ u v : V, vs = [u, v] ∧ Alk H d u v ∧ ∀ H', Same H H' → Q (.bl true) H'
section
variable {P : Program} {w : World} {K : PySem.W.Frag} {mg : Str → Option Value} {base : Heap}
theorem sc38 : FnScope ["_law_row", "_law_things"] ["_law_row", "_law_things"] (defScope (top 38)) := ⟨rfl, rfl, rfl, by decide +kernel, rfl, by decide +kernel, by decide +kernel⟩
theorem ok_pick (D : Dx K mg "_law_pick" (top 38) ["_law_row", "_law_things"]) (B : Bt mg) (D37 : Df P w K mg base CX0 1 "_law_taken" ["_law_row", "_law_many"] (spTaken K)) : Df P w K mg base CX0 2 "_law_pick" ["_law_row", "_law_things"] (spPick K) := by
  refine D.ok sc38 (fun vs H Q E h => by obtain ⟨r, scr, a, ns, xs, rfl, _⟩ := h; rfl) (fun f cdv A outer s0 H vs Q E hr h => ?_)
  obtain ⟨r, scr, a, ns, xs, rfl, hR, ha, har, hx0, hx1, q⟩ := h
  refine ⟨_, pss_one (ps_ret (pe_ix ix_seq (pv 1) (pe_df D37 hr (by decide) (by rfl) pass0 (pa_cons (pv 0) (pa_cons (pe_callB cr_len (by rfl) B.len PySem.boot_len (pa_cons (pv 1) pa_nil)) pa_nil))) (fun _ _ => rfl))), ?_⟩
  refine ⟨_, rfl, _, rfl, _, rfl, rln_sq ha ⟨r, scr, ns, _, rfl, hR, by omega, by omega, fun H' v hR' k v0 v1 => ?_⟩⟩
  obtain ⟨x, hx⟩ : ∃ x, xs[v.toNat]? = some x := ⟨_, List.getElem?_eq_getElem (by omega)⟩
  have at' : atI xs v = some x := by
    rw [show v = ((v.toNat : Nat) : Int) by omega]
    exact atI_nat hx
  have nm : a ∉ ([r] : List Addr) := by simpa using har
  rcases ha with ha | ha
  · exact .inl ⟨a, xs, v, x, rfl, rfl, SqL.of (k.keep _ _ nm ha), at', q H' _ x hx hR' k⟩
  · exact .inr (.inl ⟨a, xs, v, x, rfl, rfl, SqT.of (k.keep _ _ nm ha), at', q H' _ x hx hR' k⟩)
abbrev nAl : List Str := ["_law_found", "_law_due", "_law_k"]
theorem sc39 : FnScope nAl ["_law_found", "_law_due"] (defScope (top 39)) := ⟨rfl, rfl, rfl, by decide +kernel, rfl, by decide +kernel, by decide +kernel⟩
theorem kit_tl {K : PySem.W.Frag} {x : String} {b : Bool} (h1 : kitB x "tuple" = some b) (h2 : b = false → kitB x "list" = some false) : PySem.W.kitAny K (.type x) [.type "tuple", .type "list"] = some b := by
  cases b with
  | true => exact kitAny_cons (b := true) (kit_ty h1) (fun z => by cases z) fun _ => rfl
  | false => exact kitAny_cons (b := false) (kit_ty h1) (fun _ => kitAny_cons (b := false) (kit_ty (h2 rfl)) (fun _ => kitAny_nil) fun z => by cases z) fun z => by cases z
theorem kit_l {K : PySem.W.Frag} : PySem.W.kitAny K (.type "list") [.type "tuple", .type "list"] = some true :=
  kitAny_cons (b := false) (kit_ty (by decide +kernel)) (fun _ => kitAny_cons (b := true) (kit_ty (by decide +kernel)) (fun z => by cases z) fun _ => rfl) fun z => by cases z
/-- the class of a list, of a tuple -/
def lt (l : Bool) : String := if l then "list" else "tuple"
theorem ok_alike (D : Dx K mg "_law_alike" (top 39) ["_law_found", "_law_due"]) (B : Bt mg) : ∀ d : Nat, Df P w K mg base CX0 (d + 1) "_law_alike" ["_law_found", "_law_due"] (spAlk d)
  | 0 => by
    refine D.ok sc39 (fun vs H Q E h => by obtain ⟨u, v, rfl, _⟩ := h; rfl) (fun f cdv A outer s0 H vs Q E hr h => ?_)
    obtain ⟨u, v, rfl, ⟨i, rfl, rfl⟩, q⟩ := h
    refine ⟨_, pss_cons (ps_if (pt_val (pe_callB call_isiT (by rfl) B.isi (by decide +kernel) (pa_cons (pv 1) (pa_cons (pe_tup (pa_cons (pe_bltn (v := .ty "tuple") (by rfl) B.tuple (by decide +kernel) rfl) (pa_cons (pe_bltn (v := .ty "list") (by rfl) B.list (by decide +kernel) rfl) pa_nil))) pa_nil)))) pss_never pss_nil)
      (pss_cons (ps_if (PW.pt (pw_or (pt_cmpR op_isN (pv 1) pe_non (nomark _)) (pw_or1 (pt_val (pe_callB call_isi (by rfl) B.isi (by decide +kernel) (pa_cons (pv 1) (pa_cons (pe_bltn (v := .ty "str") (by rfl) B.str (by decide +kernel) rfl) pa_nil))))))) pss_never pss_nil)
      (pss_one (ps_ret (pe_and (pe_callB call_isi (by rfl) B.isi (by decide +kernel) (pa_cons (pv 0) (pa_cons (pe_bltn (v := .ty "int") (by rfl) B.int (by decide +kernel) rfl) pa_nil)))
        (pe_and (pe_cmpR op_eq (pe_callB call_isi (by rfl) B.isi (by decide +kernel) (pa_cons (pv 0) (pa_cons (pe_bltn (v := .ty "bool") (by rfl) B.bool (by decide +kernel) rfl) pa_nil))) (pe_callB call_isi (by rfl) B.isi (by decide +kernel) (pa_cons (pv 1) (pa_cons (pe_bltn (v := .ty "bool") (by rfl) B.bool (by decide +kernel) rfl) pa_nil))) (nomark _))
          (pe_one (pe_cmpR op_eq (pv 0) (pv 1) (nomark _)))))))), ?_⟩
    refine ⟨_, rfl, by show 2 ≤ sizeLine; decide, fun tp htp => ?_⟩
    refine ⟨_, tp, _, _, _, false, rfl, upd_same, .cons (.ty _) (.cons (.ty _) .nil), .base (.int i), kit_tl (by decide +kernel) (fun _ => by decide +kernel), false, rfl, iteF ?_⟩
    refine ⟨_, rfl, rfl, false, rfl, iteF ⟨_, rfl, _, _, _, _, false, rfl, .ty _, .base (.int i), kit_ty (by decide +kernel), false, rfl, iteF ?_⟩⟩
    refine ⟨_, rfl, _, _, _, _, true, rfl, .ty _, .base (.int i), kit_ty (by decide +kernel), true, rfl, iteT ?_⟩
    refine ⟨_, rfl, _, _, _, _, false, rfl, .ty _, .base (.int i), kit_ty (by decide +kernel), _, rfl, _, _, _, _, false, rfl, .ty _, .base (.int i), kit_ty (by decide +kernel), rfl, true, rfl, iteT ⟨_, rfl, _, rfl, rfl, ?_⟩⟩
    have : decide (V.int i = V.int i) = true := decide_eq_true rfl
    show Q (.bl (decide (V.int i = V.int i))) _
    rw [this]
    exact q _ (Kp.new (S := []) htp).same
  | d + 1 => by
    have D1 := ok_alike D B d
    refine D.ok sc39 (fun vs H Q E h => by obtain ⟨u, v, rfl, _⟩ := h; rfl) (fun f cdv A outer s0 H vs Q E hr h => ?_)
    obtain ⟨u, v, rfl, ⟨a, b, xs, ys, rfl, rfl, hab, hp, hz⟩, q⟩ := h
    refine ⟨_, pss_cons (ps_if (pt_val (pe_callB call_isiT (by rfl) B.isi (by decide +kernel) (pa_cons (pv 1) (pa_cons (pe_tup (pa_cons (pe_bltn (v := .ty "tuple") (by rfl) B.tuple (by decide +kernel) rfl) (pa_cons (pe_bltn (v := .ty "list") (by rfl) B.list (by decide +kernel) rfl) pa_nil))) pa_nil))))
        (pss_cons (ps_if (PW.pt (pw_or (pt_not (pt_val (pe_callB call_isiT (by rfl) B.isi (by decide +kernel) (pa_cons (pv 0) (pa_cons (pe_tup (pa_cons (pe_bltn (v := .ty "tuple") (by rfl) B.tuple (by decide +kernel) rfl) (pa_cons (pe_bltn (v := .ty "list") (by rfl) B.list (by decide +kernel) rfl) pa_nil))) pa_nil)))))
            (pw_or1 (pt_cmpR op_ne (pe_callB call_isi (by rfl) B.isi (by decide +kernel) (pa_cons (pv 0) (pa_cons (pe_bltn (v := .ty "list") (by rfl) B.list (by decide +kernel) rfl) pa_nil))) (pe_callB call_isi (by rfl) B.isi (by decide +kernel) (pa_cons (pv 1) (pa_cons (pe_bltn (v := .ty "list") (by rfl) B.list (by decide +kernel) rfl) pa_nil))) (nomark _))))) (pss_one (ps_ret pe_bl)) pss_nil)
        (pss_cons (ps_if (pt_cmpR op_ne (pe_callB cr_len (by rfl) B.len PySem.boot_len (pa_cons (pv 0) pa_nil)) (pe_callB cr_len (by rfl) B.len PySem.boot_len (pa_cons (pv 1) pa_nil)) (nomark _)) (pss_one (ps_ret pe_bl)) pss_nil)
        (pss_one (ps_ret (pe_cmpR (op_eqD hr.units) (pe_lc (own := [("_law_k", 2)]) (g := gName 2) (tt := tNot (tB (tCall (spAlk d) [] E0 (tCons (tOp (rIx K) (tVar 0) (tVar 2)) (tCons (tOp (rIx K) (tVar 1) (tVar 2)) tNil))))) (te := tVar 2) rfl sc39.nd
            (pi_range1 (by rfl) B.range (pa_cons (pe_callB cr_len (by rfl) B.len PySem.boot_len (pa_cons (pv 1) pa_nil)) pa_nil)) (blkOk_by (N := nAl) (sc := defScope (top 39)) (by decide +kernel)) (fun _ _ _ _ _ => pg_name (i := 2) sc39.nd rfl (Or.inl rfl))
            (fun _ _ _ _ _ => pts_one (pt_not (pt_val (pe_df D1 hr (Nat.le_refl _) (by rfl) pass0 (pa_cons (pe_ix ix_seq (pv 0) (pv 2) (fun _ _ => rfl)) (pa_cons (pe_ix ix_seq (pv 1) (pv 2) (fun _ _ => rfl)) pa_nil)))))) (fun _ _ _ _ _ => pv 2)) (pe_lst pa_nil) (nomark _)))))) pss_nil)
      pss_never, ?_⟩
    -- which kind
    obtain ⟨l, ta, tb, sa, sb⟩ : ∃ l : Bool, (∀ H', Same H H' → TyX K H' (.ref a) (.type (lt l))) ∧ (∀ H', Same H H' → TyX K H' (.ref b) (.type (lt l))) ∧ (∀ H', Same H H' → SqE H' a xs) ∧ (∀ H', Same H H' → SqE H' b ys) := by
      rcases hab with ⟨e1, e2⟩ | ⟨e1, e2⟩
      · exact ⟨true, fun H' k => .base (.lst (k _ _ e1)), fun H' k => .base (.lst (k _ _ e2)), fun H' k => .inl (k _ _ e1), fun H' k => .inl (k _ _ e2)⟩
      · exact ⟨false, fun H' k => .base (.tup (k _ _ e1)), fun H' k => .base (.tup (k _ _ e2)), fun H' k => .inr (k _ _ e1), fun H' k => .inr (k _ _ e2)⟩
    have kt : PySem.W.kitAny K (.type (lt l)) [.type "tuple", .type "list"] = some true := by
      cases l with
      | true => exact kit_l
      | false => exact kit_tl (x := "tuple") (by decide +kernel) fun z => by cases z
    have kl : PySem.W.kitOne K (.type (lt l)) (.type "list") = some l := by
      cases l with
      | true => exact kit_ty (by decide +kernel)
      | false => exact kit_ty (by decide +kernel)
    have hlen := pd_len hp
    refine ⟨_, rfl, by show 2 ≤ sizeLine; decide, fun tp htp => ?_⟩
    have k1 := (Kp.new (S := []) (o := .tup [.ty "tuple", .ty "list"]) htp).same
    refine ⟨_, tp, _, _, _, true, rfl, upd_same, .cons (.ty _) (.cons (.ty _) .nil), tb _ k1, kt, true, rfl, iteT ?_⟩
    refine ⟨_, rfl, by show 2 ≤ sizeLine; decide, fun tp2 htp2 => ?_⟩
    have k2 := k1.trans (Kp.new (S := []) (o := .tup [.ty "tuple", .ty "list"]) htp2).same
    refine ⟨_, tp2, _, _, _, true, rfl, upd_same, .cons (.ty _) (.cons (.ty _) .nil), ta _ k2, kt, true, rfl, iteF ?_⟩
    refine ⟨_, rfl, _, _, _, _, l, rfl, .ty _, ta _ k2, kl, _, rfl, _, _, _, _, l, rfl, .ty _, tb _ k2, kl, rfl, false, ?_, iteF ?_⟩
    · have : decide (V.bl l = V.bl l) = true := decide_eq_true rfl
      rw [this]
      rfl
    refine ⟨_, rfl, rln_sq (sa _ k2) ⟨_, rfl, rln_sq (sb _ k2) ⟨rfl, false, ?_, iteF ?_⟩⟩⟩
    · have : decide (V.int (xs.length : Int) = V.int (ys.length : Int)) = true := decide_eq_true (by rw [hlen])
      rw [this]
      rfl
    -- [.. if not alike] == []
    refine ⟨_, rfl, rln_sq (sb _ k2) ⟨(ys.length : Int), rfl, by omega, by omega, ?_⟩⟩
    rw [Int.toNat_natCast]
    refine fun D0 hD0 => ?_
    refine lc_gen walk_range hD0 (by rw [← hlen]; exact Nat.le_trans hz (by decide)) [] (by simp) (fun H' => True) (fun i acc _ => acc = []) (fun _ _ _ _ => True.intro) (fun _ _ _ _ _ h => h) (fun i acc _ h => by rw [h]; exact Nat.zero_le _) (fun _ _ _ => True.intro) True.intro rfl
      (fun i x H2 H3 acc hi k j pp eD y K1 K0 c1 c0 => ?_) (fun H2 acc k j pp eD => ?_)
    · obtain ⟨rfl, rfl⟩ := y
      have k3 := k2.trans k.same
      obtain ⟨x, hx⟩ : ∃ x, xs[i]? = some x := ⟨_, List.getElem?_eq_getElem (by omega)⟩
      obtain ⟨y, hy, hxy⟩ := pd_get hp hx
      have ix : ∀ {c : Addr} {zs : List V} {z : V} {Q' : VK} {H' : Hp}, SqE H' c zs → zs[i]? = some z → Q' z H' → rIx K (.ref c) (.int (0 + (i : Int))) H' Q' := fun {c zs z Q' H'} s e q => by
        have at' : atI zs (0 + (i : Int)) = some z := by rw [Int.zero_add]; exact atI_nat e
        rcases s with s | s
        · exact .inl ⟨c, zs, _, z, rfl, rfl, SqL.of s, at', q⟩
        · exact .inr (.inl ⟨c, zs, _, z, rfl, rfl, SqT.of s, at', q⟩)
      refine ⟨rfl, _, rfl, _, rfl, ix (sa _ k3) hx ⟨_, rfl, _, rfl, ix (sb _ k3) hy ⟨x, y, rfl, hxy.same k3, fun H' k4 => ⟨true, rfl, iteF (c0 _ (.of_same k4) True.intro pp)⟩⟩⟩⟩
    · refine ⟨by show 0 ≤ sizeLine; exact Nat.zero_le _, fun p hp => ?_⟩
      have nD : D0 ≠ p := fun z => by
        rw [← z, eD] at hp
        cases hp
      have eD' : upd H2 p (.lst []) D0 = some (.lst []) := by rw [upd_ne nD, eD, pp]
      refine ⟨.list [], .list [], .lst (SqL.of eD') .nil, .lst (SqL.of upd_same) .nil, rfl, rfl, ?_⟩
      show Q (.bl (PyData.eqv (.list []) (.list []))) _
      rw [show PyData.eqv (.list []) (.list []) = true by decide +kernel]
      exact q _ ((k2.trans k.same).trans (Kp.new (S := []) hp).same)
end
end K18

set_option linter.all false
set_option Elab.async false
set_option maxRecDepth 100000
set_option maxHeartbeats 4000000
namespace K18
open PySem PySem.Spec PyProof.Rows L2 SH

/-! ### _law_simplex -/
theorem map_era {α β : Type} (f : α → β) : ∀ (xs : List α) (j : Nat), (xs.map f).eraseIdx j = (xs.eraseIdx j).map f
  | [], _ => rfl
  | x :: xs, 0 => rfl
  | x :: xs, j + 1 => congrArg (f x :: ·) (map_era f xs j)
theorem era_perm {α : Type} : ∀ {xs : List α} {j : Nat} {x : α}, xs[j]? = some x → (x :: xs.eraseIdx j).Perm xs
  | [], _, _, h => by simp at h
  | y :: xs, 0, x, h => by
    simp at h
    subst h
    exact .refl _
  | y :: xs, j + 1, x, h => (List.Perm.swap y x _).trans ((era_perm (xs := xs) (j := j) (by simpa using h)).cons y)
theorem move_perm {xs fs : List Int} {j : Nat} {x : Int} (h : xs[j]? = some x) : (xs.eraseIdx j ++ (fs ++ [x])).Perm (xs ++ fs) := by
  rw [← List.append_assoc]
  refine (List.perm_append_singleton x _).trans ?_
  exact (era_perm h).append_right fs
theorem simp_of {ns ms : List Int} (p : ms.Perm ns) (o : ms.Pairwise (· ≤ ·)) (nd : ns.Nodup) (b : ∀ x ∈ ns, 0 ≤ x ∧ x < 7) : Simp ms := by
  have nd' : ms.Nodup := (p.nodup_iff).mpr nd
  refine ⟨?_, fun x hx => (b x (p.mem_iff.mp hx)).1, fun x hx => (b x (p.mem_iff.mp hx)).2⟩
  rw [List.pairwise_iff_getElem] at o ⊢
  intro i j hi hj hij
  have h1 := o i j hi hj hij
  have h2 := List.pairwise_iff_getElem.mp nd' i j hi hj hij
  omega
def spSx (K : PySem.W.Frag) : Sp := fun vs H Q _ => ∃ (r scr : Addr) (ns : List Int), vs = [.ref r, .int 7, .int 4] ∧ Row K H r scr ns ∧ ∀ (H' : Hp) (p : Addr) (s : S), Row K H' r scr ns → Kp [r] H H' → H p = none → H' p = some (tp s) → Simp s → s ≠ [] → Q (.ref p) H'
section
variable {P : Program} {w : World} {K : PySem.W.Frag} {mg : Str → Option Value} {base : Heap}
abbrev nSx : List Str := ["_law_row", "_law_most", "_law_size", "_law_left", "_law_found", "_law_turn"]
theorem sc40 : FnScope nSx ["_law_row", "_law_most", "_law_size"] (defScope (top 40)) := ⟨rfl, rfl, rfl, by decide +kernel, rfl, by decide +kernel, by decide +kernel⟩
theorem ok_simplex (D : Dx K mg "_law_simplex" (top 40) ["_law_row", "_law_most", "_law_size"]) (B : Bt mg) (D37 : Df P w K mg base CX0 1 "_law_taken" ["_law_row", "_law_many"] (spTaken K)) : Df P w K mg base CX0 2 "_law_simplex" ["_law_row", "_law_most", "_law_size"] (spSx K) := by
  refine D.ok sc40 (fun vs H Q E h => by obtain ⟨r, scr, ns, rfl, _⟩ := h; rfl) (fun f cdv A outer s0 H vs Q E hr h => ?_)
  obtain ⟨r, scr, ns, rfl, hR, q⟩ := h
  refine ⟨_, pss_cons (ps_par (i := 3) (j := 4) rfl sc40.nd rfl rfl (by decide) rfl rfl (pa_cons (pe_listRg rfl (by rfl) B.list (prg_1 (by rfl) B.range (pv 1))) (pa_cons (pe_lst pa_nil) pa_nil)) (by rfl))
    (pss_cons (ps_for PassesOwn.never rfl (pi_range1 (by rfl) B.range (pa_cons (pe_callB (call_min2 rfl) (by rfl) B.min (by decide +kernel) (pa_cons (pv 1) (pa_cons (pe_op op_add pe_int (pe_df D37 hr (by decide) (by rfl) pass0 (pa_cons (pv 0) (pa_cons (pv 2) pa_nil)))) pa_nil))) pa_nil)) (pg_name (i := 5) sc40.nd rfl (.inl rfl))
      (pss_one (ps_expr (pe_bm PySem.F.plainAttrs_list PySem.F.slot_list_append PySem.F.type_list_append mt_append (pv 4) (pa_cons (pe_bm PySem.F.plainAttrs_list PySem.F.slot_list_pop PySem.F.type_list_pop mt_popAt (pv 3)
        (pa_cons (pe_df D37 hr (by decide) (by rfl) pass0 (pa_cons (pv 0) (pa_cons (pe_callB cr_len (by rfl) B.len PySem.boot_len (pa_cons (pv 3) pa_nil)) pa_nil))) pa_nil)) pa_nil)))))
    (pss_one (ps_ret (pe_callTy call_tuple_of (by rfl) B.tuple (by decide +kernel) (pa_cons (pe_callB cr_sortedI (by rfl) B.sorted (by decide +kernel) (pa_cons (pv 4) pa_nil)) pa_nil))))), ?_⟩
  have rg : rgV 0 7 = ([0, 1, 2, 3, 4, 5, 6] : List Int).map V.int := by rfl
  refine ⟨_, rfl, _, rfl, RgOk.of_le (by decide) (by decide) (by decide) (by decide), fun l hl => ?_⟩
  rw [rg]
  refine ⟨by show 0 ≤ sizeLine; exact Nat.zero_le _, fun g hg => ?_⟩
  have hg0 : H g = none := (Kp.new (S := []) hl).free hg
  have hlg : l ≠ g := fun z => by
    rw [← z, upd_same] at hg
    cases hg
  have k0 : Kp [] H (upd (upd H l (.lst (([0, 1, 2, 3, 4, 5, 6] : List Int).map V.int))) g (.lst [])) := (Kp.new hl).new' hg
  have hR0 := hR.same k0.same
  have lr : l ∉ ([r] : List Addr) := fun z => by
    obtain ⟨b, c, d, e, _⟩ := hR.ex
    have : l = r := by simpa using z
    rw [this, e] at hl
    cases hl
  have gr : g ∉ ([r] : List Addr) := fun z => by
    obtain ⟨b, c, d, e, _⟩ := hR.ex
    have : g = r := by simpa using z
    rw [this, e] at hg0
    cases hg0
  refine ⟨_, _, rfl, ?_⟩
  -- how many
  refine ⟨_, rfl, _, rfl, _, rfl, r, scr, ns, 4, rfl, hR0, by decide, by decide, fun H1 v hR1 k1 v0 v1 => ⟨_, _, rfl, rfl, _, _, rfl, _, rfl, ?_, ?_, ?_⟩⟩
  · split <;> omega
  · split <;> omega
  obtain ⟨n, hn, n1, n4⟩ : ∃ n : Nat, (if (1 + v : Int) < 7 then 1 + v else 7 : Int).toNat = n ∧ 1 ≤ n ∧ n ≤ 4 := ⟨(1 + v).toNat, by rw [if_pos (by omega)], by omega, by omega⟩
  rw [hn]
  have e1 : upd (upd H l (.lst (([0, 1, 2, 3, 4, 5, 6] : List Int).map V.int))) g (.lst []) l = some (.lst (([0, 1, 2, 3, 4, 5, 6] : List Int).map V.int)) := by rw [upd_ne hlg, upd_same]
  refine for_it walk_range (fun i σ H' => ∃ (ls fs : List Int) (v5 : Option V), σ = [some (.ref r), some (.int 7), some (.int 4), some (.ref l), some (.ref g), v5] ∧ Row K H' r scr ns ∧ Kp [r] H H' ∧ H' l = some (.lst (ls.map V.int)) ∧ H' g = some (.lst (fs.map V.int)) ∧ (ls ++ fs).Nodup ∧ (∀ x ∈ ls ++ fs, 0 ≤ x ∧ x < 7) ∧ ls.length + i = 7 ∧ fs.length = i)
    ⟨[0, 1, 2, 3, 4, 5, 6], [], none, rfl, hR1, (k0.mono (by simp)).trans k1, k1.keep _ _ lr e1, k1.keep _ _ gr upd_same, by decide, by decide, rfl, rfl⟩ (fun _ _ _ _ _ => True.intro) ?_ ?_
  · rintro i x σ H2 H3 hi ⟨ls, fs, v5, rfl, hR2, k2, el, eg, nd, bd, hl7, hfi⟩ ⟨rfl, rfl⟩
    -- found.append(left.pop(..))
    refine ⟨_, rfl, .inl ⟨rfl, _, SqL.of eg⟩, _, rfl, .inl ⟨rfl, _, SqL.of el⟩, _, rfl, _, rfl, rln_lst el ⟨r, scr, ns, _, rfl, hR2, by rw [List.length_map]; omega, by rw [List.length_map]; omega, fun H4 v hR4 k4 v0 v1 => ?_⟩⟩
    rw [List.length_map] at v1
    obtain ⟨y, hy⟩ : ∃ y, ls[v.toNat]? = some y := ⟨_, List.getElem?_eq_getElem (by omega)⟩
    have el4 := k4.keep _ _ lr el
    have eg4 := k4.keep _ _ gr eg
    refine ⟨l, _, v, v.toNat, .int y, rfl, rfl, el4, by omega, by omega, seqIndex_of v0 (by rw [List.length_map]; exact v1), by rw [List.getElem?_map, hy]; rfl, ?_⟩
    rw [map_era]
    have k5 : Kp [r] H (upd H4 l (.lst ((ls.eraseIdx v.toNat).map V.int))) := (k2.trans k4).put0 hl
    have hR5 := hR.put0 (o := .lst ((ls.eraseIdx v.toNat).map V.int)) hl hR4
    have eg5 : upd H4 l (.lst ((ls.eraseIdx v.toNat).map V.int)) g = some (.lst (fs.map V.int)) := by rw [upd_ne hlg.symm]; exact eg4
    refine ⟨g, _, _, rfl, rfl, eg5, by rw [List.length_map, hfi]; exact Nat.lt_of_lt_of_le (by omega : i < 8) (by decide), ?_⟩
    have hp := move_perm (fs := fs) hy
    refine ⟨ls.eraseIdx v.toNat, fs ++ [y], _, rfl, hR.put0 hg0 hR5, k5.put0 hg0, by rw [upd_ne hlg, upd_same], by rw [upd_same, List.map_append]; rfl, (hp.nodup_iff).mpr nd, fun x hx => bd x (hp.mem_iff.mp hx), ?_, by rw [List.length_append, hfi]; rfl⟩
    have := (era_perm hy).length_eq
    rw [List.length_cons] at this
    omega
  · rintro σ H2 ⟨ls, fs, v5, rfl, hR2, k2, el, eg, nd, bd, hl7, hfi⟩
    refine ⟨_, rfl, g, fs, rfl, SqL.of eg, fun ms p perm srt hp => ⟨p, _, rfl, .inl ⟨SqL.of upd_same, fun u hu => ?_⟩⟩⟩
    have kn : Kp [] H2 (upd (upd H2 p (.lst (ms.map V.int))) u (.tup (ms.map V.int))) := (Kp.new hp).new' hu
    refine q _ u ms (hR2.same kn.same) (k2.trans (kn.mono (by simp))) (k2.free ((Kp.new (S := []) hp).free hu)) upd_same (simp_of perm srt (nd.sublist (List.sublist_append_right _ _)) fun x hx => bd x (List.mem_append_right _ hx)) fun z => ?_
    have := perm.length_eq
    rw [z, hfi] at this
    simp at this
    omega
end
end K18

set_option linter.all false
set_option Elab.async false
set_option maxRecDepth 100000
set_option maxHeartbeats 400000
namespace K18
open PySem PySem.Spec PyProof.Rows L2 SH

/-! ### tuple(list), sorted(ints), int(i), written tuples -/
structure rTpl (K : PySem.W.Frag) (xs : List V) (H : Hp) (Q : VK) : Prop where
  ex : ∃ p ys, xs = [.ref p] ∧ SqL K H p ys ∧ ∀ l, H l = none → Q (.ref l) (upd H l (.tup ys))
theorem cr_tpl {X : Cx} : CallR X (.type "tuple") (rTpl X.K) := fun pins s σ H vs us Q I r h => call_tuple_of pins s σ H vs us Q I r (by
  obtain ⟨p, ys, e, h1, h2⟩ := h.ex
  exact ⟨p, ys, e, .inl ⟨h1, h2⟩⟩)
structure rSI (K : PySem.W.Frag) (xs : List V) (H : Hp) (Q : VK) : Prop where
  ex : rSortedI K xs H Q
theorem cr_si {X : Cx} : CallR X (.builtin "sorted") (rSI X.K) := fun pins s σ H vs us Q I r h => cr_sortedI pins s σ H vs us Q I r h.ex
structure rInt (xs : List V) (H : Hp) (Q : VK) : Prop where
  ex : ∃ i : Int, xs = [.int i] ∧ Q (.int i) H
theorem cr_int {X : Cx} : CallR X (.type "int") rInt := fun pins s σ H vs us Q I r h => call_int1 pins s σ H vs us Q I r (.inl h.ex)
theorem ts_use {K : PySem.W.Frag} {H : Hp} {D : Addr} {ns : List Int} {Q : VK} (e : H D = some (.lst (ns.map V.int))) (nd : ns.Nodup) (bd : ∀ x ∈ ns, 0 ≤ x ∧ x < 7) (ne : ns ≠ []) (q : ∀ (H' : Hp) (v : V) (s : S), Same H H' → Tp H' v s → Simp s → s ≠ [] → Q v H') :
    rSI K [.ref D] H (fun x H1 => rTpl K [x] H1 Q) := by
  refine ⟨⟨D, ns, rfl, SqL.of e, fun ms p perm srt hp => ⟨⟨p, _, rfl, SqL.of upd_same, fun u hu => ?_⟩⟩⟩⟩
  refine q _ _ ms ((Kp.new hp).new' hu : Kp [] H _).same ⟨u, rfl, upd_same⟩ (simp_of perm srt nd bd) fun z => ?_
  have := perm.length_eq
  rw [z] at this
  exact ne (List.eq_nil_of_length_eq_zero this.symm)
def tLitI : S → TA
  | [] => tNil
  | a :: s => tCons (tC (.int a)) (tLitI s)
def tLits : List S → TA
  | [] => tNil
  | s :: L => tCons (tTup (tLitI s)) (tLits L)
theorem litI_use : ∀ (s : S) {σ : L2.St} {H : Hp} {Q : List V → Hp → Prop}, Q (s.map V.int) H → tLitI s σ H Q
  | [], _, _, _, q => q
  | a :: s, σ, H, Q, q => litI_use s (Q := fun xs H2 => Q (V.int a :: xs) H2) q
theorem lits_use : ∀ (L : List S) {σ : L2.St} {H : Hp} {Q : List V → Hp → Prop}, (∀ s ∈ L, s.length ≤ 1000) → (∀ (H' : Hp) (vs : List V), Same H H' → Tps H' vs L → Q vs H') → tLits L σ H Q
  | [], _, H, _, _, q => q H [] (.refl _) .nil
  | s :: L, σ, H, Q, hl, q => by
    refine litI_use s ⟨?_, fun p hp => ?_⟩
    · rw [List.length_map]
      exact Nat.le_trans (hl s (by simp)) (by decide)
    · have k := (Kp.new (S := []) (o := tp s) hp).same
      refine lits_use L (fun s hs => hl s (by simp [hs])) fun H' vs k2 t => q H' _ (k.trans k2) (.cons ⟨p, rfl, k2 _ _ upd_same⟩ t)
structure tLitS (L : List S) (σ : L2.St) (H : Hp) (Q : List V → Hp → Prop) : Prop where
  run : tLits L σ H Q
theorem pa_lits {X : Cx} {es : List Expr} {L : List S} (h : PA X es (tLits L)) : PA X es (tLitS L) := ⟨fun pos pins s σ H Q I k => h.run pos pins s σ H Q I k.run⟩
theorem litS_use (L : List S) {σ : L2.St} {H : Hp} {Q : List V → Hp → Prop} (hl : ∀ s ∈ L, s.length ≤ 1000) (q : ∀ (H' : Hp) (vs : List V), Same H H' → Tps H' vs L → Q vs H') : tLitS L σ H Q := ⟨lits_use L hl q⟩
theorem Row.kpD {K : PySem.W.Frag} {H0 H H' : Hp} {r scr D : Addr} {ns : List Int} (h0 : Row K H0 r scr ns) (hD : H0 D = none) (h : Row K H r scr ns) (k : Kp [D] H H') : Row K H' r scr ns := by
  obtain ⟨b0, c0, d0, e0, _⟩ := h0.ex
  obtain ⟨b, c, d, e, h1⟩ := h.ex
  have nr : r ≠ D := fun z => by
    rw [z, hD] at e0
    cases e0
  refine ⟨⟨b, c, d, k.keep _ _ (by simpa using nr) e, h1⟩, ?_⟩
  rcases h0.sq with (q | ⟨o', q⟩) | q
  · exact sql_put h.sq fun u hu => k.keep _ _ (by simpa using ne_of_none q hD) hu
  · exact sql_put h.sq fun u hu => k.keep _ _ (by simpa using ne_of_none q hD) hu
  · exact .inr q
/-! ### _law_simplices -/
def om (m a : Nat) : S := ((List.range m).map fun i : Nat => (i : Int)).filter fun x => decide (x ≠ (a : Int))
theorem rg_asc (m : Nat) : ((List.range m).map fun i : Nat => (i : Int)).Pairwise (· < ·) := by
  rw [List.pairwise_map]
  exact (List.pairwise_lt_range (n := m)).imp fun h => by omega
theorem om_simp {m a : Nat} (h2 : 2 ≤ m) (h7 : m ≤ 7) : Simp (om m a) ∧ om m a ≠ [] := by
  have mem : ∀ x, x ∈ om m a ↔ (∃ i, i < m ∧ x = (i : Int)) ∧ x ≠ (a : Int) := fun x => by
    unfold om
    rw [List.mem_filter, List.mem_map]
    constructor
    · rintro ⟨⟨i, hi, rfl⟩, h⟩
      exact ⟨⟨i, List.mem_range.mp hi, rfl⟩, of_decide_eq_true h⟩
    · rintro ⟨⟨i, hi, rfl⟩, h⟩
      exact ⟨⟨i, List.mem_range.mpr hi, rfl⟩, decide_eq_true h⟩
  refine ⟨⟨(rg_asc m).sublist List.filter_sublist, fun x hx => ?_, fun x hx => ?_⟩, fun z => ?_⟩
  · obtain ⟨⟨i, _, rfl⟩, _⟩ := (mem x).mp hx
    omega
  · obtain ⟨⟨i, _, rfl⟩, _⟩ := (mem x).mp hx
    omega
  · have h0 : ¬ _ := fun e => absurd ((mem 0).mpr e) (by rw [z]; simp)
    have h1 : ¬ _ := fun e => absurd ((mem 1).mpr e) (by rw [z]; simp)
    apply h0
    refine ⟨⟨0, by omega, rfl⟩, fun e => ?_⟩
    apply h1
    exact ⟨⟨1, by omega, rfl⟩, by omega⟩
theorem way2 : ∀ i ∈ List.range 7, (([0 + (i : Int), (0 + (i : Int) + 1) % 7, (0 + (i : Int) + 3) % 7] : List Int).Nodup ∧ ∀ x ∈ ([0 + (i : Int), (0 + (i : Int) + 1) % 7, (0 + (i : Int) + 3) % 7] : List Int), 0 ≤ x ∧ x < 7) ∧
    (([0 + (i : Int), (0 + (i : Int) + 2) % 7, (0 + (i : Int) + 3) % 7] : List Int).Nodup ∧ ∀ x ∈ ([0 + (i : Int), (0 + (i : Int) + 2) % 7, (0 + (i : Int) + 3) % 7] : List Int), 0 ≤ x ∧ x < 7) := by decide
theorem way3 {m i : Nat} (h3 : 3 ≤ m) (h7 : m ≤ 7) (hi : i < m) {mm : Int} (e : mm = (m : Int)) : ([0 + (i : Int), (0 + (i : Int) + 1) % mm] : List Int).Nodup ∧ ∀ x ∈ ([0 + (i : Int), (0 + (i : Int) + 1) % mm] : List Int), 0 ≤ x ∧ x < 7 := by
  subst e
  have b1 : 0 ≤ (0 + (i : Int) + 1) % (m : Int) := Int.emod_nonneg _ (by omega)
  have b2 : (0 + (i : Int) + 1) % (m : Int) < (m : Int) := Int.emod_lt_of_pos _ (by omega)
  have ne : 0 + (i : Int) ≠ (0 + (i : Int) + 1) % (m : Int) := by
    by_cases c : i + 1 = m
    · have : (0 + (i : Int) + 1) % (m : Int) = 0 := by
        rw [show 0 + (i : Int) + 1 = (m : Int) by omega]
        exact Int.emod_self
      omega
    · have : (0 + (i : Int) + 1) % (m : Int) = 0 + (i : Int) + 1 := Int.emod_eq_of_lt (by omega) (by omega)
      omega
  refine ⟨List.nodup_cons.mpr ⟨by simpa using ne, by simp⟩, fun x hx => ?_⟩
  rcases List.mem_cons.mp hx with rfl | hx
  · omega
  · rw [List.mem_singleton] at hx
    subst hx
    omega
theorem l10_ok : ∀ s ∈ ([[0, 1, 2], [0, 1, 3], [0, 2, 4], [0, 3, 5], [0, 4, 5], [1, 2, 5], [1, 3, 4], [1, 4, 5], [2, 3, 4], [2, 3, 5]] : List S), Simp s ∧ s ≠ [] := by
  intro s hs
  simp only [List.mem_cons, List.not_mem_nil, or_false] at hs
  rcases hs with rfl | rfl | rfl | rfl | rfl | rfl | rfl | rfl | rfl | rfl <;> exact ⟨⟨by decide, by decide, by decide⟩, by simp⟩
def spSs (K : PySem.W.Frag) : Sp := fun vs H Q _ => ∃ (r scr : Addr) (ns : List Int), vs = [.ref r, .int 7, .int 4] ∧ Row K H r scr ns ∧ ∀ (H' : Hp) (p : Addr) (bs : List V) (L : List S), Row K H' r scr ns → Kp [r] H H' → H' p = some (.tup bs) → Tps H' bs L → (∀ s ∈ L, Simp s ∧ s ≠ []) → L.length ≤ 14 → Q (.ref p) H'
abbrev L10 : List S := [[0, 1, 2], [0, 1, 3], [0, 2, 4], [0, 3, 5], [0, 4, 5], [1, 2, 5], [1, 3, 4], [1, 4, 5], [2, 3, 4], [2, 3, 5]]
abbrev scO : Scope := { kind := .function, names := [(".0", .local), ("_law_at", .cell), ("tuple", .globalImplicit), ("range", .globalImplicit), ("_law_many", .cell)], isGenerator := false, isCoroutine := false, more := [] }
section
variable {P : Program} {w : World} {K : PySem.W.Frag} {mg : Str → Option Value} {base : Heap}
abbrev nSs : List Str := ["_law_row", "_law_most", "_law_size", "_law_way", "_law_many", "_law_found", "_law_at", "_law_vertex", "_law_turn"]
theorem sc41 : FnScope nSs ["_law_row", "_law_most", "_law_size"] (defScope (top 41)) := ⟨rfl, rfl, rfl, by decide +kernel, rfl, by decide +kernel, by decide +kernel⟩
abbrev tMd (a b : TE) : TE := tOp (rI (fun _ j => 0 < j) fun i j => .int (i % j)) a b
abbrev tAt (k : Int) : TE := tCB rInt (tCons (tOp (rI0 fun i j => .int (i + j)) (tVar 6) (tC (.int k))) tNil)
theorem if3_use {way k a b : Int} {body u : TS} {D : Ends} {σ : L2.St} {H : Hp} (h3 : σ[3]? = some (some (.int way))) (h1 : σ[1]? = some (some (.int 7))) (h2 : σ[2]? = some (some (.int 4))) (ha : a < 7) (hb : b < 4) (t : body { D with nx := u D } σ H) (n : u D σ H) :
    tSeq (tIfS (tAnd (tTest (tOp rEq (tVar 3) (tC (.int k)))) (tAnd (tTest (tOp (rI0 fun i j => .bl (decide (j < i))) (tVar 1) (tC (.int a)))) (tTest (tOp (rI0 fun i j => .bl (decide (j < i))) (tVar 2) (tC (.int b)))))) body tNext) u D σ H := by
  refine ⟨_, h3, rfl, _, rfl, ite2 (fun _ => ?_) fun _ => iteF n⟩
  refine ⟨_, h1, _, _, rfl, rfl, _, rfl, ?_⟩
  rw [decide_eq_true ha]
  refine iteT ⟨_, h2, _, _, rfl, rfl, _, rfl, ?_⟩
  rw [decide_eq_true hb]
  exact iteT t
theorem ok_simplices (D : Dx K mg "_law_simplices" (top 41) ["_law_row", "_law_most", "_law_size"]) (B : Bt mg) (D37 : Df P w K mg base CX0 1 "_law_taken" ["_law_row", "_law_many"] (spTaken K)) (D40 : Df P w K mg base CX0 2 "_law_simplex" ["_law_row", "_law_most", "_law_size"] (spSx K)) :
    Df P w K mg base CX0 3 "_law_simplices" ["_law_row", "_law_most", "_law_size"] (spSs K) := by
  refine D.ok sc41 (fun vs H Q E h => by obtain ⟨r, scr, ns, rfl, _⟩ := h; rfl) (fun f cdv A outer s0 H vs Q E hr h => ?_)
  obtain ⟨r, scr, ns, rfl, hR, q⟩ := h
  refine ⟨_, pss_cons (ps_set (i := 3) sc41.nd rfl (.inl rfl) (pe_df D37 hr (by decide) (by rfl) pass0 (pa_cons (pv 0) (pa_cons pe_int pa_nil))))
    (pss_cons (ps_if (pt_cmpR op_eq (pv 3) pe_int (nomark _))
      (pss_cons (ps_set (i := 4) sc41.nd rfl (.inr rfl) (pe_op op_add pe_int (pe_df D37 hr (by decide) (by rfl) pass0 (pa_cons (pv 0) (pa_cons (pe_callB (call_min2 rfl) (by rfl) B.min (by decide +kernel) (pa_cons (pe_op op_sub (pv 1) pe_int) (pa_cons (pv 2) pa_nil))) pa_nil)))))
      (pss_one (ps_ret (pe_callTy cr_tpl (by rfl) B.tuple (by decide +kernel) (pa_cons (pe_lc (own := [("_law_at", 6)]) (g := gName 6) (tt := tYes) (te := tCB (rTpl K) (tCons (tLc (iRng1 (tCons (tVar 4) tNil)) (gName 7) (tTest (tOp rNe (tVar 7) (tVar 6))) (tVar 7) [7]) tNil)) rfl sc41.nd
        (pi_range1 (by rfl) B.range (pa_cons (pv 4) pa_nil)) (blkOk_by (N := nSs) (sc := defScope (top 41)) (by decide +kernel)) (fun _ _ _ _ _ => pg_name (i := 6) sc41.nd rfl (Or.inr rfl)) (fun _ _ _ _ _ => pts_nil)
        (fun _ _ _ _ _ => pe_callTy cr_tpl (by rfl) B.tuple (by decide +kernel) (pa_cons (pe_lc (own := [("_law_vertex", 7)]) (g := gName 7) (tt := tTest (tOp rNe (tVar 7) (tVar 6))) (te := tVar 7) rfl sc41.nd (pi_range1 (by rfl) B.range (pa_cons (pv 4) pa_nil))
          (blkOk_by (N := nSs) (sc := scO) (by decide +kernel)) (fun _ _ _ _ _ => pg_name (i := 7) sc41.nd rfl (Or.inl rfl)) (fun _ _ _ _ _ => pts_one (pt_cmpR op_ne (pv 7) (pv 6) (nomark _))) (fun _ _ _ _ _ => pv 7)) pa_nil))) pa_nil))))) pss_nil)
    (pss_cons (ps_if (PW.pt (pw_and (pt_cmpR op_eq (pv 3) pe_int (nomark _)) (pw_and (pt_cmpR op_gt (pv 1) pe_int (nomark _)) (pw_and1 (pt_cmpR op_gt (pv 2) pe_int (nomark _))))))
      (pss_one (ps_ret (pe_tup (t := tLitS L10) (pa_lits (L := L10) (by
        exact pa_cons (pe_tup (pa_cons pe_int (pa_cons pe_int (pa_cons pe_int pa_nil)))) (pa_cons (pe_tup (pa_cons pe_int (pa_cons pe_int (pa_cons pe_int pa_nil)))) (pa_cons (pe_tup (pa_cons pe_int (pa_cons pe_int (pa_cons pe_int pa_nil)))) (pa_cons (pe_tup (pa_cons pe_int (pa_cons pe_int (pa_cons pe_int pa_nil))))
          (pa_cons (pe_tup (pa_cons pe_int (pa_cons pe_int (pa_cons pe_int pa_nil)))) (pa_cons (pe_tup (pa_cons pe_int (pa_cons pe_int (pa_cons pe_int pa_nil)))) (pa_cons (pe_tup (pa_cons pe_int (pa_cons pe_int (pa_cons pe_int pa_nil)))) (pa_cons (pe_tup (pa_cons pe_int (pa_cons pe_int (pa_cons pe_int pa_nil))))
          (pa_cons (pe_tup (pa_cons pe_int (pa_cons pe_int (pa_cons pe_int pa_nil)))) (pa_cons (pe_tup (pa_cons pe_int (pa_cons pe_int (pa_cons pe_int pa_nil)))) pa_nil)))))))))))))) pss_nil)
    (pss_cons (ps_if (PW.pt (pw_and (pt_cmpR op_eq (pv 3) pe_int (nomark _)) (pw_and (pt_cmpR op_gt (pv 1) pe_int (nomark _)) (pw_and1 (pt_cmpR op_gt (pv 2) pe_int (nomark _))))))
      (pss_cons (ps_set (i := 5) sc41.nd rfl (.inl rfl) (pe_lst pa_nil))
      (pss_cons (ps_for PassesOwn.never rfl (pi_range1 (by rfl) B.range (pa_cons pe_int pa_nil)) (pg_name (i := 6) sc41.nd rfl (.inl rfl))
        (pss_cons (ps_expr (pe_bm PySem.F.plainAttrs_list PySem.F.slot_list_append PySem.F.type_list_append mt_append (pv 5) (pa_cons (pe_callTy cr_tpl (by rfl) B.tuple (by decide +kernel) (pa_cons (pe_callB cr_si (by rfl) B.sorted (by decide +kernel) (pa_cons (pe_lst (pa_cons (pv 6)
            (pa_cons (pe_op op_mod (pe_callTy cr_int (by rfl) B.int (by decide +kernel) (pa_cons (pe_op op_add (pv 6) pe_int) pa_nil)) pe_int) (pa_cons (pe_op op_mod (pe_callTy cr_int (by rfl) B.int (by decide +kernel) (pa_cons (pe_op op_add (pv 6) pe_int) pa_nil)) pe_int) pa_nil)))) pa_nil)) pa_nil)) pa_nil)))
        (pss_one (ps_expr (pe_bm PySem.F.plainAttrs_list PySem.F.slot_list_append PySem.F.type_list_append mt_append (pv 5) (pa_cons (pe_callTy cr_tpl (by rfl) B.tuple (by decide +kernel) (pa_cons (pe_callB cr_si (by rfl) B.sorted (by decide +kernel) (pa_cons (pe_lst (pa_cons (pv 6)
            (pa_cons (pe_op op_mod (pe_callTy cr_int (by rfl) B.int (by decide +kernel) (pa_cons (pe_op op_add (pv 6) pe_int) pa_nil)) pe_int) (pa_cons (pe_op op_mod (pe_callTy cr_int (by rfl) B.int (by decide +kernel) (pa_cons (pe_op op_add (pv 6) pe_int) pa_nil)) pe_int) pa_nil)))) pa_nil)) pa_nil)) pa_nil))))))
      (pss_one (ps_ret (pe_callTy cr_tpl (by rfl) B.tuple (by decide +kernel) (pa_cons (pv 5) pa_nil)))))) pss_nil)
    (pss_cons (ps_if (PW.pt (pw_and (pt_cmpR op_eq (pv 3) pe_int (nomark _)) (pw_and (pt_cmpR op_gt (pv 1) pe_int (nomark _)) (pw_and1 (pt_cmpR op_gt (pv 2) pe_int (nomark _))))))
      (pss_cons (ps_set (i := 4) sc41.nd rfl (.inr rfl) (pe_op op_add pe_int (pe_df D37 hr (by decide) (by rfl) pass0 (pa_cons (pv 0) (pa_cons (pe_op op_sub (pv 1) pe_int) pa_nil)))))
      (pss_one (ps_ret (pe_callTy cr_tpl (by rfl) B.tuple (by decide +kernel) (pa_cons (pe_lc (own := [("_law_at", 6)]) (g := gName 6) (tt := tYes) (te := tCB (rTpl K) (tCons (tCB (rSI K) (tCons (tLst (tCons (tVar 6) (tCons (tMd (tAt 1) (tVar 4)) tNil))) tNil)) tNil)) rfl sc41.nd
        (pi_range1 (by rfl) B.range (pa_cons (pv 4) pa_nil)) (blkOk_by (N := nSs) (sc := defScope (top 41)) (by decide +kernel)) (fun _ _ _ _ _ => pg_name (i := 6) sc41.nd rfl (Or.inl rfl)) (fun _ _ _ _ _ => pts_nil)
        (fun _ _ _ _ _ => pe_callTy cr_tpl (by rfl) B.tuple (by decide +kernel) (pa_cons (pe_callB cr_si (by rfl) B.sorted (by decide +kernel) (pa_cons (pe_lst (pa_cons (pv 6) (pa_cons (pe_op op_mod (pe_callTy cr_int (by rfl) B.int (by decide +kernel) (pa_cons (pe_op op_add (pv 6) pe_int) pa_nil)) (pv 4)) pa_nil))) pa_nil)) pa_nil))) pa_nil))))) pss_nil)
    (pss_one (ps_ret (pe_callTy cr_tpl (by rfl) B.tuple (by decide +kernel) (pa_cons (pe_lc (own := [("_law_turn", 8)]) (g := gName 8) (tt := tYes) (te := tCall (spSx K) [] E0 (tCons (tVar 0) (tCons (tVar 1) (tCons (tVar 2) tNil)))) rfl sc41.nd
        (pi_range1 (by rfl) B.range (pa_cons (pe_df D37 hr (by decide) (by rfl) pass0 (pa_cons (pv 0) (pa_cons pe_int pa_nil))) pa_nil)) (blkOk_by (N := nSs) (sc := defScope (top 41)) (by decide +kernel)) (fun _ _ _ _ _ => pg_name (i := 8) sc41.nd rfl (Or.inl rfl)) (fun _ _ _ _ _ => pts_nil)
        (fun _ _ _ _ _ => pe_df D40 hr (by decide) (by rfl) pass0 (pa_cons (pv 0) (pa_cons (pv 1) (pa_cons (pv 2) pa_nil))))) pa_nil)))))))), ?_⟩
  refine ⟨_, rfl, r, scr, ns, 9, rfl, hR, by decide, by decide, fun H1 way hR1 k1 _ _ => ?_⟩
  refine ⟨_, rfl, rfl, _, rfl, ite2 (fun _ => ?_) fun _ => ?_⟩
  · -- the ints but one
    refine ⟨_, rfl, _, rfl, _, _, rfl, rfl, _, rfl, _, _, rfl, r, scr, ns, _, rfl, hR1, by decide, by decide, fun H2 v hR2 k2 v0 v1 => ⟨_, _, rfl, rfl, ?_⟩⟩
    have v4 : v < 4 := v1
    obtain ⟨m, hm, m2, m5⟩ : ∃ m : Nat, (2 + v).toNat = m ∧ 2 ≤ m ∧ m ≤ 5 := ⟨_, rfl, by omega, by omega⟩
    refine ⟨_, rfl, 2 + v, rfl, by omega, by omega, ?_⟩
    rw [hm]
    refine fun D0 hD0 => ?_
    refine lc_gen walk_range hD0 (Nat.le_trans m5 (by decide)) [] (by simp) (fun _ => True) (fun i acc H' => Tps H' acc ((List.range i).map (om m))) (fun _ _ _ _ => True.intro) (fun _ _ _ _ kk h => h.tk kk) (fun i acc _ h => by rw [pd_len h, List.length_map, List.length_range]; exact Nat.le_refl _) (fun _ _ _ => True.intro) True.intro .nil
      (fun i x H3 H4 acc hi k j pp eD y K1 K0 c1 c0 => ?_) (fun H3 acc k j pp eD => ?_)
    · obtain ⟨rfl, rfl⟩ := y
      refine ⟨rfl, yes_of ⟨_, rfl, 2 + v, rfl, by omega, by omega, ?_⟩⟩
      rw [hm]
      refine fun D1 hD1 => ?_
      refine lc_gen walk_range hD1 (Nat.le_trans m5 (by decide)) [] (by simp) (fun _ => True) (fun j acc2 _ => acc2 = (((List.range j).map fun i : Nat => (i : Int)).filter fun x => decide (x ≠ (i : Int))).map V.int) (fun _ _ _ _ => True.intro) (fun _ _ _ _ _ h => h)
        (fun j acc2 _ h => by rw [h, List.length_map]; exact Nat.le_trans (List.length_filter_le ..) (by rw [List.length_map, List.length_range]; exact Nat.le_refl _)) (fun _ _ _ => True.intro) True.intro rfl (fun j x H5 H6 acc2 hj k5 j5 pp5 eD5 y K1' K0' c1' c0' => ?_) (fun H5 acc2 k5 j5 pp5 eD5 => ?_)
      · obtain ⟨rfl, rfl⟩ := y
        refine ⟨rfl, _, rfl, _, rfl, rfl, _, rfl, ?_⟩
        by_cases c : j = i
        · have : (!decide (V.int (0 + (j : Int)) = V.int (0 + (i : Int)))) = false := by rw [c]; simp
          rw [this]
          refine iteF (c0' _ (.refl _ _) True.intro ?_)
          rw [List.range_succ, List.map_append, List.filter_append, List.map_cons, List.map_nil, List.filter_cons_of_neg (by simp [c]), List.filter_nil, List.append_nil]
          exact pp5
        · have : (!decide (V.int (0 + (j : Int)) = V.int (0 + (i : Int)))) = true := by
            have : ¬ (V.int (0 + (j : Int)) = V.int (0 + (i : Int))) := fun e => by
              injection e with e
              omega
            rw [decide_eq_false this]
            rfl
          rw [this]
          refine iteT ⟨_, rfl, c1' _ _ (.refl _ _) True.intro ?_⟩
          rw [List.range_succ, List.map_append, List.filter_append, List.map_cons, List.map_nil, List.filter_cons_of_pos (by simp; omega), List.filter_nil, List.map_append, pp5]
          show _ ++ [V.int (0 + (j : Int))] = _
          rw [Int.zero_add]
          rfl
      · refine ⟨⟨D1, acc2, rfl, SqL.of eD5, fun p hp => ?_⟩⟩
        have kp : Kp [] H4 (upd H5 p (.tup acc2)) := k5.new' hp
        refine c1 _ _ kp True.intro ?_
        rw [List.range_succ, List.map_append]
        exact pd_snoc (pp.tk kp.tups) ⟨p, rfl, by rw [upd_same, pp5]; rfl⟩
    · refine ⟨⟨D0, acc, rfl, SqL.of eD, fun p hp => ?_⟩⟩
      have kp : Kp [] H2 (upd H3 p (.tup acc)) := k.new' hp
      refine q _ p acc _ (hR2.same kp.same) ((k1.trans k2).trans (kp.mono (by simp))) upd_same (pp.tk (Kp.new (S := []) hp).tups) (fun s hs => ?_) (by rw [List.length_map, List.length_range]; omega)
      obtain ⟨a, _, rfl⟩ := List.mem_map.mp hs
      exact om_simp m2 (by omega)
  show tSeq _ _ _ _ _
  refine if3_use (way := way) rfl rfl rfl (by decide) (by decide) ?_ ?_
  · -- ten triangles
    refine litS_use L10 (fun s hs => Nat.le_trans ((l10_ok s hs).1.len) (by decide)) fun H2 vs k2 t => ⟨?_, fun p hp => ?_⟩
    · rw [pd_len t]
      show 10 ≤ sizeLine
      decide
    · have kp : Kp [] H1 (upd H2 p (.tup vs)) := (Kp.of_same k2).new' hp
      exact q _ p vs L10 (hR1.same kp.same) (k1.trans (kp.mono (by simp))) upd_same (t.tk (Kp.new (S := []) hp).tups) l10_ok (by decide)
  show tSeq _ _ _ _ _
  refine if3_use (way := way) rfl rfl rfl (by decide) (by decide) ?_ ?_
  · -- fourteen triangles
    refine ⟨by show 0 ≤ sizeLine; exact Nat.zero_le _, fun g hg => ?_⟩
    have kg : Kp [] H1 (upd H1 g (.lst [])) := .new hg
    refine ⟨7, rfl, by decide, by decide, for_it (n := 7) walk_range (fun i σ H' => ∃ (bs : List V) (L : List S) (v6 : Option V), σ = [some (.ref r), some (.int 7), some (.int 4), some (.int way), none, some (.ref g), v6, none, none] ∧ Kp [] H1 H' ∧ H' g = some (.lst bs) ∧ Tps H' bs L ∧ L.length = 2 * i ∧ ∀ s ∈ L, Simp s ∧ s ≠ [])
      ⟨[], [], none, rfl, kg, upd_same, .nil, rfl, by simp⟩ (fun _ _ _ _ _ => True.intro) ?_ ?_⟩
    · rintro i x σ H2 H3 hi ⟨bs, L, v6, rfl, k2, eg, tb, hl, hL⟩ ⟨rfl, rfl⟩
      obtain ⟨⟨n1, b1⟩, ⟨n2, b2⟩⟩ := way2 i (List.mem_range.mpr hi)
      have hbl := pd_len tb
      refine ⟨_, rfl, .inl ⟨rfl, _, SqL.of eg⟩, _, rfl, _, rfl, _, _, rfl, rfl, ⟨⟨_, rfl, _, _, rfl, rfl, by show (0 : Int) < 7; decide, _, rfl, _, _, rfl, rfl, ⟨⟨_, rfl, _, _, rfl, rfl, by show (0 : Int) < 7; decide, by show 3 ≤ sizeLine; decide, fun D hD => ?_⟩⟩⟩⟩⟩
      have kD := (Kp.new (S := []) (o := .lst [.int (0 + (i : Int)), .int ((0 + (i : Int) + 1) % 7), .int ((0 + (i : Int) + 3) % 7)]) hD).same
      refine ts_use (ns := [0 + (i : Int), (0 + (i : Int) + 1) % 7, (0 + (i : Int) + 3) % 7]) upd_same n1 b1 (by simp) fun H4 v s k4 tv hs hn => ?_
      have kk4 := kD.trans k4
      refine ⟨g, bs, v, rfl, rfl, kk4 _ _ eg, by rw [hbl, hl]; exact Nat.lt_of_lt_of_le (by omega : 2 * i < 15) (by decide), ?_⟩
      have k5 : Kp [] H1 (upd H4 g (.lst (bs ++ [v]))) := (k2.trans (.of_same kk4)).put0 hg
      have tk5 : TK H4 (upd H4 g (.lst (bs ++ [v]))) := tk_upd (kk4 _ _ eg) fun _ => lst_tup
      have tb5 : Tps (upd H4 g (.lst (bs ++ [v]))) (bs ++ [v]) (L ++ [s]) := pd_snoc ((tb.tk (fun b xs e => kk4 _ _ e)).tk tk5) (tv.tk tk5)
      refine ⟨_, rfl, .inl ⟨rfl, _, SqL.of upd_same⟩, _, rfl, _, rfl, _, _, rfl, rfl, ⟨⟨_, rfl, _, _, rfl, rfl, by show (0 : Int) < 7; decide, _, rfl, _, _, rfl, rfl, ⟨⟨_, rfl, _, _, rfl, rfl, by show (0 : Int) < 7; decide, by show 3 ≤ sizeLine; decide, fun D2 hD2 => ?_⟩⟩⟩⟩⟩
      have kD2 := (Kp.new (S := []) (o := .lst [.int (0 + (i : Int)), .int ((0 + (i : Int) + 2) % 7), .int ((0 + (i : Int) + 3) % 7)]) hD2).same
      refine ts_use (ns := [0 + (i : Int), (0 + (i : Int) + 2) % 7, (0 + (i : Int) + 3) % 7]) upd_same n2 b2 (by simp) fun H6 v' s' k6 tv' hs' hn' => ?_
      have kk6 := kD2.trans k6
      refine ⟨g, bs ++ [v], v', rfl, rfl, kk6 _ _ upd_same, by rw [List.length_append, hbl, hl]; exact Nat.lt_of_lt_of_le (show 2 * i + 1 < 16 by omega) (by decide), ?_⟩
      have tk7 : TK H6 (upd H6 g (.lst (bs ++ [v] ++ [v']))) := tk_upd (kk6 _ _ upd_same) fun _ => lst_tup
      refine ⟨bs ++ [v] ++ [v'], L ++ [s] ++ [s'], _, rfl, (k5.trans (.of_same kk6)).put0 hg, upd_same, pd_snoc ((tb5.tk (fun b xs e => kk6 _ _ e)).tk tk7) (tv'.tk tk7), by rw [List.length_append, List.length_append, hl]; simp; omega, fun t ht => ?_⟩
      rcases List.mem_append.mp ht with ht | ht
      · rcases List.mem_append.mp ht with ht | ht
        · exact hL t ht
        · rw [List.mem_singleton.mp ht]
          exact ⟨hs, hn⟩
      · rw [List.mem_singleton.mp ht]
        exact ⟨hs', hn'⟩
    · rintro σ H2 ⟨bs, L, v6, rfl, k2, eg, tb, hl, hL⟩
      refine ⟨_, rfl, ⟨⟨g, bs, rfl, SqL.of eg, fun p hp => ?_⟩⟩⟩
      have kp : Kp [] H1 (upd H2 p (.tup bs)) := k2.new' hp
      exact q _ p bs L (hR1.same kp.same) (k1.trans (kp.mono (by simp))) upd_same (tb.tk (Kp.new (S := []) hp).tups) hL (by omega)
  show tSeq _ _ _ _ _
  refine if3_use (way := way) rfl rfl rfl (by decide) (by decide) ?_ ?_
  · -- a ring
    refine ⟨_, rfl, _, rfl, _, _, rfl, rfl, r, scr, ns, _, rfl, hR1, by decide, by decide, fun H2 v hR2 k2 v0 v1 => ⟨_, _, rfl, rfl, ?_⟩⟩
    have v5 : v < 5 := v1
    obtain ⟨m, hm, m3, m7, em⟩ : ∃ m : Nat, (3 + v).toNat = m ∧ 3 ≤ m ∧ m ≤ 7 ∧ 3 + v = (m : Int) := ⟨_, rfl, by omega, by omega, by omega⟩
    refine ⟨_, rfl, 3 + v, rfl, by omega, by omega, ?_⟩
    rw [hm]
    refine fun D0 hD0 => ?_
    refine lc_gen walk_range hD0 (Nat.le_trans m7 (by decide)) [] (by simp) (fun _ => True) (fun i acc H' => ∃ L, Tps H' acc L ∧ L.length = i ∧ ∀ s ∈ L, Simp s ∧ s ≠ []) (fun _ _ _ _ => True.intro) (fun _ _ _ _ kk ⟨L, h, h'⟩ => ⟨L, h.tk kk, h'⟩) (fun i acc _ ⟨L, h, h', _⟩ => by rw [pd_len h, h']; exact Nat.le_refl _) (fun _ _ _ => True.intro) True.intro ⟨[], .nil, rfl, by simp⟩
      (fun i x H3 H4 acc hi k j pp eD y K1 K0 c1 c0 => ?_) (fun H3 acc k j pp eD => ?_)
    · obtain ⟨rfl, rfl⟩ := y
      obtain ⟨L, tb, hl, hL⟩ := pp
      obtain ⟨n1, b1⟩ := way3 m3 m7 hi em
      refine ⟨rfl, yes_of ⟨_, rfl, _, rfl, _, _, rfl, rfl, ⟨⟨_, rfl, _, rfl, _, _, rfl, rfl, by show (0 : Int) < 3 + v; omega, by show 2 ≤ sizeLine; decide, fun D hD => ?_⟩⟩⟩⟩
      have kD := (Kp.new (S := []) (o := .lst [.int (0 + (i : Int)), .int ((0 + (i : Int) + 1) % (3 + v))]) hD).same
      refine ts_use (ns := [0 + (i : Int), (0 + (i : Int) + 1) % (3 + v)]) upd_same n1 b1 (by simp) fun H5 u s k5 tu hs hn => ?_
      have kk5 := kD.trans k5
      refine c1 _ _ (.of_same kk5) True.intro ⟨L ++ [s], pd_snoc (tb.tk fun b xs e => kk5 _ _ e) tu, by rw [List.length_append, hl]; rfl, fun t ht => ?_⟩
      rcases List.mem_append.mp ht with ht | ht
      · exact hL t ht
      · rw [List.mem_singleton.mp ht]
        exact ⟨hs, hn⟩
    · obtain ⟨L, tb, hl, hL⟩ := pp
      refine ⟨⟨D0, acc, rfl, SqL.of eD, fun p hp => ?_⟩⟩
      have kp : Kp [] H2 (upd H3 p (.tup acc)) := k.new' hp
      exact q _ p acc L (hR2.same kp.same) ((k1.trans k2).trans (kp.mono (by simp))) upd_same (tb.tk (Kp.new (S := []) hp).tups) hL (by omega)
  · -- drawn one by one
    refine ⟨_, rfl, r, scr, ns, 8, rfl, hR1, by decide, by decide, fun H2 v hR2 k2 v0 v1 => ?_⟩
    obtain ⟨m, hm, m8⟩ : ∃ m : Nat, v.toNat = m ∧ m ≤ 8 := ⟨_, rfl, by omega⟩
    refine ⟨v, rfl, by omega, by omega, ?_⟩
    rw [hm]
    refine fun D0 hD0 => ?_
    refine lc_gen walk_range hD0 (Nat.le_trans m8 (by decide)) [r] (fun a ha => ?_) (fun H' => Row K H' r scr ns) (fun i acc H' => ∃ L, Tps H' acc L ∧ L.length = i ∧ ∀ s ∈ L, Simp s ∧ s ≠ []) (fun H3 H4 kk h => hR2.kpD hD0 h kk) (fun _ _ _ _ kk ⟨L, h, h'⟩ => ⟨L, h.tk kk, h'⟩) (fun i acc _ ⟨L, h, h', _⟩ => by rw [pd_len h, h']; exact Nat.le_refl _) (fun _ _ _ => True.intro) hR2 ⟨[], .nil, rfl, by simp⟩
      (fun i x H3 H4 acc hi k j pp eD y K1 K0 c1 c0 => ?_) (fun H3 acc k j pp eD => ?_)
    · obtain ⟨xs, e⟩ := hR2.lst a ha
      rw [e]
      intro z
      cases z
    · obtain ⟨rfl, rfl⟩ := y
      obtain ⟨L, tb, hl, hL⟩ := pp
      refine ⟨rfl, yes_of ⟨_, rfl, _, rfl, _, rfl, r, scr, ns, rfl, j, fun H5 p s hR5 k5 hp ep hs hn => ?_⟩⟩
      refine c1 _ _ k5 hR5 ⟨L ++ [s], pd_snoc (tb.tk k5.tups) ⟨p, rfl, ep⟩, by rw [List.length_append, hl]; rfl, fun t ht => ?_⟩
      rcases List.mem_append.mp ht with ht | ht
      · exact hL t ht
      · rw [List.mem_singleton.mp ht]
        exact ⟨hs, hn⟩
    · obtain ⟨L, tb, hl, hL⟩ := pp
      refine ⟨⟨D0, acc, rfl, SqL.of eD, fun p hp => ?_⟩⟩
      have kn := (Kp.new (S := []) (o := .tup acc) hp).same
      exact q _ p acc L (j.same kn) (((k1.trans k2).trans k).trans (.of_same kn)) upd_same (tb.tk (Kp.new (S := []) hp).tups) hL (by omega)
end
end K18

set_option linter.all false
set_option Elab.async false
set_option maxRecDepth 100000
set_option maxHeartbeats 800000
namespace K18
open PySem PySem.Spec PyProof.Rows L2 SH

/-! ### _law_faces -/
def spFaces : Sp := fun vs H Q _ => ∃ (a : Addr) (bs : List V) (L : List S), vs = [.ref a] ∧ H a = some (.tup bs) ∧ Tps H bs L ∧ (∀ s ∈ L, Simp s ∧ s ≠ []) ∧ ∀ (H' : Hp) (p : Addr) (cs : List V) (M : List S), Same H H' → H p = none → H' p = some (.lst cs) → Tps H' cs M → M.Pairwise (fun s t => ltF s t = true) → (∀ k, k ∈ M ↔ IsFace L k) → Q (.ref p) H'
theorem keys_tps {H : Hp} : ∀ {m : List (S × V)} {bs : List Addr}, IsKeys H (dL m) bs → Tps H (bs.map V.ref) (m.map (·.1))
  | [], _, h => by
    cases h
    exact .nil
  | p :: m, _, h => by
    cases h with
    | cons r t =>
      refine .cons ⟨_, rfl, ?_⟩ (keys_tps t)
      rw [kk_V] at r
      exact r
structure rCatL (x y : V) (H : Hp) (Q : VK) : Prop where
  ex : rCat x y H Q
theorem op_catL {X : Cx} : OpR X (binaryOp .Add) rCatL := fun pins s σ H x y v u Q I rx ry h => op_cat pins s σ H x y v u Q I rx ry h.ex
section
variable {P : Program} {w : World} {K : PySem.W.Frag} {mg : Str → Option Value} {base : Heap}
abbrev nFa : List Str := ["_law_simplices_here", "_law_met", "_law_simplex_here", "_law_some", "_law_vertex", "_law_part", "_law_pair"]
theorem sc42 : FnScope nFa ["_law_simplices_here"] (defScope (top 42)) := ⟨rfl, rfl, rfl, by decide +kernel, rfl, by decide +kernel, by decide +kernel⟩
theorem ok_faces (D : Dx K mg "_law_faces" (top 42) ["_law_simplices_here"]) (B : Bt mg) : Df P w K mg base CX0 1 "_law_faces" ["_law_simplices_here"] spFaces := by
  refine D.ok sc42 (fun vs H Q E h => by obtain ⟨a, bs, L, rfl, _⟩ := h; rfl) (fun f cdv A outer s0 H vs Q E hr h => ?_)
  obtain ⟨a, bs, L, rfl, ea, hT, hL, q⟩ := h
  have hu := hu_of hr
  refine ⟨_, pss_cons (ps_set (i := 1) sc42.nd rfl (.inl rfl) pe_dnewT)
    (pss_cons (ps_for PassesOwn.never rfl (pi_tup (pv 0)) (pg_name (i := 2) sc42.nd rfl (.inl rfl))
      (pss_cons (ps_set (i := 3) sc42.nd rfl (.inl rfl) (pe_lst (pa_cons (pe_tup pa_nil) pa_nil)))
      (pss_cons (ps_for PassesOwn.never rfl (pi_tup (pv 2)) (pg_name (i := 4) sc42.nd rfl (.inr rfl))
        (pss_one (ps_set (i := 3) sc42.nd rfl (.inl rfl) (pe_op op_catL (pv 3) (pe_lc (own := [("_law_part", 5)]) (g := gName 5) (tt := tYes) (te := tOp (rCatA K) (tVar 5) (tTup (tCons (tVar 4) tNil))) rfl sc42.nd (pi_list (pv 3))
          (blkOk_by (N := nFa) (sc := defScope (top 42)) (by decide +kernel)) (fun _ _ _ _ _ => pg_name (i := 5) sc42.nd rfl (Or.inl rfl)) (fun _ _ _ _ _ => pts_nil) (fun _ _ _ _ _ => pe_op op_catA (pv 5) (pe_tup (pa_cons (pv 4) pa_nil))))))))
      (pss_one (ps_for PassesOwn.never rfl (pi_list (pe_slice sl_list (pv 3) (po_some pe_int) po_none)) (pg_name (i := 5) sc42.nd rfl (.inl rfl)) (pss_one (ps_dput hu (pv 1) (pv 5) pe_bl rfl)))))))
    (pss_one (ps_ret (pe_lc (own := [("_law_pair", 6)]) (g := gName 6) (tt := tYes) (te := tOp (rIxT K) (tVar 6) (tC (.int 1))) rfl sc42.nd (pi_list (pe_callB (cr_srt hr) (by rfl) B.sorted (by decide +kernel)
      (pa_cons (pe_lc (own := [("_law_part", 5)]) (g := gName 5) (tt := tYes) (te := tTup (tCons (tCB (rLn K) (tCons (tVar 5) tNil)) (tCons (tVar 5) tNil))) rfl sc42.nd (pi_list (pe_callTy (call_list_dT rfl) (by rfl) B.list (by decide +kernel) (pa_cons (pv 1) pa_nil)))
        (blkOk_by (N := nFa) (sc := defScope (top 42)) (by decide +kernel)) (fun _ _ _ _ _ => pg_name (i := 5) sc42.nd rfl (Or.inl rfl)) (fun _ _ _ _ _ => pts_nil)
        (fun _ _ _ _ _ => pe_tup (pa_cons (pe_callB cr_len (by rfl) B.len PySem.boot_len (pa_cons (pv 5) pa_nil)) (pa_cons (pv 5) pa_nil)))) pa_nil)))
      (blkOk_by (N := nFa) (sc := defScope (top 42)) (by decide +kernel)) (fun _ _ _ _ _ => pg_name (i := 6) sc42.nd rfl (Or.inl rfl)) (fun _ _ _ _ _ => pts_nil)
      (fun _ _ _ _ _ => pe_ix ix_tup (pv 6) pe_int (fun _ _ => rfl)))))), ?_⟩
  refine fun d hd => ?_
  have k0 : Kp [] H (upd H d (.dT [])) := .new hd
  have hbl := pd_len hT
  have faces : ∀ {M : List S} {k : S}, (∀ s ∈ M, s ∈ L) → IsFace M k → Simp k := fun hM h => IsFace.simp (fun s hs => (hL s (hM s hs)).1) h
  have mem_take : ∀ {n : Nat} {t : S}, t ∈ L.take n → t ∈ L := fun h => List.mem_of_mem_take h
  refine ⟨_, rfl, a, rfl, ⟨_, SqT.of (k0.tups _ _ ea)⟩, for_it walk_tup (fun i σ H' => ∃ (m : List (S × V)) (v2 v3 v4 v5 : Option V), σ = [some (.ref a), some (.ref d), v2, v3, v4, v5, none] ∧ Kp [] H H' ∧ H' d = some (dI m) ∧ (m.map (·.1)).Nodup ∧ ∀ k, k ∈ m.map (·.1) ↔ IsFace (L.take i) k)
    ⟨[], none, none, none, none, rfl, k0, upd_same, by simp, fun k => by simp [IsFace]⟩ (fun i σ H' _ ⟨_, _, _, _, _, _, k, _⟩ => SqT.of (k.tups _ _ ea)) ?_ ?_⟩
  · rintro i x σ H1 H2 hi ⟨m, v2, v3, v4, v5, rfl, k, ed, nd, hm⟩ ⟨rfl, hx⟩
    obtain ⟨s, hs, b, rfl, eb⟩ := pd_get hT hx
    have sL := hL s (List.mem_of_getElem? hs)
    have eb2 := k.tups _ _ eb
    have s7 := sL.1.len
    -- some = [()]
    refine ⟨by show 0 ≤ sizeLine; exact Nat.zero_le _, fun t ht => ⟨by show 1 ≤ sizeLine; decide, fun l hl => ?_⟩⟩
    have k1 : Kp [] H2 (upd (upd H2 t (.tup [])) l (.lst [.ref t])) := (Kp.new ht).new' hl
    have ntl : t ≠ l := fun z => by rw [← z, upd_same] at hl; cases hl
    refine ⟨_, rfl, b, rfl, ⟨_, SqT.of (k1.tups _ _ eb2)⟩, for_it walk_tup (fun j σ H' => ∃ (l : Addr) (ps : List V) (v4 v5 : Option V), σ = [some (.ref a), some (.ref d), some (.ref b), some (.ref l), v4, v5, none] ∧ Kp [] H H' ∧ H' d = some (dI m) ∧ H' l = some (.lst ps) ∧ Tps H' ps (allParts (s.take j)))
      ⟨l, [.ref t], v4, v5, rfl, k.trans k1, k1.keep _ _ (by simp) ed, upd_same, .cons ⟨t, rfl, by rw [upd_ne ntl, upd_same]; rfl⟩ .nil⟩ (fun j σ H' _ ⟨_, _, _, _, _, k, _⟩ => SqT.of (k.tups _ _ eb)) ?_ ?_⟩
    · rintro j x σ H3 H4 hj ⟨l, ps, w4, w5, rfl, k3, ed3, el, tb⟩ ⟨rfl, hxj⟩
      rw [List.getElem?_map] at hxj
      obtain ⟨v, hv, rfl⟩ := Option.map_eq_some_iff.mp hxj
      have hps : ps.length = (allParts (s.take j)).length := pd_len tb
      have hp2 := allParts_len7 s7 j
      refine ⟨_, rfl, _, rfl, l, rfl, ⟨ps, SqL.of el⟩, fun D0 hD0 => ?_⟩
      have nD : l ∉ [D0] := fun z => by
        have e : l = D0 := by simpa using z
        rw [← e, el] at hD0
        cases hD0
      refine lc_gen (walk_list (K := K) (a := l) (xs := ps)) hD0 (by rw [hps]; exact Nat.le_trans hp2 (by decide)) [] (by simp) (fun H' => H' l = some (.lst ps) ∧ Tps H' ps (allParts (s.take j))) (fun i acc H' => Tps H' acc (((allParts (s.take j)).take i).map (· ++ [v])))
        (fun H' H3 kk e => ⟨kk.keep _ _ nD e.1, e.2.tk kk.tups⟩) (fun _ _ _ _ kk h => h.tk kk) (fun i acc _ h => by rw [pd_len h, List.length_map, List.length_take]; omega) (fun H' _ e => SqL.of e.1) ⟨el, tb⟩ (by simpa using Paired.nil)
        (fun i x H5 H6 acc hi kk jj pp eD y K1 K0 c1 c0 => ?_) (fun H5 acc kk jj pp eD => ?_)
      · obtain ⟨rfl, hxi⟩ := y
        obtain ⟨p, hp, c, rfl, ec⟩ := pd_get jj.2 hxi
        have hpl : p.length ≤ 7 := by
          have z := (mem_allParts (s.take j) p).mp (List.mem_of_getElem? hp)
          have := z.length_le
          rw [List.length_take] at this
          omega
        have fin : ∀ (H7 : Hp) (z : V), Same H6 H7 → Tp H7 z (p ++ [v]) → K1 z H7 := fun H7 z k7 tz => by
          refine c1 z H7 (.of_same k7) ⟨k7 _ _ jj.1, Tps.tk jj.2 fun b xs e => k7 _ _ e⟩ ?_
          rw [take_snocL hp]
          simp only [List.map_append, List.map_cons, List.map_nil]
          exact pd_snoc (pp.tk fun b xs e => k7 _ _ e) tz
        refine ⟨rfl, yes_of ⟨_, rfl, _, rfl, by show 1 ≤ sizeLine; decide, fun u hu => ?_⟩⟩
        have ku := (Kp.new (S := []) (o := .tup [.int v]) hu).same
        refine ⟨c, u, _, _, rfl, rfl, SqT.of (ku _ _ ec), SqT.of upd_same, ?_, fun h => ?_, fun _ h => ?_, fun _ _ p3 hp3 => ?_⟩
        · have : p.length + 1 ≤ sizeLine := Nat.le_trans (Nat.add_le_add_right hpl 1) (by decide)
          simpa using this
        · have h' : p = [] := List.map_eq_nil_iff.mp h
          exact fin _ _ ku ⟨u, rfl, by rw [h', upd_same]; rfl⟩
        · cases h
        · have k3' := (Kp.new (S := []) (o := .tup (p.map V.int ++ [.int v])) hp3).same
          exact fin _ _ (ku.trans k3') ⟨p3, rfl, by rw [upd_same, snoc_tp]⟩
      · rw [hps, List.take_length] at pp
        refine ⟨l, D0, ps, acc, rfl, rfl, jj.1, eD, ?_, fun l2 hl2 => ?_⟩
        · have h1 := pd_len pp
          rw [List.length_map] at h1
          have : ps.length + acc.length ≤ 256 := by omega
          exact Nat.le_trans this (by decide)
        · have kn : Kp [] H5 (upd H5 l2 (.lst (ps ++ acc))) := .new hl2
          refine ⟨l2, ps ++ acc, _, _, rfl, (k3.trans kk).trans kn, kn.keep _ _ (by simp) (kk.keep _ _ (by simp) ed3), upd_same, ?_⟩
          rw [take_snoc' hv, allParts_snoc]
          exact pd_app (jj.2.tk kn.tups) (pp.tk kn.tups)
    · rintro σ H3 ⟨l, ps, w4, w5, rfl, k3, ed3, el, tb⟩
      rw [List.take_of_length_le (by rw [List.length_map]; exact Nat.le_refl _)] at tb
      -- for part in some[1:]
      refine ⟨_, rfl, _, rfl, l, ps, rfl, SqL.of el, fun p hp => ?_⟩
      rw [cutL1]
      have tps : Tps H3 (ps.drop 1) (parts s) := pd_drop 1 tb
      have kp : Kp [] H3 (upd H3 p (.lst (ps.drop 1))) := .new hp
      have npd : p ≠ d := fun z => by
        rw [z, ed3] at hp
        cases hp
      have key : ∀ k', (k' ∈ m.map (·.1) ∨ k' ∈ parts s) ↔ IsFace (L.take (i + 1)) k' := fun k' => by
        rw [take_snocL hs, face_snoc, hm, mem_parts]
      refine ⟨p, rfl, ⟨_, SqL.of upd_same⟩, for_it walk_list (fun j σ H' => ∃ (m' : List (S × V)) (v3 v4 v5 : Option V), σ = [some (.ref a), some (.ref d), some (.ref b), v3, v4, v5, none] ∧ Kp [] H H' ∧ H' d = some (dI m') ∧ H' p = some (.lst (ps.drop 1)) ∧ Tps H' (ps.drop 1) (parts s) ∧ (m'.map (·.1)).Nodup ∧ ∀ k', k' ∈ m'.map (·.1) ↔ k' ∈ m.map (·.1) ∨ k' ∈ (parts s).take j)
        ⟨m, _, _, _, rfl, k3.trans kp, by rw [upd_ne npd.symm]; exact ed3, upd_same, tps.tk kp.tups, nd, fun k' => by simp⟩ (fun j σ H' _ ⟨_, _, _, _, _, _, _, h, _⟩ => SqL.of h) ?_ ?_⟩
      · rintro j y σ H4 H5 hj ⟨m', w3, w4, w5, rfl, k4, ed4, ep4, tps4, nd4, hm4⟩ ⟨rfl, hy⟩
        obtain ⟨q', hq, c, rfl, ec⟩ := pd_get tps4 hy
        have hlen : m'.length ≤ 128 := rmax_len nd4 fun t ht => by
          have t1 := (key t).mp (((hm4 t).mp ht).imp id fun z => List.mem_of_mem_take z)
          exact faces (fun _ h => mem_take h) t1
        refine ⟨_, rfl, _, rfl, d, _, rfl, dput ed4 ⟨c, rfl, ec⟩ (Nat.lt_of_le_of_lt hlen (by decide)), ?_⟩
        have tk5 : TK H5 (upd H5 d (dI (putI m' q' (.bl true)))) := tk_upd ed4 fun _ => dI_tup
        refine ⟨_, _, _, _, rfl, k4.put0 hd, upd_same, by rw [upd_ne npd]; exact ep4, tps4.tk tk5, putI_nodup nd4, fun k' => ?_⟩
        rw [putI_mem, hm4, take_snocL hq, List.mem_append, List.mem_singleton]
        constructor
        · rintro (h | h | h)
          · exact .inr (.inr h)
          · exact .inl h
          · exact .inr (.inl h)
        · rintro (h | h | h)
          · exact .inr (.inl h)
          · exact .inr (.inr h)
          · exact .inl h
      · rintro σ H4 ⟨m', w3, w4, w5, rfl, k4, ed4, ep4, tps4, nd4, hm4⟩
        refine ⟨m', _, _, _, _, rfl, k4, ed4, nd4, fun k' => ?_⟩
        rw [hm4, pd_len tps4, List.take_length]
        exact key k'
  · rintro σ H1 ⟨m, v2, v3, v4, v5, rfl, k, ed, nd, hm⟩
    have hm' : ∀ k, k ∈ m.map (·.1) ↔ IsFace L k := fun k => by rw [hm, hbl, List.take_length]
    have hz : m.length ≤ 128 := rmax_len nd fun k h => faces (fun _ h => h) ((hm' k).mp h)
    have hml : (m.map (·.1)).length = m.length := List.length_map ..
    refine ⟨_, rfl, d, dL m, rfl, .inl ed, fun u bs' hu hk => ?_⟩
    have ku : Kp [] H1 (upd H1 u (.lst (bs'.map V.ref))) := .new hu
    have tk0 : Tps (upd H1 u (.lst (bs'.map V.ref))) (bs'.map V.ref) (m.map (·.1)) := (keys_tps hk).tk ku.tups
    have hbk := pd_len tk0
    refine ⟨u, rfl, ⟨_, SqL.of upd_same⟩, fun D0 hD0 => ?_⟩
    have nuD : u ∉ ([D0] : List Addr) := fun z => by
      have e : u = D0 := by simpa using z
      rw [← e, upd_same] at hD0
      cases hD0
    refine lc_gen (walk_list (K := K) (a := u) (xs := bs'.map V.ref)) hD0 (by rw [hbk, hml]; exact Nat.le_trans hz (by decide)) [] (by simp) (fun H' => H' u = some (.lst (bs'.map V.ref)) ∧ Tps H' (bs'.map V.ref) (m.map fun p : S × V => p.1)) (fun i acc H' => Paired (fun x s => IsKy H' x (kF s)) acc ((m.map fun p : S × V => p.1).take i)) (fun H' H3 kk e => ⟨kk.keep u _ nuD e.1, e.2.tk kk.tups⟩)
      (fun _ _ _ _ kk h => L2.Paired.mapP h fun _ _ z => z.tk kk) (fun i acc _ h => by rw [pd_len h, List.length_take]; omega) (fun H' _ e => SqL.of e.1) ⟨upd_same, tk0⟩ (by simpa using Paired.nil) (fun i x H2 H3 acc hi k2 j pp eD y K1 K0 c1 c0 => ?_) (fun H2 acc k2 j pp eD => ?_)
    · obtain ⟨rfl, hx⟩ := y
      obtain ⟨s, hs, c, rfl, ec⟩ := pd_get j.2 hx
      refine ⟨rfl, yes_of ⟨_, rfl, rln_tp ec ⟨_, rfl, by show 2 ≤ sizeLine; decide, fun T hT => ?_⟩⟩⟩
      have kT : Kp [] H3 (upd H3 T (.tup [.int (s.length : Int), .ref c])) := .new hT
      refine c1 _ _ kT ⟨kT.keep _ _ (by simp) j.1, j.2.tk kT.tups⟩ ?_
      rw [take_snocL hs]
      exact pd_snoc (L2.Paired.mapP pp fun _ _ z => z.tk kT.tups) ⟨T, _, rfl, upd_same, .cons rfl (.cons ⟨c, rfl, kT.tups _ _ ec⟩ .nil)⟩
    · rw [hbk, List.take_length] at pp
      refine srt_use (SqL.of eD) pp (fun _ _ => True.intro) (fun s _ t _ => cmp_F s t) fun ys ts' p perm py srt hp => ?_
      have strict := strict_perm kF_inj perm nd srt
      have kp : Kp [] H2 (upd H2 p (.lst ys)) := .new hp
      have hl : ts'.length ≤ 128 := by rw [perm.length_eq, hml]; exact hz
      have hyl := pd_len py
      refine ⟨p, rfl, ⟨ys, SqL.of upd_same⟩, fun D1 hD1 => ?_⟩
      have npD : p ≠ D1 := fun z => by
        rw [← z, upd_same] at hD1
        cases hD1
      refine lc_gen (walk_list (K := K) (a := p) (xs := ys)) hD1 (by rw [hyl]; exact Nat.le_trans hl (by decide)) [] (by simp) (fun H' => H' p = some (.lst ys) ∧ Paired (fun x s => IsKy H' x (kF s)) ys ts') (fun i acc H' => Tps H' acc (ts'.take i))
        (fun H' H3 kk e => ⟨kk.keep p _ (by simpa using npD) e.1, L2.Paired.mapP e.2 fun _ _ z => z.tk kk.tups⟩) (fun _ _ _ _ kk h => h.tk kk) (fun i acc _ h => by rw [pd_len h, List.length_take]; omega) (fun H' _ e => SqL.of e.1) ⟨upd_same, L2.Paired.mapP py fun _ _ z => z.tk kp.tups⟩
        (by simpa using Paired.nil) (fun i x H3 H4 acc hi k3 j2 pp2 eD2 y K1 K0 c1 c0 => ?_) (fun H3 acc k3 j2 pp2 eD2 => ?_)
      · obtain ⟨rfl, hx⟩ := y
        obtain ⟨s, hs, T, vs, rfl, eT, pk⟩ := pd_get j2.2 hx
        cases pk with
        | @cons v0 _ _ _ r0 pk =>
          cases pk with
          | @cons v1 _ _ _ r1 pk =>
            cases pk
            refine ⟨rfl, yes_of ⟨_, rfl, T, _, 1, v1, rfl, rfl, SqT.of eT, rfl, ?_⟩⟩
            refine c1 _ _ (.refl _ _) j2 ?_
            rw [take_snocL hs]
            exact pd_snoc pp2 r1
      · rw [hyl, List.take_length] at pp2
        have kall : Kp [] H H3 := (((k.trans ku).trans k2).trans kp).trans k3
        exact q _ D1 acc ts' kall.same ((((k.trans ku).trans k2).trans kp).free hD1) eD2 pp2 strict fun k' => by rw [perm.mem_iff, hm']
end
end K18

set_option linter.all false
set_option Elab.async false
set_option maxRecDepth 100000
set_option maxHeartbeats 800000
namespace K18
open PySem PySem.Spec PyProof.Rows L2 SH

/-! ### _law_times -/
def spTimes (K : PySem.W.Frag) : Sp := fun vs H Q _ => ∃ (r scr fl : Addr) (ns : List Int) (bs : List V) (F : S → Prop) (L : List S) (most : Int), vs = [.ref r, .ref fl, .int most] ∧ Row K H r scr ns ∧ fl ≠ r ∧ H fl = some (.lst bs) ∧ Tps H bs L ∧ Fcs F L ∧ 0 ≤ most ∧ most ≤ 900 ∧
  ∀ (H' : Hp) (p : Addr) (τ : S → Int), Row K H' r scr ns → Kp [r] H H' → H p = none → H' p = some (.tup ((L.map τ).map V.int)) → (∀ f ∈ L, Good τ f) → Q (.ref p) H'
/-- a time so far -/
structure Tm (τ : S → Int) (f : S) : Prop where
  lo : 0 ≤ τ f
  hi : τ f ≤ 900 + 5 * ((f.length : Int) - 1)
  up : 1 < f.length → ∀ j, j < f.length → τ (f.eraseIdx j) ≤ τ f
def tx (τ : S → Int) (f : S) (t : Int) : S → Int := fun g => if g = f then t else τ g
theorem tm_step {F : S → Prop} {L : List S} (hF : Fcs F L) {τ : S → Int} {i : Nat} {f : S} (hf : L[i]? = some f) (ht : ∀ g ∈ L.take i, Tm τ g) {mx z : Int} (hm0 : 0 ≤ mx) (hmp : 1 < f.length → ∀ j, j < f.length → τ (f.eraseIdx j) ≤ mx)
    (hmu : mx = 0 ∨ (1 < f.length ∧ ∃ j, j < f.length ∧ mx = τ (f.eraseIdx j))) (hz0 : 0 ≤ z) (hz : (1 < f.length → z ≤ 5) ∧ (¬ 1 < f.length → z ≤ 900)) :
    vd (tx τ f (mx + z)) (L.take (i + 1)) = putI (vd τ (L.take i)) f (.int (mx + z)) ∧ ∀ g ∈ L.take (i + 1), Tm (tx τ f (mx + z)) g := by
  have fresh := nd_take hF.nd hf
  have old : ∀ g ∈ L.take i, (tx τ f (mx + z)) g = τ g := fun g hg => if_neg fun e => by
    rw [e] at hg
    exact fresh hg
  have fne : f.length ≠ 0 := fun z => (hF.simp f ((hF.mem f).mp (List.mem_of_getElem? hf))).2 (List.eq_nil_of_length_eq_zero z)
  have self : (tx τ f (mx + z)) f = mx + z := if_pos rfl
  refine ⟨?_, fun g hg => ?_⟩
  · have e1 : vd (tx τ f (mx + z)) (L.take i) = vd τ (L.take i) := List.map_congr_left fun g hg => by
      show (g, V.int ((tx τ f (mx + z)) g)) = (g, V.int (τ g))
      rw [old g hg]
    rw [take_snocL hf, ← vd_put (τ := tx τ f (mx + z)) fresh, e1, self]
  · rw [take_snocL hf] at hg
    rcases List.mem_append.mp hg with hg | hg
    · have t := ht g hg
      obtain ⟨k, hk⟩ := List.getElem?_of_mem hg
      have hk2 : L[k]? = some g := by
        rw [List.getElem?_take] at hk
        split at hk
        · exact hk
        · cases hk
      have hki : k ≤ i := by
        have := (List.getElem?_eq_some_iff.mp hk).1
        rw [List.length_take] at this
        omega
      refine ⟨by rw [old g hg]; exact t.lo, by rw [old g hg]; exact t.hi, fun hl j hj => ?_⟩
      have pm := hF.part hk2 hl hj
      have pm2 : g.eraseIdx j ∈ L.take i := (List.take_sublist_take_left hki).subset pm
      rw [old g hg, old _ pm2]
      exact t.up hl j hj
    · rw [List.mem_singleton] at hg
      subst hg
      refine ⟨by rw [self]; omega, ?_, fun hl j hj => ?_⟩
      · rw [self]
        rcases hmu with rfl | ⟨hl, j, hj, rfl⟩
        · by_cases hl : 1 < g.length
          · have := hz.1 hl
            omega
          · have := hz.2 hl
            omega
        · have h1 := (ht _ (hF.part hf hl hj)).hi
          have h2 := erase_len hj
          have := hz.1 hl
          omega
      · have pm := hF.part hf hl hj
        rw [self, old _ pm]
        have := hmp hl j hj
        omega
section
variable {P : Program} {w : World} {K : PySem.W.Frag} {mg : Str → Option Value} {base : Heap}
abbrev nTm : List Str := ["_law_row", "_law_faces_here", "_law_most", "_law_found", "_law_face", "_law_least", "_law_more", "_law_at"]
theorem sc43 : FnScope nTm ["_law_row", "_law_faces_here", "_law_most"] (defScope (top 43)) := ⟨rfl, rfl, rfl, by decide +kernel, rfl, by decide +kernel, by decide +kernel⟩
theorem ok_times (D : Dx K mg "_law_times" (top 43) ["_law_row", "_law_faces_here", "_law_most"]) (B : Bt mg) (D37 : Df P w K mg base CX0 1 "_law_taken" ["_law_row", "_law_many"] (spTaken K)) (D38 : Df P w K mg base CX0 2 "_law_pick" ["_law_row", "_law_things"] (spPick K)) :
    Df P w K mg base CX0 3 "_law_times" ["_law_row", "_law_faces_here", "_law_most"] (spTimes K) := by
  refine D.ok sc43 (fun vs H Q E h => by obtain ⟨r, scr, fl, ns, bs, F, L, most, rfl, _⟩ := h; rfl) (fun f cdv A outer s0 H vs Q E hr h => ?_)
  obtain ⟨r, scr, fl, ns, bs, F, L, most, rfl, hR, hfr, efl, tb, hF, hm0, hm1, q⟩ := h
  have hu := hu_of hr
  refine ⟨_, pss_cons (ps_set (i := 3) sc43.nd rfl (.inr rfl) pe_dnewT)
    (pss_cons (ps_for PassesOwn.never rfl (pi_list (pv 1)) (pg_name (i := 4) sc43.nd rfl (.inr rfl))
      (pss_cons (ps_set (i := 5) sc43.nd rfl (.inl rfl) (pe_callB (cr_max rfl) (by rfl) B.max (by decide +kernel) (pa_cons (pe_op op_catL
          (pe_lc (own := [("_law_at", 7)]) (g := gName 7) (tt := tTest (tOp (rI0 fun i j => .bl (decide (j < i))) (tCB (rLn K) (tCons (tVar 4) tNil)) (tC (.int 1)))) (te := tDGet (tVar 3) (tEra K (tVar 4) (tVar 7))) rfl sc43.nd
            (pi_range1 (by rfl) B.range (pa_cons (pe_callB cr_len (by rfl) B.len PySem.boot_len (pa_cons (pv 4) pa_nil)) pa_nil)) (blkOk_by (N := nTm) (sc := defScope (top 43)) (by decide +kernel)) (fun _ _ _ _ _ => pg_name (i := 7) sc43.nd rfl (Or.inl rfl))
            (fun _ _ _ _ _ => pts_one (pt_cmpR op_gt (pe_callB cr_len (by rfl) B.len PySem.boot_len (pa_cons (pv 4) pa_nil)) pe_int (nomark _)))
            (fun _ _ _ _ _ => pe_dget hu (pv 3) (pe_era (pe_op op_catA (pe_slice sl_tupA (pv 4) po_none (po_some (pv 7))) (pe_slice sl_tupA (pv 4) (po_some (pe_op op_add (pv 7) pe_int)) po_none))) (fun _ _ => rfl)))
          (pe_lst (pa_cons pe_int pa_nil))) pa_nil)))
      (pss_cons (ps_set (i := 6) sc43.nd rfl (.inl rfl) (pe_ifExp (pt_cmpR op_gt (pe_callB cr_len (by rfl) B.len PySem.boot_len (pa_cons (pv 4) pa_nil)) pe_int (nomark _))
          (pe_df D38 hr (by decide) (by rfl) pass0 (pa_cons (pv 0) (pa_cons (pe_lst (pa_cons pe_int (pa_cons pe_int (pa_cons pe_int (pa_cons (pe_df D37 hr (by decide) (by rfl) pass0 (pa_cons (pv 0) (pa_cons pe_int pa_nil))) pa_nil))))) pa_nil)))
          (pe_df D37 hr (by decide) (by rfl) pass0 (pa_cons (pv 0) (pa_cons (pe_op op_add (pv 2) pe_int) pa_nil)))))
      (pss_one (ps_dput hu (pv 3) (pv 4) (pe_op op_add (pv 5) (pv 6)) rfl)))))
    (pss_one (ps_ret (pe_callTy cr_tpl (by rfl) B.tuple (by decide +kernel) (pa_cons (pe_lc (own := [("_law_face", 4)]) (g := gName 4) (tt := tYes) (te := tDGet (tVar 3) (tVar 4)) rfl sc43.nd (pi_list (pv 1))
      (blkOk_by (N := nTm) (sc := defScope (top 43)) (by decide +kernel)) (fun _ _ _ _ _ => pg_name (i := 4) sc43.nd rfl (Or.inl rfl)) (fun _ _ _ _ _ => pts_nil) (fun _ _ _ _ _ => pe_dget hu (pv 3) (pv 4) (fun _ _ => rfl))) pa_nil))))), ?_⟩
  refine fun d hd => ?_
  have k0 : Kp [] H (upd H d (.dT [])) := .new hd
  have hbl := pd_len tb
  have hL := hF.len
  have dr : d ∉ ([r] : List Addr) := fun z => by
    obtain ⟨xs, e⟩ := hR.lst d z
    rw [e] at hd
    cases hd
  have flr : fl ∉ ([r] : List Addr) := by simpa using hfr
  refine ⟨_, rfl, fl, rfl, ⟨_, SqL.of (k0.keep _ _ (by simp) efl)⟩, for_it walk_list (fun i σ H' => ∃ (τ : S → Int) (v4 v5 v6 : Option V), σ = [some (.ref r), some (.ref fl), some (.int most), some (.ref d), v4, v5, v6, none] ∧ Row K H' r scr ns ∧ Kp [r] H H' ∧ H' d = some (dI (vd τ (L.take i))) ∧ ∀ g ∈ L.take i, Tm τ g)
    ⟨fun _ => 0, none, none, none, rfl, hR.same k0.same, k0.mono (by simp), upd_same, fun g hg => by simp at hg⟩ (fun i σ H' _ ⟨_, _, _, _, _, _, k, _⟩ => SqL.of (k.keep _ _ flr efl)) ?_ ?_⟩
  · rintro i x σ H1 H2 hi ⟨τ, v4, v5, v6, rfl, hR2, k2, ed, ht⟩ ⟨rfl, hx⟩
    obtain ⟨f, hf, b, rfl, eb⟩ := pd_get tb hx
    have eb2 := k2.tups _ _ eb
    have sf := hF.simp f ((hF.mem f).mp (List.mem_of_getElem? hf))
    -- least
    refine ⟨_, rfl, rln_tp eb2 ⟨(f.length : Int), rfl, by omega, by have := sf.1.len; omega, ?_⟩⟩
    rw [Int.toNat_natCast]
    refine fun D0 hD0 => ?_
    have ndD : d ∉ ([D0] : List Addr) := fun z => by
      have e : d = D0 := by simpa using z
      rw [← e, ed] at hD0
      cases hD0
    refine lc_gen walk_range hD0 (Nat.le_trans sf.1.len (by decide)) [] (by simp) (fun H' => H' b = some (tp f) ∧ H' d = some (dI (vd τ (L.take i)))) (fun j acc _ => acc = (if 1 < f.length then (List.range j).map (fun j' => τ (f.eraseIdx j')) else []).map V.int) (fun H' H3 kk e => ⟨kk.tups _ _ e.1, kk.keep _ _ ndD e.2⟩) (fun _ _ _ _ _ h => h)
      (fun j acc _ h => by
        rw [h, List.length_map]
        split
        · rw [List.length_map, List.length_range]
          exact Nat.le_refl _
        · exact Nat.zero_le _) (fun _ _ _ => True.intro) ⟨eb2, ed⟩ (by simp) (fun j y H3 H4 acc hj k j3 pp eD yy K1 K0 c1 c0 => ?_) (fun H3 acc k3 j3 pp eD => ?_)
    · obtain ⟨rfl, rfl⟩ := yy
      refine ⟨rfl, _, rfl, rln_tp j3.1 ⟨_, _, rfl, rfl, _, rfl, ?_⟩⟩
      by_cases hl : 1 < f.length
      · rw [show decide ((1 : Int) < (f.length : Int)) = true from decide_eq_true (by omega)]
        refine iteT ⟨_, rfl, era_use (i := j) (b := b) (s := f) (fun H' Q' _ z => ⟨_, rfl, z⟩) (fun H' Q' _ z => ⟨_, rfl, by show Q' (.int (0 + (j : Int))) H'; rw [Int.zero_add]; exact z⟩) j3.1 (Nat.le_trans sf.1.len (by decide)) hj fun H5 u k5 tu => ?_⟩
        have ed5 := k5 _ _ j3.2
        refine ⟨d, .int (τ (f.eraseIdx j)), rfl, ?_, c1 _ _ (.of_same k5) ⟨k5 _ _ j3.1, ed5⟩ ?_⟩
        · have z1 := dget ed5 tu
          rw [vd_get (hF.nd.sublist (List.take_sublist _ _)) (hF.part hf hl hj)] at z1
          exact z1
        · rw [pp, if_pos hl, if_pos hl, List.range_succ, List.map_append, List.map_append]
          rfl
      · rw [show decide ((1 : Int) < (f.length : Int)) = false from decide_eq_false (by omega)]
        refine iteF (c0 _ (.refl _ _) j3 ?_)
        rw [pp, if_neg hl, if_neg hl]
    · refine ⟨by show 1 ≤ sizeLine; decide, fun u hu => ?_⟩
      have ku : Kp [] H3 (upd H3 u (.lst [.int 0])) := .new hu
      have hal : acc.length ≤ 7 := by
        have := sf.1.len
        rw [pp, List.length_map]
        split
        · rw [List.length_map, List.length_range]
          exact this
        · exact Nat.zero_le _
      refine ⟨⟨D0, u, acc, [.int 0], rfl, rfl, ku.keep _ _ (by simp) eD, upd_same, Nat.le_trans (show acc.length + 1 ≤ 8 by omega) (by decide), fun l hl => ?_⟩⟩
      have kl := ku.new' (o := .lst (acc ++ [.int 0])) hl
      have ens : acc ++ [V.int 0] = ((if 1 < f.length then (List.range f.length).map (fun j' => τ (f.eraseIdx j')) else []) ++ [0]).map V.int := by
        rw [pp, List.map_append]
        rfl
      refine ⟨l, _, rfl, SqL.of (by rw [upd_same, ens]), by rw [List.length_append]; simp, fun mx hmx hle => ?_⟩
      have mx0 : 0 ≤ mx := hle 0 (by simp)
      have mxp : 1 < f.length → ∀ j, j < f.length → τ (f.eraseIdx j) ≤ mx := fun hl j hj => hle _ (by
        rw [if_pos hl]
        exact List.mem_append_left _ (List.mem_map.mpr ⟨j, List.mem_range.mpr hj, rfl⟩))
      have mxu : mx = 0 ∨ (1 < f.length ∧ ∃ j, j < f.length ∧ mx = τ (f.eraseIdx j)) := by
        rcases List.mem_append.mp hmx with h | h
        · by_cases hl : 1 < f.length
          · rw [if_pos hl] at h
            obtain ⟨j, hj, rfl⟩ := List.mem_map.mp h
            exact .inr ⟨hl, j, List.mem_range.mp hj, rfl⟩
          · rw [if_neg hl] at h
            cases h
        · exact .inl (List.mem_singleton.mp h)
      -- more
      have kA := k3.trans kl
      have hRA := hR2.same kA.same
      have edA := kl.keep _ _ (by simp) j3.2
      have ebA := kl.tups _ _ j3.1
      have hnL : (vd τ (L.take i)).length < sizeLine := by
        rw [vd_len, List.length_take]
        exact Nat.lt_of_le_of_lt (show min i L.length ≤ 128 by omega) (by decide)
      have fin : ∀ (H5 : Hp) (z : Int), Row K H5 r scr ns → Kp [r] H H5 → H5 d = some (dI (vd τ (L.take i))) → H5 b = some (tp f) → 0 ≤ z → ((1 < f.length → z ≤ 5) ∧ (¬ 1 < f.length → z ≤ 900)) →
          DPut H5 d (.ref b) (.int (mx + z)) (upd H5 d (dI (vd (tx τ f (mx + z)) (L.take (i + 1))))) ∧ Row K (upd H5 d (dI (vd (tx τ f (mx + z)) (L.take (i + 1))))) r scr ns ∧ Kp [r] H (upd H5 d (dI (vd (tx τ f (mx + z)) (L.take (i + 1))))) ∧ ∀ g ∈ L.take (i + 1), Tm (tx τ f (mx + z)) g := fun H5 z hR5 k5 ed5 eb5 z0 hz => by
        obtain ⟨e1, e2⟩ := tm_step hF hf ht mx0 mxp mxu z0 hz
        have z1 := dput (w := .int (mx + z)) ed5 ⟨b, rfl, eb5⟩ hnL
        rw [← e1] at z1
        exact ⟨z1, hR.put0 hd hR5, k5.put0 hd, e2⟩
      refine ⟨_, rfl, rln_tp ebA ⟨_, _, rfl, rfl, _, rfl, ?_⟩⟩
      by_cases hl1 : 1 < f.length
      · rw [show decide ((1 : Int) < (f.length : Int)) = true from decide_eq_true (by omega)]
        refine iteT ⟨_, rfl, _, rfl, r, scr, ns, 6, rfl, hRA, by decide, by decide, fun H5 v hR5 k5 v0 v1 => ⟨by show 4 ≤ sizeLine; decide, fun y hy => ?_⟩⟩
        have ky : Kp [] H5 (upd H5 y (.lst [.int 0, .int 0, .int 1, .int v])) := .new hy
        have hR6 := hR5.same ky.same
        have yr : y ≠ r := fun z => by
          obtain ⟨xs, e⟩ := hR5.lst y (by simp [z])
          rw [e] at hy
          cases hy
        refine ⟨r, scr, y, ns, _, rfl, hR6, .inl upd_same, yr, by show 0 < 4; decide, by show 4 ≤ 1000; decide, fun H7 i' w hw hR7 k7 => ?_⟩
        obtain ⟨z, rfl, z0, z5⟩ : ∃ z : Int, w = .int z ∧ 0 ≤ z ∧ z ≤ 5 := by
          match i', hw with
          | 0, hw => cases hw; exact ⟨0, rfl, by decide, by decide⟩
          | 1, hw => cases hw; exact ⟨0, rfl, by decide, by decide⟩
          | 2, hw => cases hw; exact ⟨1, rfl, by decide, by decide⟩
          | 3, hw => cases hw; exact ⟨v, rfl, v0, by omega⟩
          | n + 4, hw => simp at hw
        have kB := ((k5.trans (ky.mono (by simp))).trans k7)
        obtain ⟨z1, z2, z3, z4⟩ := fin H7 z hR7 ((k2.trans (kA.mono (by simp))).trans kB) (kB.keep _ _ dr edA) (kB.tups _ _ ebA) z0 ⟨fun _ => z5, fun h => absurd hl1 h⟩
        exact ⟨_, rfl, _, rfl, _, _, rfl, rfl, _, rfl, _, rfl, d, _, rfl, z1, _, _, _, _, rfl, z2, z3, upd_same, z4⟩
      · rw [show decide ((1 : Int) < (f.length : Int)) = false from decide_eq_false (by omega)]
        refine iteF ⟨_, rfl, _, rfl, _, _, rfl, rfl, r, scr, ns, _, rfl, hRA, by omega, by omega, fun H5 z hR5 k5 z0 z1 => ?_⟩
        obtain ⟨p1, p2, p3, p4⟩ := fin H5 z hR5 ((k2.trans (kA.mono (by simp))).trans k5) (k5.keep _ _ dr edA) (k5.tups _ _ ebA) z0 ⟨fun h => absurd h hl1, fun _ => by omega⟩
        exact ⟨_, rfl, _, rfl, _, _, rfl, rfl, _, rfl, _, rfl, d, _, rfl, p1, _, _, _, _, rfl, p2, p3, upd_same, p4⟩
  · rintro σ H1 ⟨τ, v4, v5, v6, rfl, hR1, k1, ed, ht⟩
    rw [hbl, List.take_length] at ed ht
    have ef1 := k1.keep _ _ flr efl
    refine ⟨_, rfl, fl, rfl, ⟨_, SqL.of ef1⟩, fun D0 hD0 => ?_⟩
    have n1 : fl ∉ ([D0] : List Addr) := fun z => by
      have e : fl = D0 := by simpa using z
      rw [← e, ef1] at hD0
      cases hD0
    have n2 : d ∉ ([D0] : List Addr) := fun z => by
      have e : d = D0 := by simpa using z
      rw [← e, ed] at hD0
      cases hD0
    refine lc_gen (walk_list (K := K) (a := fl) (xs := bs)) hD0 (by rw [hbl]; exact Nat.le_trans hL (by decide)) [] (by simp) (fun H' => H' fl = some (.lst bs) ∧ Tps H' bs L ∧ H' d = some (dI (vd τ L))) (fun i acc _ => acc = ((L.take i).map τ).map V.int) (fun H' H3 kk e => ⟨kk.keep _ _ n1 e.1, e.2.1.tk kk.tups, kk.keep _ _ n2 e.2.2⟩) (fun _ _ _ _ _ h => h)
      (fun i acc _ h => by rw [h, List.length_map, List.length_map, List.length_take]; omega) (fun H' _ e => SqL.of e.1) ⟨ef1, tb.tk k1.tups, ed⟩ (by simp) (fun i x H2 H3 acc hi k j pp eD y K1 K0 c1 c0 => ?_) (fun H2 acc k j pp eD => ?_)
    · obtain ⟨rfl, hx⟩ := y
      obtain ⟨f, hf, tf⟩ := pd_get j.2.1 hx
      refine ⟨rfl, yes_of ⟨_, rfl, _, rfl, d, .int (τ f), rfl, ?_, c1 _ _ (.refl _ _) j ?_⟩⟩
      · have z1 := dget j.2.2 tf
        rw [vd_get hF.nd (List.mem_of_getElem? hf)] at z1
        exact z1
      · rw [pp, take_snocL hf, List.map_append, List.map_append]
        rfl
    · rw [hbl, List.take_length] at pp
      refine ⟨⟨D0, acc, rfl, SqL.of eD, fun p hp => ?_⟩⟩
      have kp : Kp [] H1 (upd H2 p (.tup acc)) := k.new' hp
      refine q _ p τ (hR1.same kp.same) (k1.trans (kp.mono (by simp))) ((k1.trans (k.mono (by simp))).free hp) (by rw [upd_same, pp]) fun f hf => ?_
      have t := ht f hf
      have := (hF.simp f ((hF.mem f).mp hf)).1.len
      exact ⟨t.lo, by have := t.hi; omega, t.up⟩
end
end K18

set_option linter.all false
set_option Elab.async false
set_option maxRecDepth 100000
set_option maxHeartbeats 800000
namespace K18
open PySem PySem.Spec PyProof.Rows L2 SH

/-! ### isinstance of a caught exception that may have a dict -/
theorem kit_exc {K : PySem.W.Frag} {x D : Addr} {ox : Obj} {od : Option Obj} (C : ExcC K D) : PySem.W.KitX K (.ref x) (.ref D) (fun h => PySem.W.InstAt h x ox D od) :=
  PySem.W.kitx_exc (by obtain ⟨cd, hc, _⟩ := PySem.W.any_some C.hd; rw [hc]; rfl) C.hg C.hk C.hs C.ha C.hn C.ht C.hm
structure rIsX (K : PySem.W.Frag) (cls : Value) (a : Addr) (d : Option Addr) (xs : List V) (H : Hp) (Q : VK) : Prop where
  ex : ∃ (D : Addr) (c : V) (cv : Value) (b : Bool), cls = .ref D ∧ ExcC K D ∧ xs = [.ref a, c] ∧ (∀ u, RelV c u → u = cv) ∧ PySem.W.kitOne K (.ref D) cv = some b ∧ (d = none ∨ ∃ dd fs, d = some dd ∧ H dd = some (.xd fs)) ∧ Q (.bl b) H
theorem call_isX {X : Cx} {a : Addr} {cls : Value} {d : Option Addr} {oe : Obj} {pn : List (Addr × Obj)} (hz : Zc cls d oe) (hf : ∃ vs, oe.data = .fields vs) : CallR (X.suite a ((a, oe) :: pn)) (.builtin "isinstance") (rIsX X.K cls a d) := by
  intro pins s σ H xs us Q I r h
  obtain ⟨D, c, cv, b, rfl, C, rfl, hcv, e, hd, q⟩ := h.ex
  cases r with
  | cons rx rr =>
    cases rr with
    | cons rt rr =>
      cases rr
      cases rx
      have ec := hcv _ rt
      subst ec
      obtain ⟨hget, _⟩ := I.pin (a, oe) (List.mem_append.mpr (.inl List.mem_cons_self))
      obtain ⟨vs, hv⟩ := hf
      have J : ∃ od, PySem.W.InstAt s.heap a oe D od := by
        obtain ⟨oc, odd, oda, osl⟩ := oe
        obtain ⟨h1, h2⟩ := hz
        dsimp only at h1 h2 hv
        subst h1 h2 hv
        rcases hd with hd | ⟨dd, fs, hd, ed⟩
        · subst hd
          exact ⟨none, hget, rfl, rfl, trivial⟩
        · subst hd
          have hx : ObjOk X.prog X.w H s.heap dd (.xd fs) := I.hok dd _ ed
          obtain ⟨mA, ⟨o, es, ep, ho, _⟩, _⟩ := hx
          exact ⟨some o, hget, rfl, rfl, ho⟩
      obtain ⟨od, J⟩ := J
      exact PySem.W.kia_one (kit_exc C) I.kIn J e (fun z => nomatch z) fun tk => ⟨.bl b, H, I.kept (t' := tk) fun _ _ z => z, rfl, q⟩
structure tXw (a : Addr) (cls : Value) (d : Option Addr) (C : Addr) (f : Str) (te : TE) (σ : L2.St) (H : Hp) (Q : VK) : Prop where
  run : tXf a cls d C f te σ H Q

/-! ### _law_index -/
structure EcX (K : PySem.W.Frag) (D : Addr) : Prop where
  C : ExcC K D
def spIdx (K : PySem.W.Frag) (C : Addr) : Sp := fun vs H Q _ => ∃ (x : Addr) (t : V), vs = [.ref x, t] ∧
  ((∃ xs, H x = some (.tup xs) ∧ ∀ H', Same H H' → Q (.str "complex") H') ∨
    ∃ (F : S → Prop) (L : List S), CxO C H x F ∧ Fcs F L ∧
      ((∃ o, AskT K H t o ∧ o ≠ some L.length ∧ ∀ (H' : Hp) (p : Addr), Same H H' → H' p = some (.tup [.str "times", .non]) → Q (.ref p) H') ∨
        ∃ (ta : Addr) (tv : List V) (τ : S → Int) (n : Nat) (f : S) (v : V), t = .ref ta ∧ H ta = some (.tup tv) ∧ tv.length = L.length ∧ (∀ i f, i < n → L[i]? = some f → tv[i]? = some (.int (τ f)) ∧ Good τ f) ∧
          L[n]? = some f ∧ tv[n]? = some v ∧ Bad K H τ f v ∧ ∀ (H' : Hp) (p : Addr), Same H H' → H' p = some (.tup [.str "times", .int (n : Int)]) → Q (.ref p) H'))
/-- what the exceptions' classes must say -/
structure ExT (K : PySem.W.Frag) (mg : Str → Option Value) (SE NC BT : Addr) : Prop where
  mgS : mg "ShapeError" = some (.ref SE)
  mgN : mg "NotComplex" = some (.ref NC)
  mgB : mg "BadTimes" = some (.ref BT)
  cN : ExcC K NC
  cB : ExcC K BT
  nn : PySem.W.kitOne K (.ref NC) (.ref NC) = some true
  nb : PySem.W.kitOne K (.ref NC) (.ref BT) = some false
  bn : PySem.W.kitOne K (.ref BT) (.ref NC) = some false
  bb : PySem.W.kitOne K (.ref BT) (.ref BT) = some true
  eN : PySem.W.exmOne K (.ref NC) (.ref SE) = some true
  eB : PySem.W.exmOne K (.ref BT) (.ref SE) = some true
  no : PySem.W.findIn K (.ref BT) "index" = some none
section
variable {P : Program} {w : World} {K : PySem.W.Frag} {mg : Str → Option Value} {base : Heap}
theorem sc44 : FnScope ["_law_shape", "_law_times_here", "e"] ["_law_shape", "_law_times_here"] (defScope (top 44)) := ⟨rfl, rfl, rfl, by decide +kernel, rfl, by decide +kernel, by decide +kernel⟩
abbrev tIsX (K : PySem.W.Frag) (a : Addr) (cls : Value) (d : Option Addr) (c : Addr) : TE := tCB (rIsX K cls a d) (tCons (tVar 2) (tCons (tC (.ref c)) tNil))
abbrev tSuite (K : PySem.W.Frag) (NC BT : Addr) (a : Addr) (cls : Value) (d : Option Addr) : TS :=
  tSeq (tIfS (tAnd (tB (tIsX K a cls d BT)) (tNot (tB (tIsX K a cls d NC)))) (tRet (tTup (tCons (tC (.str "times")) (tCons (tXf a cls d BT "index" (tVar 2)) tNil)))) tNext) (tRet (tIf (tB (tIsX K a cls d NC)) (tC (.str "complex")) (tC (.str "other"))))
theorem ok_index {C CF SE NC BT : Addr} (D : Dx K mg "_law_index" (top 44) ["_law_shape", "_law_times_here"]) (B : Bt mg) (TF : FlT K mg CF) (T : ExT K mg SE NC BT) (I : MkD P w K mg base (L2.CX P w) 4 CF ["self", "shape", "times"] (spFI K C CF NC BT)) :
    Df P w K mg base (L2.CX P w) 6 "_law_index" ["_law_shape", "_law_times_here"] (spIdx K C) := by
  refine D.okX sc44 (fun vs H Q E h => by obtain ⟨x, t, rfl, _⟩ := h; rfl) (fun f cdv A outer s0 H vs Q E hr h => ?_)
  obtain ⟨x, t, rfl, h⟩ := h
  obtain ⟨fI, fdI, M, FI, bI⟩ := I.ex
  refine ⟨_, pss_cons (ps_try_as (i := 2) (tb := fun W => tDrop (tMakeS CF (spFI K C CF NC BT) (WE W) (tCons (tVar 0) (tCons (tVar 1) tNil)))) (ts := tSuite K NC BT) (Wout := fun _ _ _ _ => False) rfl rfl sc44.nd rfl rfl ⟨rfl, by decide, Or.inl T.mgS⟩ takes0
      (fun W pn xe tk _ => pss_one (ps_expr (pe_makeS M FI hr (by rfl) TF.mgC bI (fun σ => passAt tk σ) (pa_cons (pv 0) (pa_cons (pv 1) pa_nil)))))
      (fun a oe cls d pn hz hf => pss_cons (ps_if (PW.pt (pw_and (pt_val (pe_callB (call_isX hz hf) (by rfl) B.isi (by decide +kernel) (pa_cons (pv 2) (pa_cons (pe_glob (v := .ref BT) (by rfl) T.mgB rfl) pa_nil))))
          (pw_and1 (pt_not (pt_val (pe_callB (call_isX hz hf) (by rfl) B.isi (by decide +kernel) (pa_cons (pv 2) (pa_cons (pe_glob (v := .ref NC) (by rfl) T.mgN rfl) pa_nil)))))))) (pss_one (ps_ret (pe_tup (pa_cons pe_str (pa_cons (pe_xf ⟨T.cB.hg, T.cB.hk, T.cB.hs, T.cB.hd⟩ T.no hz hf (pv 2)) pa_nil))))) pss_nil)
        (pss_one (ps_ret (pe_ifExp (pt_val (pe_callB (call_isX hz hf) (by rfl) B.isi (by decide +kernel) (pa_cons (pv 2) (pa_cons (pe_glob (v := .ref NC) (by rfl) T.mgN rfl) pa_nil)))) pe_str pe_str)))))
    (pss_one (ps_ret pe_str)), ?_⟩
  refine ⟨_, rfl, _, rfl, fun g dx hg hdx hne => ?_⟩
  have k1 : Same H (upd (upd H dx (.own g)) g (.ins CF dx [])) := ((Kp.new hdx).new' (by rw [upd_ne hne.symm]; exact hg) : Kp [] H _).same
  -- what the suite does with a BadTimes
  have suite : ∀ (H' : Hp) (d a : Addr) (v : V) (D : Ends), H' d = some (.xd [("index", v)]) → (∀ p, H' p = none → D.rt (.ref p) (upd H' p (.tup [.str "times", v]))) → tSuite K NC BT a (.ref BT) (some d) D [some (.ref x), some t, some (.ref a)] H' := fun H' d a v D ed q => by
    refine ⟨_, rfl, ⟨⟨BT, .ref BT, .ref BT, true, rfl, T.cB, rfl, fun u h => h, T.bb, .inr ⟨d, _, rfl, ed⟩, true, rfl, iteT ?_⟩⟩⟩
    refine ⟨_, rfl, ⟨⟨BT, .ref NC, .ref NC, false, rfl, T.cB, rfl, fun u h => h, T.bn, .inr ⟨d, _, rfl, ed⟩, false, rfl, iteT ?_⟩⟩⟩
    refine ⟨_, rfl, rfl, rfl, d, _, v, rfl, ed, rfl, by show 2 ≤ sizeLine; decide, q⟩
  rcases h with ⟨xs, ex, q⟩ | ⟨F, L, hx, hF, h⟩
  · refine ⟨g, dx, x, t, rfl, upd_same, .inl ⟨xs, k1 _ _ ex, true, T.eN, fun _ a ha => ?_, fun z => nomatch z⟩⟩
    refine ⟨_, rfl, ⟨⟨NC, .ref BT, .ref BT, false, rfl, T.cN, rfl, fun u h => h, T.nb, .inl rfl, false, rfl, iteF (iteF ?_)⟩⟩⟩
    exact ⟨_, rfl, ⟨⟨NC, .ref NC, .ref NC, true, rfl, T.cN, rfl, fun u h => h, T.nn, .inl rfl, true, rfl, iteT (q _ k1)⟩⟩⟩
  · refine ⟨g, dx, x, t, rfl, upd_same, .inr ⟨F, L, hx.same k1, hF, ?_⟩⟩
    rcases h with ⟨o, ho, hne, q⟩ | ⟨ta, tv, τ, n, f', v, rfl, et, hl, hgood, hf, hv, bad, q⟩
    · refine .inl ⟨o, ho.same k1, hne, fun H' d k hd ed => ⟨true, T.eB, fun _ a ha => suite H' d a _ _ ed fun p hp => ?_, fun z => nomatch z⟩⟩
      exact q _ p ((k1.trans k).trans (Kp.new (S := []) hp).same) upd_same
    · refine .inr ⟨ta, tv, τ, n, rfl, k1 _ _ et, hl, hgood, .inr ⟨f', v, hf, hv, ?_, fun H' d k hd ed => ⟨true, T.eB, fun _ a ha => suite H' d a _ _ ed fun p hp => ?_, fun z => nomatch z⟩⟩⟩
      · cases bad with
        | no a => exact .no (a.same k1)
        | out n h o => exact .out n h o
        | low n h o l j hj c => exact .low n h o l j hj c
      · exact q _ p ((k1.trans k).trans (Kp.new (S := []) hp).same) upd_same
end
end K18

set_option linter.all false
set_option Elab.async false
set_option maxRecDepth 100000
set_option maxHeartbeats 800000
namespace K18
open PySem PySem.Spec PyProof.Rows L2 SH

/-! ### slices and sums of tuples, as values -/
structure rSlW (K : PySem.W.Frag) (x : V) (lo hi : Option Int) (H : Hp) (Q : VK) : Prop where
  ex : rSlA K x lo hi H Q
theorem sl_tupW {X : Cx} : SlR X (rSlW X.K) := fun pins s σ H x v vl vu lo hi sl Q I rx hs pl pu h => sl_tupA pins s σ H x v vl vu lo hi sl Q I rx hs pl pu h.ex
structure rCatW (K : PySem.W.Frag) (x y : V) (H : Hp) (Q : VK) : Prop where
  ex : rCatA K x y H Q
theorem op_catW {X : Cx} : OpR X (binaryOp .Add) (rCatW X.K) := fun pins s σ H x y v u Q I rx ry h => op_catA pins s σ H x y v u Q I rx ry h.ex
theorem slw_use {K : PySem.W.Frag} {H : Hp} {a : Addr} {xs : List V} {lo hi : Option Int} {Q : VK} (e : H a = some (.tup xs)) (q : ∀ (H' : Hp) (p : Addr), Same H H' → H' p = some (.tup (cutV xs lo hi)) → Q (.ref p) H') : rSlW K (.ref a) lo hi H Q := by
  refine ⟨⟨a, xs, rfl, SqT.of e, fun z => q H a (.refl _) ?_, fun _ p hp => q _ p (Kp.new (S := []) hp).same upd_same⟩⟩
  rw [e]
  unfold cutV
  rw [z.1, z.2, List.drop_zero, Nat.sub_zero, List.take_length]
theorem catw_use {K : PySem.W.Frag} {H : Hp} {a b : Addr} {xs ys : List V} {Q : VK} (ea : H a = some (.tup xs)) (eb : H b = some (.tup ys)) (hl : xs.length + ys.length ≤ 2000) (q : ∀ (H' : Hp) (p : Addr), Same H H' → H' p = some (.tup (xs ++ ys)) → Q (.ref p) H') : rCatW K (.ref a) (.ref b) H Q := by
  refine ⟨⟨a, b, xs, ys, rfl, rfl, SqT.of ea, SqT.of eb, Nat.le_trans hl (by decide), fun h => q H b (.refl _) ?_, fun _ h => q H a (.refl _) ?_, fun _ _ p hp => q _ p (Kp.new (S := []) hp).same upd_same⟩⟩
  · rw [h, List.nil_append]
    exact eb
  · rw [h, List.append_nil]
    exact ea
theorem cut_to (xs : List V) (n : Nat) (h : n ≤ xs.length) : cutV xs none (some (n : Int)) = xs.take n := by
  unfold cutV
  rw [HT.sIx_nat, HT.sIx_none, Nat.min_eq_left h, List.drop_zero, Nat.sub_zero]
theorem cut_from (xs : List V) (n : Nat) (h : n + 1 ≤ xs.length) : cutV xs (some ((n : Int) + 1)) none = xs.drop (n + 1) := by
  unfold cutV
  rw [show ((n : Int) + 1) = ((n + 1 : Nat) : Int) by omega, HT.sIx_nat, HT.sIx_none, Nat.min_eq_left h, List.take_of_length_le (by rw [List.length_drop]; exact Nat.le_refl _)]
structure rNeW (K : PySem.W.Frag) (x y : V) (H : Hp) (Q : VK) : Prop where
  ex : rNeD K x y H Q
theorem op_neW {X : Cx} (hu : X.A.units + 64 < cLine) : OpR X (compareOp .NotEq) (rNeW X.K) := fun pins s σ H x y v u Q I rx ry h => op_neD hu pins s σ H x y v u Q I rx ry h.ex
structure rEqV (K : PySem.W.Frag) (x y : V) (H : Hp) (Q : VK) : Prop where
  ex : rEqD K x y H Q
theorem op_eqV {X : Cx} (hu : X.A.units + 64 < cLine) : OpR X (compareOp .Eq) (rEqV X.K) := fun pins s σ H x y v u Q I rx ry h => op_eqD hu pins s σ H x y v u Q I rx ry h.ex
theorem dp_times {K : PySem.W.Frag} {H : Hp} {p : Addr} {v : V} {d : PyData} (e : H p = some (.tup [.str "times", v])) (h : Dp K H v d) : Dp K H (.ref p) (.tuple [.str "times", d]) := .tup (SqT.of e) (.cons (.str _) (.cons h .nil))
theorem shp_t (n : Int) : SeqAt.shaped (.tuple [.str "times", .int n]) = true := by
  unfold SeqAt.shaped
  have h1 : (PyData.tuple [.str "times", .int n]).canLay0 = true := by
    simp only [PyData.canLay0, PyData.canLayAll0, Bool.and_true]
    decide +kernel
  have h2 : (PyData.tuple [.str "times", .int n]).depth ≤ 64 := by simp [PyData.depth, PyData.depthAll]
  rw [h1, decide_eq_true h2]
  rfl
theorem shp_tn : SeqAt.shaped (.tuple [.str "times", .none]) = true := by decide +kernel
theorem zip_vd (τ : S → Int) : ∀ M : List S, M.zip ((M.map τ).map V.int) = vd τ M
  | [] => rfl
  | f :: M => by
    show (f, V.int (τ f)) :: M.zip ((M.map τ).map V.int) = (f, V.int (τ f)) :: vd τ M
    rw [zip_vd τ M]
/-- the property times -/
structure PrD (P : Program) (w : World) (K : PySem.W.Frag) (mg : Str → Option Value) (base : Heap) (CF : Addr) : Prop where
  ex : ∃ p g fd, PropOf K CF "times" p g ∧ FnOk P w K mg base CX0 1 g fd ["self"] (spGiven CF) ∧ Binds K fd ["self"] []
structure tPrW (CF : Addr) (ta : TE) (σ : L2.St) (H : Hp) (Q : VK) : Prop where
  run : tProp CF (spGiven CF) [] E0 ta σ H Q
theorem pe_prW {X : Cx} {CF : Addr} {k : Nat} {e : Expr} {pos : Pos} {ta : TE} (D : PrD X.prog X.w X.K X.mg X.base CF) (c : Cls X.K CF) (hr : Room k X.A) (hk : 2 ≤ k) (he : PE X e ta) (hab : attributeBase e "times" X.env (eval e X.env) = eval e X.env := by rfl) : PE X (.Attribute e "times" pos) (tPrW CF ta) := by
  obtain ⟨p, g, fd, hp, F, b⟩ := D.ex
  have z := pe_prop (pos := pos) he c hp F (hr.mono hk) b .nil (E := E0) (fun _ _ _ _ _ _ _ h => h.elim) hab
  exact ⟨fun pins s σ H Q I k => z.run pins s σ H Q I k.run⟩
/-- what stands while the law asks -/
structure St (C CF : Addr) (F : S → Prop) (M : List S) (τ : S → Int) (x g tt cl fl sm : Addr) (bs : List V) (H : Hp) : Prop where
  cx : CxO C H x F
  fo : FlO CF H g x tt M τ
  ck : H cl = some (dI (vd τ M))
  fl : H fl = some (.lst bs)
  tb : Tps H bs M
  sm : ∃ xs, H sm = some (.tup xs)
theorem St.kp {C CF : Addr} {F : S → Prop} {M : List S} {τ : S → Int} {x g tt cl fl sm : Addr} {bs : List V} {H H' : Hp} {R : List Addr} (h : St C CF F M τ x g tt cl fl sm bs H) (k : Kp R H H') (hR : ∀ y ∈ R, (∃ xs, H y = some (.lst xs)) ∧ y ≠ fl) : St C CF F M τ x g tt cl fl sm bs H' := by
  refine ⟨h.cx.kp k fun y m => (hR y m).1, h.fo.kp k fun y m => (hR y m).1, k.keep _ _ (fun z => ?_) h.ck, k.keep _ _ (fun z => (hR _ z).2 rfl) h.fl, h.tb.tk k.tups, ?_⟩
  · obtain ⟨xs, e⟩ := (hR _ z).1
    rw [h.ck] at e
    cases e
  · obtain ⟨xs, e⟩ := h.sm
    exact ⟨xs, k.tups _ _ e⟩
theorem St.same {C CF : Addr} {F : S → Prop} {M : List S} {τ : S → Int} {x g tt cl fl sm : Addr} {bs : List V} {H H' : Hp} (h : St C CF F M τ x g tt cl fl sm bs H) (k : Same H H') : St C CF F M τ x g tt cl fl sm bs H' := h.kp (.of_same (S := []) k) (by simp)
def spLaw (K : PySem.W.Frag) : Sp := fun vs H Q _ => ∃ (a : Addr) (ns : List Int), vs = [.ref a] ∧ SqL K H a (ns.map V.int) ∧ ns.length ≤ 63 ∧ ∀ H', Q (.bl true) H'
/-- all that the law leans on -/
structure EnvL (P : Program) (w : World) (K : PySem.W.Frag) (mg : Str → Option Value) (base : Heap) (C CF NC BT : Addr) : Prop where
  B : Bt mg
  T : CxT K mg C
  TF : FlT K mg CF
  mkC : MkD P w K mg base CX0 5 C ["self", "simplices"] (spCI C)
  mkF : MkD P w K mg base (L2.CX P w) 4 CF ["self", "shape", "times"] (spFI K C CF NC BT)
  eqF : EqD P w K mg base 2 CF (spFE C CF)
  nfT : PySem.W.notFirst K CF (.type "tuple") = true
  pr : PrD P w K mg base CF
  d25 : Df P w K mg base CX0 2 "simplices_of" ["shape"] (spSO C)
  d33 : Df P w K mg base CX0 9 "stage" ["filtration", "time"] (spStage C CF)
  d35 : Df P w K mg base CX0 2 "order_of" ["filtration"] (spOrdOf CF)
  d37 : Df P w K mg base CX0 1 "_law_taken" ["_law_row", "_law_many"] (spTaken K)
  d38 : Df P w K mg base CX0 2 "_law_pick" ["_law_row", "_law_things"] (spPick K)
  d39 : ∀ d, Df P w K mg base CX0 (d + 1) "_law_alike" ["_law_found", "_law_due"] (spAlk d)
  d41 : Df P w K mg base CX0 3 "_law_simplices" ["_law_row", "_law_most", "_law_size"] (spSs K)
  d42 : Df P w K mg base CX0 1 "_law_faces" ["_law_simplices_here"] spFaces
  d43 : Df P w K mg base CX0 3 "_law_times" ["_law_row", "_law_faces_here", "_law_most"] (spTimes K)
  d44 : Df P w K mg base (L2.CX P w) 6 "_law_index" ["_law_shape", "_law_times_here"] (spIdx K C)
section
variable {P : Program} {w : World} {K : PySem.W.Frag} {mg : Str → Option Value} {base : Heap}
abbrev nLw : List Str := ["_law_script", "_law_row", "_law_simplices_here", "_law_shape", "_law_faces_here", "_law_times_here", "_law_grown", "_law_clock", "_law_due", "_law_time", "_law_spot", "_law_bad", "_law_parts", "_law_low", "_law_spoilt", "_law_odd", "_law_part", "_law_face", "_law_at"]
theorem sc45 : FnScope nLw ["_law_script"] (defScope (top 45)) := ⟨rfl, rfl, rfl, by decide +kernel, rfl, by decide +kernel, by decide +kernel⟩
theorem set_same {α : Type} : ∀ {l : List α} {i : Nat} {x : α}, l[i]? = some x → l.set i x = l
  | [], i, x, h => by simp at h
  | y :: l, 0, x, h => by
    simp at h
    rw [h]
    rfl
  | y :: l, i + 1, x, h => congrArg (y :: ·) (set_same (l := l) (i := i) (by simpa using h))
theorem low_use {u : TS} {D : Ends} {σ : L2.St} {H : Hp} {mx : Int} {bd : Addr} {items : List V} (h13 : σ[13]? = some (some (.int mx))) (h11 : σ[11]? = some (some (.ref bd))) (eb : H bd = some (.lst items)) (hl : items.length ≤ 100)
    (k : ∀ (H' : Hp) (bd' : Addr) (items' : List V), Same H H' → H' bd' = some (.lst items') → (bd' = bd ∨ H bd' = none) → (items' = items ∨ (0 < mx ∧ items' = items ++ [.int (mx - 1), .int 0])) → u D (σ.set 11 (some (.ref bd'))) H') :
    tSeq (tIfS (tTest (tOp (rI0 fun i j => .bl (decide (j < i))) (tVar 13) (tC (.int 0)))) (tAsg (tOp rCatL (tVar 11) (tLst (tCons (tOp (rI0 fun i j => .int (i - j)) (tVar 13) (tC (.int 1))) (tCons (tC (.int 0)) tNil)))) (gName 11)) tNext) u D σ H := by
  refine ⟨_, h13, _, _, rfl, rfl, _, rfl, ?_⟩
  by_cases hm : 0 < mx
  · rw [decide_eq_true hm]
    refine iteT ⟨_, h11, _, h13, _, _, rfl, rfl, by show 2 ≤ sizeLine; decide, fun y hy => ?_⟩
    have ky : Kp [] H (upd H y (.lst [.int (mx - 1), .int 0])) := .new hy
    refine ⟨⟨bd, y, items, _, rfl, rfl, ky.keep _ _ (by simp) eb, upd_same, Nat.le_trans (show items.length + 2 ≤ 102 by omega) (by decide), fun z hz => ?_⟩⟩
    exact k _ z _ (ky.new' hz).same upd_same (.inr (ky.free hz)) (.inr ⟨hm, rfl⟩)
  · rw [decide_eq_false hm]
    refine iteF ?_
    have z := k H bd items (.refl _) eb (.inl rfl) (.inl rfl)
    rw [set_same h11] at z
    exact z
theorem ok_law {C CF NC BT f : Addr} {fd : FuncData} (Fn : Fun K "law" "law" (top 45) f fd) (W : EnvL P w K mg base C CF NC BT) : FnOk P w K mg base CX0 11 f fd ["_law_script"] (spLaw K) := by
  refine Fn.ok sc45 (fun vs H Q E h => by obtain ⟨a, ns, rfl, _⟩ := h; rfl) (fun cdv A outer s0 H vs Q E hr h => ?_)
  obtain ⟨a, ns, rfl, hS, hlen, q⟩ := h
  have hu := hu_of hr
  have B := W.B
  refine ⟨_, pss_cons (ps_set (i := 1) sc45.nd rfl (.inl rfl) (pe_lst (pa_cons (pv 0) (pa_cons pe_int (pa_cons pe_int (pa_cons pe_int pa_nil))))))
    (pss_cons (ps_set (i := 2) sc45.nd rfl (.inl rfl) (pe_op op_catW (pe_df W.d41 hr (by decide) (by rfl) pass0 (pa_cons (pv 1) (pa_cons pe_int (pa_cons pe_int pa_nil)))) (pe_tup (pa_cons (pe_tup (pa_cons pe_int (pa_cons pe_int pa_nil))) pa_nil))))
    (pss_cons (ps_asg (pe_tup (pa_cons (pe_mkd W.mkC hr (by decide) (by rfl) W.T.mgC pass0 (pa_cons (pv 2) pa_nil)) (pa_cons (pe_df W.d42 hr (by decide) (by rfl) pass0 (pa_cons (pv 2) pa_nil)) pa_nil))) (pg_tup rfl (pgs_cons (pg_name (i := 3) sc45.nd rfl (.inl rfl)) (pgs_cons (pg_name (i := 4) sc45.nd rfl (.inr rfl)) pgs_nil))))
    (pss_cons (ps_set (i := 5) sc45.nd rfl (.inl rfl) (pe_df W.d43 hr (by decide) (by rfl) pass0 (pa_cons (pv 1) (pa_cons (pv 4) (pa_cons (pe_df W.d38 hr (by decide) (by rfl) pass0 (pa_cons (pv 1) (pa_cons (pe_lst (pa_cons pe_int (pa_cons pe_int (pa_cons pe_int pa_nil)))) pa_nil))) pa_nil)))))
    (pss_cons (ps_asg (pe_tup (pa_cons (pe_mkd W.mkF hr (by decide) (by rfl) W.TF.mgC passL (pa_cons (pv 3) (pa_cons (pv 5) pa_nil))) (pa_cons (pe_dictZip rfl hr (by rfl) B.dict (by rfl) B.zip (pa_cons (pv 4) (pa_cons (pv 5) pa_nil))) pa_nil))) (pg_tup rfl (pgs_cons (pg_name (i := 6) sc45.nd rfl (.inl rfl)) (pgs_cons (pg_name (i := 7) sc45.nd rfl (.inr rfl)) pgs_nil))))
    (pss_cons (ps_if (PW.pt (pw_or (pt_not (pt_val (pe_df (W.d39 1) hr (by decide) (by rfl) pass0 (pa_cons (pe_prW W.pr W.TF.cl hr (by decide) (pv 6)) (pa_cons (pv 5) pa_nil)))))
        (pw_or (pt_not (pt_cmpR (op_eqW W.eqF hr (by decide)) (pv 6) (pe_mkd W.mkF hr (by decide) (by rfl) W.TF.mgC passL (pa_cons (pv 3) (pa_cons (pv 5) pa_nil))) (nomark _))) (pw_or1 (pt_cmpR (op_eqW W.eqF hr (by decide)) (pv 6) (pv 5) (nomark _)))))) (pss_one (ps_ret pe_bl)) pss_nil)
    (pss_cons (ps_setLc (i := 8) (own := [("_law_part", 16)]) (g := gName 16) (tt := tYes) (te := tOp (rIxT K) (tVar 16) (tC (.int 2))) rfl sc45.nd rfl rfl (sw_true rfl rfl rfl (by decide +kernel)) (pi_list (pe_callB (cr_srt hr) (by rfl) B.sorted (by decide +kernel) (pa_cons
        (pe_lc (own := [("_law_face", 17)]) (g := gName 17) (tt := tYes) (te := tTup (tCons (tDGet (tVar 7) (tVar 17)) (tCons (tCB (rLn K) (tCons (tVar 17) tNil)) (tCons (tVar 17) tNil)))) rfl sc45.nd (pi_list (pv 4)) (blkOk_by (N := nLw) (sc := defScope (top 45)) (by decide +kernel)) (fun _ _ _ _ _ => pg_name (i := 17) sc45.nd rfl (Or.inl rfl)) (fun _ _ _ _ _ => pts_nil)
          (fun _ _ _ _ _ => pe_tup (pa_cons (pe_dget hu (pv 7) (pv 17) (fun _ _ => rfl)) (pa_cons (pe_callB cr_len (by rfl) B.len PySem.boot_len (pa_cons (pv 17) pa_nil)) (pa_cons (pv 17) pa_nil))))) pa_nil)))
      (blkOk_by (N := nLw) (sc := defScope (top 45)) (by decide +kernel)) (fun _ _ _ _ _ => pg_name (i := 16) sc45.nd rfl (Or.inl rfl)) (fun _ _ _ _ _ => pts_nil) (fun _ _ _ _ _ => pe_ix ix_tup (pv 16) pe_int (fun _ _ => rfl)))
    (pss_cons (ps_if (pt_not (pt_val (pe_df (W.d39 2) hr (by decide) (by rfl) pass0 (pa_cons (pe_df W.d35 hr (by decide) (by rfl) pass0 (pa_cons (pv 6) pa_nil)) (pa_cons (pe_callTy cr_tpl (by rfl) B.tuple (by decide +kernel) (pa_cons (pv 8) pa_nil)) pa_nil))))) (pss_one (ps_ret pe_bl)) pss_nil)
    (pss_cons (ps_for PassesOwn.never rfl (pi_list (pe_lst (pa_cons pe_int (pa_cons pe_int (pa_cons (pe_df W.d37 hr (by decide) (by rfl) pass0 (pa_cons (pv 1) (pa_cons pe_int pa_nil))) (pa_cons (pe_df W.d38 hr (by decide) (by rfl) pass0 (pa_cons (pv 1) (pa_cons (pv 5) pa_nil))) pa_nil)))))) (pg_name (i := 9) sc45.nd rfl (.inr rfl))
      (pss_one (ps_if (pt_not (pt_val (pe_df (W.d39 2) hr (by decide) (by rfl) pass0 (pa_cons (pe_df W.d25 hr (by decide) (by rfl) pass0 (pa_cons (pe_df W.d33 hr (by decide) (by rfl) pass0 (pa_cons (pv 6) (pa_cons (pv 9) pa_nil))) pa_nil))
        (pa_cons (pe_lc (own := [("_law_face", 17)]) (g := gName 17) (tt := tTest (tOp (rI0 fun i j => .bl (decide (i ≤ j))) (tDGet (tVar 7) (tVar 17)) (tVar 9))) (te := tVar 17) rfl sc45.nd (pi_list (pv 4)) (blkOk_by (N := nLw) (sc := defScope (top 45)) (by decide +kernel)) (fun _ _ _ _ _ => pg_name (i := 17) sc45.nd rfl (Or.inl rfl))
          (fun _ _ _ _ _ => pts_one (pt_cmpR op_le (pe_dget hu (pv 7) (pv 17) (fun _ _ => rfl)) (pv 9) (nomark _))) (fun _ _ _ _ _ => pv 17)) pa_nil))))) (pss_one (ps_ret pe_bl)) pss_nil)))
    (pss_cons (ps_set (i := 10) sc45.nd rfl (.inr rfl) (pe_df W.d37 hr (by decide) (by rfl) pass0 (pa_cons (pv 1) (pa_cons (pe_callB cr_len (by rfl) B.len PySem.boot_len (pa_cons (pv 4) pa_nil)) pa_nil))))
    (pss_cons (ps_set (i := 11) sc45.nd rfl (.inl rfl) (pe_lst (pa_cons pe_non (pa_cons pe_bl (pa_cons pe_str (pa_cons pe_int (pa_cons (pe_un un_neg pe_int) (pa_cons (pe_tup (pa_cons pe_int pa_nil)) pa_nil))))))))
    (pss_cons (ps_setLc (i := 12) (own := [("_law_at", 18)]) (g := gName 18) (tt := tTest (tOp (rI0 fun i j => .bl (decide (j < i))) (tCB (rLn K) (tCons (tOp (rIxL K) (tVar 4) (tVar 10)) tNil)) (tC (.int 1)))) (te := tEra K (tOp (rIxL K) (tVar 4) (tVar 10)) (tVar 18)) rfl sc45.nd rfl rfl (sw_true rfl rfl rfl (by decide +kernel))
      (pi_range1 (by rfl) B.range (pa_cons (pe_callB cr_len (by rfl) B.len PySem.boot_len (pa_cons (pe_ix ix_list (pv 4) (pv 10) (fun _ _ => rfl)) pa_nil)) pa_nil)) (blkOk_by (N := nLw) (sc := defScope (top 45)) (by decide +kernel)) (fun _ _ _ _ _ => pg_name (i := 18) sc45.nd rfl (Or.inl rfl))
      (fun _ _ _ _ _ => pts_one (pt_cmpR op_gt (pe_callB cr_len (by rfl) B.len PySem.boot_len (pa_cons (pe_ix ix_list (pv 4) (pv 10) (fun _ _ => rfl)) pa_nil)) pe_int (nomark _)))
      (fun _ _ _ _ _ => pe_era (pe_op op_catA (pe_slice sl_tupA (pe_ix ix_list (pv 4) (pv 10) (fun _ _ => rfl)) po_none (po_some (pv 18))) (pe_slice sl_tupA (pe_ix ix_list (pv 4) (pv 10) (fun _ _ => rfl)) (po_some (pe_op op_add (pv 18) pe_int)) po_none))))
    (pss_cons (ps_set (i := 13) sc45.nd rfl (.inl rfl) (pe_callB (cr_max rfl) (by rfl) B.max (by decide +kernel) (pa_cons (pe_op op_catL
      (pe_lc (own := [("_law_part", 16)]) (g := gName 16) (tt := tYes) (te := tDGet (tVar 7) (tVar 16)) rfl sc45.nd (pi_list (pv 12)) (blkOk_by (N := nLw) (sc := defScope (top 45)) (by decide +kernel)) (fun _ _ _ _ _ => pg_name (i := 16) sc45.nd rfl (Or.inl rfl)) (fun _ _ _ _ _ => pts_nil)
        (fun _ _ _ _ _ => pe_dget hu (pv 7) (pv 16) (fun _ _ => rfl))) (pe_lst (pa_cons pe_int pa_nil))) pa_nil)))
    (pss_cons (ps_if (pt_cmpR op_gt (pv 13) pe_int (nomark _)) (pss_one (ps_set (i := 11) sc45.nd rfl (.inl rfl) (pe_op op_catL (pv 11) (pe_lst (pa_cons (pe_op op_sub (pv 13) pe_int) (pa_cons pe_int pa_nil)))))) pss_nil)
    (pss_cons (ps_set (i := 14) sc45.nd rfl (.inl rfl) (pe_op op_catW (pe_op op_catW (pe_slice sl_tupW (pv 5) po_none (po_some (pv 10))) (pe_tup (pa_cons (pe_df W.d38 hr (by decide) (by rfl) pass0 (pa_cons (pv 1) (pa_cons (pv 11) pa_nil))) pa_nil))) (pe_slice sl_tupW (pv 5) (po_some (pe_op op_add (pv 10) pe_int)) po_none)))
    (pss_cons (ps_if (pt_cmpR (op_neW hr.units) (pe_df W.d44 hr (by decide) (by rfl) passL (pa_cons (pv 3) (pa_cons (pv 14) pa_nil))) (pe_tup (pa_cons pe_str (pa_cons (pv 10) pa_nil))) (nomark _)) (pss_one (ps_ret pe_bl)) pss_nil)
    (pss_cons (ps_set (i := 15) sc45.nd rfl (.inl rfl) (pe_df W.d38 hr (by decide) (by rfl) pass0 (pa_cons (pv 1) (pa_cons (pe_lst (pa_cons pe_non (pa_cons (pe_callTy call_list_of (by rfl) B.list (by decide +kernel) (pa_cons (pv 5) pa_nil)) (pa_cons (pe_slice sl_tupW (pv 5) (po_some pe_int) po_none)
      (pa_cons (pe_op op_catW (pv 5) (pe_tup (pa_cons pe_int pa_nil))) (pa_cons pe_int pa_nil)))))) pa_nil))))
    (pss_one (ps_ret (pe_and (pe_cmpR (op_eqV hr.units) (pe_df W.d44 hr (by decide) (by rfl) passL (pa_cons (pv 3) (pa_cons (pv 15) pa_nil))) (pe_tup (pa_cons pe_str (pa_cons pe_non pa_nil))) (nomark _))
      (pe_one (pe_cmpR op_eq (pe_df W.d44 hr (by decide) (by rfl) passL (pa_cons (pv 2) (pa_cons (pv 15) pa_nil))) pe_str (nomark _)))))))))))))))))))))), ?_⟩
  -- the row
  refine ⟨_, rfl, by show 4 ≤ sizeLine; decide, fun r hr0 => ?_⟩
  have kr : Kp [] H (upd H r (rw4 a 0 3318 0)) := .new hr0
  have hR0 : Row K (upd H r (rw4 a 0 3318 0)) r a ns := ⟨⟨0, 3318, 0, upd_same, by decide, by decide, by decide⟩, sql_put hS fun o e => kr.keep _ _ (by simp) e⟩
  -- the simplices
  show tSeq _ _ _ _ (upd H r (rw4 a 0 3318 0))
  refine ⟨_, rfl, r, a, ns, rfl, hR0, fun H1 p0 bs0 L0 hR1 _ ep0 tb0 hL0 hz0 => ⟨by show 2 ≤ sizeLine; decide, fun u hu' => ⟨by show 1 ≤ sizeLine; decide, fun t ht => ?_⟩⟩⟩
  have ku : Kp [] H1 (upd (upd H1 u (.tup [.int 0, .int 6])) t (.tup [.ref u])) := (Kp.new hu').new' ht
  have ntu : u ≠ t := fun z => by rw [← z, upd_same] at ht; cases ht
  refine catw_use (ku.tups _ _ ep0) upd_same (by have := pd_len tb0; show bs0.length + 1 ≤ 2000; omega) fun H2 sm k2 esm => ?_
  have tb2 : Tps H2 (bs0 ++ [.ref u]) (L0 ++ [[0, 6]]) := pd_app ((tb0.tk ku.tups).tk fun b xs e => k2 _ _ e) (.cons ⟨u, rfl, k2 _ _ (by rw [upd_ne ntu, upd_same]; rfl)⟩ .nil)
  have hL2 : ∀ s ∈ L0 ++ [[0, 6]], Simp s ∧ s ≠ [] := fun s hs => by
    rcases List.mem_append.mp hs with hs | hs
    · exact hL0 s hs
    · rw [List.mem_singleton.mp hs]
      exact ⟨⟨by decide, by decide, by decide⟩, by simp⟩
  obtain ⟨LL, eL2⟩ : ∃ LL, LL = L0 ++ [[0, 6]] := ⟨_, rfl⟩
  obtain ⟨bs2, ebs2⟩ : ∃ bs2, bs2 = bs0 ++ [V.ref u] := ⟨_, rfl⟩
  have h06 : ([0] : S) ≠ [] ∧ ∃ s ∈ LL, ([0] : S).Sublist s := ⟨by simp, [0, 6], by rw [eL2]; simp, by decide⟩
  have hz2 : LL.length ≤ 15 := by rw [eL2, List.length_append]; simpa using Nat.add_le_add_right hz0 1
  rw [← eL2] at tb2 hL2
  rw [← ebs2] at tb2 esm
  have hR2 := (hR1.same ku.same).same k2
  -- the Complex, the faces
  refine ⟨_, rfl, fun x dx hx hdx hne => ⟨x, dx, sm, bs2, LL, rfl, upd_same, ?_, ?_, by omega, hL2, fun H4 k4 hcx => ⟨rfl, ?_⟩⟩⟩
  · rw [upd_ne (ne_of_none esm hx), upd_ne (ne_of_none esm hdx)]
    exact esm
  · exact tb2.tk ((Kp.new (S := []) hdx).new' (by rw [upd_ne hne.symm]; exact hx)).tups
  have kx : Same H2 H4 := fun b o e => k4.keep b o (by simpa using ne_of_none e hx) (by rw [upd_ne (ne_of_none e hx), upd_ne (ne_of_none e hdx)]; exact e)
  have hR4 := hR2.same kx
  refine ⟨_, rfl, sm, bs2, LL, rfl, kx _ _ esm, tb2.tk (fun b xs e => kx _ _ e), hL2, fun H5 fl cs M k5 hfl efl tbM srtM memM => ⟨by show 2 ≤ sizeLine; decide, fun tp1 htp1 => g2_at upd_same ?_⟩⟩
  have k6 : Same H5 (upd H5 tp1 (.tup [.ref x, .ref fl])) := (Kp.new (S := []) htp1).same
  have fcs : Fcs (IsFace LL) M := ⟨fun k h => ⟨IsFace.simp (fun s hs => (hL2 s hs).1) h, h.1⟩, fun p s h hp hs => h.sub hp hs, srtM, memM⟩
  have hM0 : 0 < M.length := List.length_pos_of_mem ((memM [0]).mpr h06)
  have hR6 := (hR4.same k5).same k6
  have hcx6 := (hcx.same k5).same k6
  have efl6 := k6 _ _ efl
  have tbM6 : Tps _ cs M := tbM.tk fun b xs e => k6 _ _ e
  have esm6 : upd H5 tp1 (.tup [.ref x, .ref fl]) sm = some (.tup bs2) := k6 _ _ (k5 _ _ (kx _ _ esm))
  have hflr : fl ≠ r := fun z => by
    obtain ⟨xs, e⟩ := hR4.lst r (by simp)
    rw [z, e] at hfl
    cases hfl
  obtain ⟨F, hF⟩ : ∃ F, F = IsFace LL := ⟨_, rfl⟩
  rw [← hF] at fcs hcx6
  obtain ⟨H6, hH6⟩ : ∃ H6, H6 = upd H5 tp1 (.tup [.ref x, .ref fl]) := ⟨_, rfl⟩
  rw [← hH6] at hR6 hcx6 efl6 tbM6 esm6 ⊢
  clear hH6 k6
  -- the times
  refine ⟨_, rfl, _, rfl, _, rfl, by show 3 ≤ sizeLine; decide, fun y hy => ?_⟩
  have ky : Kp [] H6 (upd H6 y (.lst [.int 0, .int 3, .int 900])) := .new hy
  have hyr : y ≠ r := fun z => by
    obtain ⟨xs, e⟩ := hR6.lst r (by simp)
    rw [z, e] at hy
    cases hy
  have hfr : fl ∉ ([r] : List Addr) := by simpa using hflr
  refine ⟨r, a, y, ns, _, rfl, hR6.same ky.same, .inl upd_same, hyr, by show 0 < 3; decide, by show 3 ≤ 1000; decide, fun H7 i w hw hR7 k7 => ?_⟩
  obtain ⟨most, rfl, ms0, ms9⟩ : ∃ z : Int, w = .int z ∧ 0 ≤ z ∧ z ≤ 900 := by
    match i, hw with
    | 0, hw => cases hw; exact ⟨0, rfl, by decide, by decide⟩
    | 1, hw => cases hw; exact ⟨3, rfl, by decide, by decide⟩
    | 2, hw => cases hw; exact ⟨900, rfl, by decide, by decide⟩
    | n + 3, hw => simp at hw
  have kk7 : Kp [r] H6 H7 := (ky.mono (by simp)).trans k7
  refine ⟨r, a, fl, ns, cs, F, M, most, rfl, hR7, hflr, kk7.keep _ _ hfr efl6, tbM6.tk kk7.tups, fcs, ms0, ms9, fun H8 tt τ hR8 k8 htt ett good => ?_⟩
  have kk8 := kk7.trans k8
  have hcx8 := hcx6.kp kk8 hR6.lst
  have efl8 := kk8.keep _ _ hfr efl6
  have tbM8 : Tps H8 cs M := tbM6.tk kk8.tups
  have esm8 := kk8.tups _ _ esm6
  -- the Filtration, the clock
  have hlt : ((M.map τ).map V.int).length = M.length := by rw [List.length_map, List.length_map]
  have goods : ∀ i f, i < M.length → M[i]? = some f → ((M.map τ).map V.int)[i]? = some (.int (τ f)) ∧ Good τ f := fun i f _ hf => ⟨by rw [List.getElem?_map, List.getElem?_map, hf]; rfl, good f (List.mem_of_getElem? hf)⟩
  refine ⟨_, rfl, _, rfl, fun g dg hg hdg hgne => ?_⟩
  have kg : Same H8 (upd (upd H8 dg (.own g)) g (.ins CF dg [])) := ((Kp.new hdg).new' (by rw [upd_ne hgne.symm]; exact hg) : Kp [] H8 _).same
  refine ⟨g, dg, x, .ref tt, rfl, upd_same, .inr ⟨F, M, hcx8.same kg, fcs, .inr ⟨tt, _, τ, M.length, rfl, kg _ _ ett, hlt, goods, .inl ⟨rfl, fun H10 k10 hfo => ⟨rfl, ?_⟩⟩⟩⟩⟩
  have k810 : Same H8 H10 := fun b o e => k10.keep b o (by simpa using ne_of_none e hg) (kg _ _ e)
  refine ⟨_, rfl, _, rfl, fl, tt, cs, M, _, rfl, k810 _ _ efl8, tbM8.tk (fun b xs e => k810 _ _ e), fcs.nd, k810 _ _ ett, hlt.symm, fun cl hcl => ⟨by show 2 ≤ sizeLine; decide, fun tp2 htp2 => g2_at upd_same ?_⟩⟩
  rw [zip_vd]
  have kc : Same H10 (upd (upd H10 cl (dI (vd τ M))) tp2 (.tup [.ref g, .ref cl])) := ((Kp.new hcl).new' (by rw [← zip_vd τ M]; exact htp2) : Kp [] H10 _).same
  have ncl : cl ≠ tp2 := fun z => by rw [← z, upd_same] at htp2; cases htp2
  have k811 := k810.trans kc
  have st : St C CF F M τ x g tt cl fl sm cs (upd (upd H10 cl (dI (vd τ M))) tp2 (.tup [.ref g, .ref cl])) :=
    ⟨hcx8.same k811, hfo.same kc, by rw [upd_ne ncl, upd_same], k811 _ _ efl8, tbM8.tk fun b xs e => k811 _ _ e, ⟨_, k811 _ _ esm8⟩⟩
  have hRR := hR8.same k811
  obtain ⟨G, hG⟩ : ∃ G, G = upd (upd H10 cl (dI (vd τ M))) tp2 (.tup [.ref g, .ref cl]) := ⟨_, rfl⟩
  rw [← hG] at st hRR ⊢
  clear hG kc k811 k810 k10 kg goods hcx8 efl8 tbM8 esm8 kk8 kk7 k8 k7 ky hy hyr hR7 hR8 efl6 tbM6 esm6 hR6 hcx6 hR4 kx hR2 tb2 ku k2 hR1
  -- the first looks
  have htr : tt ∉ ([r] : List Addr) := fun z => by
    obtain ⟨xs, e⟩ := hRR.lst tt z
    obtain ⟨dx', c', e1, e2, e3⟩ := st.fo.ex
    rw [e3] at e
    cases e
  obtain ⟨dxg, cg, eg1, eg2, eg3⟩ := st.fo.ex
  refine ⟨⟨_, rfl, g, dxg, _, rfl, eg1, g, x, tt, M, τ, rfl, st.fo, _, rfl, .ref tt, .ref tt, rfl, ⟨tt, tt, _, _, rfl, rfl, .inr ⟨eg3, eg3⟩, alk_ints _, by rw [List.length_map, List.length_map]; exact Nat.le_trans fcs.len (by decide)⟩, fun Ga ka => ⟨true, rfl, iteF ?_⟩⟩⟩
  refine ⟨_, rfl, _, rfl, _, rfl, fun g2 dg2 hg2 hdg2 hne2 => ?_⟩
  have kg2 : Same Ga (upd (upd Ga dg2 (.own g2)) g2 (.ins CF dg2 [])) := ((Kp.new hdg2).new' (by rw [upd_ne hne2.symm]; exact hg2) : Kp [] Ga _).same
  have sta := st.same ka
  have hlt : ((M.map τ).map V.int).length = M.length := by rw [List.length_map, List.length_map]
  have goods : ∀ i f, i < M.length → M[i]? = some f → ((M.map τ).map V.int)[i]? = some (.int (τ f)) ∧ Good τ f := fun i f _ hf => ⟨by rw [List.getElem?_map, List.getElem?_map, hf]; rfl, good f (List.mem_of_getElem? hf)⟩
  refine ⟨g2, dg2, x, .ref tt, rfl, upd_same, .inr ⟨F, M, sta.cx.same kg2, fcs, .inr ⟨tt, _, τ, M.length, rfl, kg2 _ _ (ka _ _ eg3), hlt, goods, .inl ⟨rfl, fun Gb kb hfo2 => ⟨rfl, ?_⟩⟩⟩⟩⟩
  have kab : Same Ga Gb := fun b o e => kb.keep b o (by simpa using ne_of_none e hg2) (kg2 _ _ e)
  have stb := sta.same kab
  have hRb := (hRR.same ka).same kab
  obtain ⟨dx3, c3, eg4, eg5, eg6⟩ := hfo2.ex
  have eg7 := kab _ _ (ka _ _ eg1)
  have eg8 := kab _ _ (ka _ _ eg3)
  refine ⟨⟨g, g2, dxg, _, rfl, rfl, eg7, .inl ⟨_, _, eg4⟩, g, g2, x, tt, M, τ, F, rfl, stb.fo, stb.cx, .inl ⟨hfo2, true, rfl, true, rfl, iteF ?_⟩⟩⟩
  refine ⟨_, rfl, _, rfl, ⟨⟨g, tt, dxg, _, rfl, rfl, eg7, .inr ⟨⟨_, eg8⟩, W.nfT⟩, g, tt, x, tt, M, τ, F, rfl, stb.fo, stb.cx, .inr ⟨_, eg8, false, rfl, false, rfl, iteF ?_⟩⟩⟩⟩
  clear hfo2 eg7 kab kb sta kg2 ka eg1 eg2 eg3 eg4 eg5 eg6
  -- the due order
  refine ⟨_, rfl, fl, rfl, ⟨_, SqL.of stb.fl⟩, fun D0 hD0 => ?_⟩
  have hcl := pd_len stb.tb
  have n1 : fl ∉ ([D0] : List Addr) := fun z => by
    have e : fl = D0 := by simpa using z
    rw [← e, stb.fl] at hD0
    cases hD0
  have n2 : cl ∉ ([D0] : List Addr) := fun z => by
    have e : cl = D0 := by simpa using z
    rw [← e, stb.ck] at hD0
    cases hD0
  refine lc_gen (walk_list (K := K) (a := fl) (xs := cs)) hD0 (by rw [hcl]; exact Nat.le_trans fcs.len (by decide)) [] (by simp) (fun H' => H' fl = some (.lst cs) ∧ Tps H' cs M ∧ H' cl = some (dI (vd τ M))) (fun i acc H' => Paired (fun x f => IsKy H' x (kT (τ f, f))) acc (M.take i)) (fun H' H3 kk e => ⟨kk.keep _ _ n1 e.1, e.2.1.tk kk.tups, kk.keep _ _ n2 e.2.2⟩)
    (fun _ _ _ _ kk h => L2.Paired.mapP h fun _ _ z => z.tk kk) (fun i acc _ h => by rw [pd_len h, List.length_take]; omega) (fun H' _ e => SqL.of e.1) ⟨stb.fl, stb.tb, stb.ck⟩ (by simpa using Paired.nil) (fun i y H2 H3 acc hi k j pp eD yy K1 K0 c1 c0 => ?_) (fun Gc acc k j pp eD => ?_)
  · obtain ⟨rfl, hy⟩ := yy
    obtain ⟨f', hf, b, rfl, eb⟩ := pd_get j.2.1 hy
    refine ⟨rfl, yes_of ⟨_, rfl, _, rfl, cl, .int (τ f'), rfl, ?_, _, rfl, rln_tp eb ⟨_, rfl, by show 3 ≤ sizeLine; decide, fun U hU => ?_⟩⟩⟩
    · have z1 := dget j.2.2 ⟨b, rfl, eb⟩
      rw [vd_get fcs.nd (List.mem_of_getElem? hf)] at z1
      exact z1
    · have kU : Kp [] H3 (upd H3 U (.tup [.int (τ f'), .int (f'.length : Int), .ref b])) := .new hU
      refine c1 _ _ kU ⟨kU.keep _ _ (by simp) j.1, j.2.1.tk kU.tups, kU.keep _ _ (by simp) j.2.2⟩ ?_
      rw [take_snocL hf]
      exact pd_snoc (L2.Paired.mapP pp fun _ _ z => z.tk kU.tups) ⟨U, _, rfl, upd_same, .cons rfl (.cons rfl (.cons ⟨b, rfl, kU.tups _ _ eb⟩ .nil))⟩
  rw [hcl, List.take_length] at pp
  refine srt_use (f := fun a => kT (τ a, a)) (SqL.of eD) pp (fun _ _ => True.intro) (fun s _ t _ => cmp_T _ _) fun ys M2 p perm py srt hp => ?_
  have inj : ∀ a b : S, kT (τ a, a) = kT (τ b, b) → a = b := fun a b e => by
    have := kT_inj _ _ e
    injection this
  have strict := strict_perm (f := fun a => kT (τ a, a)) inj perm fcs.nd srt
  have kp : Kp [] Gc (upd Gc p (.lst ys)) := .new hp
  have hl2 : M2.length ≤ 128 := by rw [perm.length_eq]; exact fcs.len
  have hyl := pd_len py
  refine ⟨p, rfl, ⟨ys, SqL.of upd_same⟩, fun D1 hD1 => ?_⟩
  have npD : p ≠ D1 := fun z => by
    rw [← z, upd_same] at hD1
    cases hD1
  refine lc_gen (walk_list (K := K) (a := p) (xs := ys)) hD1 (by rw [hyl]; exact Nat.le_trans hl2 (by decide)) [] (by simp) (fun H' => H' p = some (.lst ys) ∧ Paired (fun x f => IsKy H' x (kT (τ f, f))) ys M2) (fun i acc H' => Tps H' acc (M2.take i))
    (fun H' H3 kk e => ⟨kk.keep p _ (by simpa using npD) e.1, L2.Paired.mapP e.2 fun _ _ z => z.tk kk.tups⟩) (fun _ _ _ _ kk h => h.tk kk) (fun i acc _ h => by rw [pd_len h, List.length_take]; omega) (fun H' _ e => SqL.of e.1) ⟨upd_same, L2.Paired.mapP py fun _ _ z => z.tk kp.tups⟩
    (by simpa using Paired.nil) (fun i x H3 H4 acc hi k2 j2 pp2 eD2 y K1 K0 c1 c0 => ?_) (fun Gd acc2 k2 j2 pp2 eD2 => ?_)
  · obtain ⟨rfl, hx⟩ := y
    obtain ⟨s, hs, pk⟩ := pd_get j2.2 hx
    obtain ⟨T, vs, v, rfl, eT, hv, tv⟩ := rows_get (K := K) pk
    refine ⟨rfl, yes_of ⟨_, rfl, T, _, 2, v, rfl, rfl, SqT.of eT, atI_nat (j := 2) hv, ?_⟩⟩
    refine c1 _ _ (.refl _ _) j2 ?_
    rw [take_snocL hs]
    exact pd_snoc pp2 tv
  rw [hyl, List.take_length] at pp2
  have kbd : Same Gb Gd := (k.trans (kp.trans k2)).same
  have std := stb.same kbd
  have hRd := hRb.same kbd
  clear kbd k kp k2 j j2 pp py hD1 hD0 npD n1 n2 hp
  -- order_of
  refine ⟨_, rfl, g, x, tt, M, τ, F, rfl, std.fo, fcs, fun Ge pe bse Me ke hpe epe tbe perme srte => ⟨_, rfl, ⟨⟨D1, acc2, rfl, SqL.of (ke _ _ eD2), fun uq huq => ?_⟩⟩⟩⟩
  obtain rfl : Me = M2 := srt_uniq (sto_pull sto_K (fun a => kT (τ a, a)) inj) srte strict fun z => by rw [perme.mem_iff, perm.mem_iff]
  have kuq : Same Ge (upd Ge uq (.tup acc2)) := (Kp.new (S := []) huq).same
  have len7 : ∀ s ∈ Me, s.length ≤ 1000 := fun s hs => Nat.le_trans ((fcs.simp s ((fcs.mem s).mp (perme.mem_iff.mp hs))).1.len) (by decide)
  refine ⟨.ref pe, .ref uq, rfl, ⟨pe, uq, bse, acc2, rfl, rfl, .inr ⟨kuq _ _ epe, upd_same⟩, alk_tps (tbe.tk fun b xs e => kuq _ _ e) (pp2.tk fun b xs e => kuq _ _ (ke _ _ e)) len7, by rw [pd_len tbe]; exact Nat.le_trans hl2 (by decide)⟩, fun Gf kf => ⟨true, rfl, iteF ?_⟩⟩
  have kdf := (ke.trans kuq).trans kf
  have stf := std.same kdf
  have hRf := hRd.same kdf
  clear kdf ke kuq kf huq tbe epe hpe
  -- the stages
  obtain ⟨dxg, cg, eg1, eg2, eg3⟩ := stf.fo.ex
  refine ⟨_, rfl, r, a, ns, 8, rfl, hRf, by decide, by decide, fun Gg v hRg kg v0 v1 => ⟨_, rfl, _, rfl, r, a, tt, ns, _, rfl, hRg, .inr (kg.tups _ _ eg3), (by simpa using htr), by rw [hlt]; exact hM0, by rw [hlt]; exact Nat.le_trans fcs.len (by decide), fun Gh i w hw hRh kh => ⟨by show 4 ≤ sizeLine; decide, fun tl htl => ?_⟩⟩⟩
  have rfls : ∀ {H' : Hp}, Row K H' r a ns → ∀ y ∈ [r], (∃ xs, H' y = some (.lst xs)) ∧ y ≠ fl := fun h y hy => ⟨h.lst y hy, by
    rw [List.mem_singleton.mp hy]
    exact hflr.symm⟩
  have sth := (stf.kp kg (rfls hRf)).kp kh (rfls hRg)
  have times_ok : ∀ f ∈ M, 0 ≤ τ f ∧ τ f ≤ 1000 := fun f hf => ⟨(good f hf).lo, (good f hf).hi⟩
  obtain ⟨z, rfl, z0, z1⟩ : ∃ z : Int, w = .int z ∧ 0 ≤ z ∧ z ≤ 1000 := by
    rw [List.getElem?_map, List.getElem?_map] at hw
    cases hf : M[i]? with
    | none =>
      rw [hf] at hw
      cases hw
    | some f =>
      rw [hf] at hw
      cases hw
      have := times_ok f (List.mem_of_getElem? hf)
      exact ⟨τ f, rfl, this.1, this.2⟩
  have ktl : Same Gh (upd Gh tl (.lst [.int 0, .int 1000, .int v, .int z])) := (Kp.new (S := []) htl).same
  obtain ⟨Hs, hHs⟩ : ∃ Hs, Hs = upd Gh tl (.lst [.int 0, .int 1000, .int v, .int z]) := ⟨_, rfl⟩
  rw [← hHs] at ktl
  have etl : Hs tl = some (.lst [.int 0, .int 1000, .int v, .int z]) := by rw [hHs, upd_same]
  have sts := sth.same ktl
  have hRs := hRh.same ktl
  refine ⟨tl, rfl, ⟨_, SqL.of upd_same⟩, for_it walk_list (fun i σ H' => ∃ v9 : Option V, σ = [some (.ref a), some (.ref r), some (.ref sm), some (.ref x), some (.ref fl), some (.ref tt), some (.ref g), some (.ref cl), some (.ref D1), v9, none, none, none, none, none, none, none, none, none] ∧ Same Hs H')
    ⟨none, rfl, by rw [hHs]; exact .refl _⟩ (fun i σ H' _ ⟨_, _, k⟩ => SqL.of (k _ _ etl)) ?_ ?_⟩
  · rintro i y σ H1 H2 hi ⟨v9, rfl, ks⟩ ⟨rfl, hy⟩
    obtain ⟨n, rfl, n0, n1⟩ : ∃ n : Int, y = .int n ∧ 0 ≤ n ∧ n ≤ 1000 := by
      match i, hy with
      | 0, hy => cases hy; exact ⟨0, rfl, by decide, by decide⟩
      | 1, hy => cases hy; exact ⟨1000, rfl, by decide, by decide⟩
      | 2, hy => cases hy; exact ⟨v, rfl, v0, by omega⟩
      | 3, hy => cases hy; exact ⟨z, rfl, z0, z1⟩
      | n + 4, hy => simp at hy
    have st1 := sts.same ks
    refine ⟨_, rfl, _, rfl, g, x, tt, M, τ, F, n, rfl, st1.fo, fcs, good, n0, n1, fun Ha y ka hy hcy => ⟨y, _, rfl, hcy, fun k h => (fcs.simp k h.1).1, fun Hb pb bsb Lb kb hpb epb tbb srtb memb => ⟨_, rfl, fl, rfl, ⟨_, SqL.of ((st1.same ka).same kb).fl⟩, fun D hD => ?_⟩⟩⟩
    have stb := (st1.same ka).same kb
    have n1 : fl ∉ ([D] : List Addr) := fun z => by
      have e : fl = D := by simpa using z
      rw [← e, stb.fl] at hD
      cases hD
    have n2 : cl ∉ ([D] : List Addr) := fun z => by
      have e : cl = D := by simpa using z
      rw [← e, stb.ck] at hD
      cases hD
    have n3 : pb ∉ ([D] : List Addr) := fun z => by
      have e : pb = D := by simpa using z
      rw [← e, epb] at hD
      cases hD
    refine lc_gen (walk_list (K := K) (a := fl) (xs := cs)) hD (by rw [hcl]; exact Nat.le_trans fcs.len (by decide)) [] (by simp) (fun H' => H' fl = some (.lst cs) ∧ Tps H' cs M ∧ H' cl = some (dI (vd τ M)) ∧ H' pb = some (.lst bsb)) (fun i acc H' => Tps H' acc ((M.take i).filter fun f : S => decide (τ f ≤ n)))
      (fun H' H3 kk e => ⟨kk.keep _ _ n1 e.1, e.2.1.tk kk.tups, kk.keep _ _ n2 e.2.2.1, kk.keep _ _ n3 e.2.2.2⟩) (fun _ _ _ _ kk h => h.tk kk) (fun i acc _ h => by have := List.length_filter_le (fun f : S => decide (τ f ≤ n)) (M.take i); rw [pd_len h]; rw [List.length_take] at this; omega) (fun H' _ e => SqL.of e.1) ⟨stb.fl, stb.tb, stb.ck, epb⟩ (by simpa using Paired.nil)
      (fun i y H3 H4 acc hi k j pp eD yy K1 K0 c1 c0 => ?_) (fun Hc acc k j pp eD => ?_)
    · obtain ⟨rfl, hy⟩ := yy
      obtain ⟨f', hf, tf⟩ := pd_get j.2.1 hy
      refine ⟨rfl, _, rfl, _, rfl, cl, .int (τ f'), rfl, ?_, _, rfl, _, _, rfl, rfl, _, rfl, ?_⟩
      · have z1 := dget j.2.2.1 tf
        rw [vd_get fcs.nd (List.mem_of_getElem? hf)] at z1
        exact z1
      · by_cases hn : τ f' ≤ n
        · rw [decide_eq_true hn]
          refine iteT ⟨_, rfl, c1 _ _ (.refl _ _) j ?_⟩
          rw [take_snocL hf, List.filter_append, List.filter_cons_of_pos (by simpa using hn), List.filter_nil]
          exact pd_snoc pp tf
        · rw [decide_eq_false hn]
          refine iteF (c0 _ (.refl _ _) j ?_)
          rw [take_snocL hf, List.filter_append, List.filter_cons_of_neg (by simpa using hn), List.filter_nil, List.append_nil]
          exact pp
    · rw [hcl, List.take_length] at pp
      obtain rfl : Lb = M.filter fun f : S => decide (τ f ≤ n) := srt_uniq sto_F srtb (fcs.srt.sublist List.filter_sublist) fun k => by
        rw [memb, List.mem_filter, fcs.mem]
        simp
      have kbc := k.same
      have l1000 : ∀ s ∈ M.filter fun f : S => decide (τ f ≤ n), s.length ≤ 1000 := fun s hs => Nat.le_trans ((fcs.simp s ((fcs.mem s).mp (List.mem_filter.mp hs).1)).1.len) (by decide)
      refine ⟨.ref pb, .ref D, rfl, ⟨pb, D, bsb, acc, rfl, rfl, .inl ⟨j.2.2.2, eD⟩, alk_tps (tbb.tk fun b xs e => kbc _ _ e) pp l1000, ?_⟩, fun Hd kd => ⟨true, rfl, iteF ⟨_, rfl, (((ks.trans ka).trans kb).trans kbc).trans kd⟩⟩⟩
      have := List.length_filter_le (fun f : S => decide (τ f ≤ n)) M
      have := fcs.len
      rw [pd_len tbb]
      omega
  · rintro σ H1 ⟨v9, rfl, ks⟩
    have st1 := sts.same ks
    have hR1 := hRs.same ks
    clear hw hHs etl sts hRs ktl sth hRh kh htl hRg kg stf hRf eg1 eg2 eg3
    -- the spot
    refine ⟨_, rfl, _, rfl, rln_lst st1.fl ⟨r, a, ns, _, rfl, hR1, by omega, by have := fcs.len; omega, fun H2 sp hR2 k2 s0 s1 => ?_⟩⟩
    obtain ⟨n, rfl⟩ : ∃ n : Nat, sp = (n : Int) := ⟨sp.toNat, by omega⟩
    have hnM : n < M.length := by omega
    have st2 := st1.kp k2 (rfls hR1)
    obtain ⟨f, hf⟩ : ∃ f, M[n]? = some f := ⟨_, List.getElem?_eq_getElem hnM⟩
    obtain ⟨bv, hbv, b, rfl, eb⟩ := pd_get' st2.tb hf
    have sf := fcs.simp f ((fcs.mem f).mp (List.mem_of_getElem? hf))
    -- bad values
    refine ⟨1, rfl, by show 1 ≤ sizeLine; decide, fun ub hub => ⟨by show 6 ≤ sizeLine; decide, fun bd hbd => ?_⟩⟩
    have kb2 : Kp [] H2 (upd (upd H2 ub (.tup [.int 0])) bd (.lst [.non, .bl true, .str "0", .int 1001, .int (-1), .ref ub])) := (Kp.new hub).new' hbd
    obtain ⟨H3, hH3⟩ : ∃ H3, H3 = upd (upd H2 ub (.tup [.int 0])) bd (.lst [.non, .bl true, .str "0", .int 1001, .int (-1), .ref ub]) := ⟨_, rfl⟩
    have ebd3 : H3 bd = some (.lst [.non, .bl true, .str "0", .int 1001, .int (-1), .ref ub]) := by rw [hH3, upd_same]
    have eub3 : H3 ub = some (.tup [.int 0]) := by
      have : ub ≠ bd := fun z => by
        rw [← z, upd_same] at hbd
        cases hbd
      rw [hH3, upd_ne this, upd_same]
    have nbr : bd ∉ ([r] : List Addr) := fun z => by
      obtain ⟨xs, e⟩ := hR2.lst bd z
      have := (Kp.new (S := []) (o := .tup [.int 0]) hub).free hbd
      rw [this] at e
      cases e
    show tSeq _ _ _ _ (upd (upd H2 ub (.tup [.int 0])) bd (.lst [.non, .bl true, .str "0", .int 1001, .int (-1), .ref ub]))
    rw [← hH3]
    rw [← hH3] at kb2
    have st3 := st2.same kb2.same
    have hR3 := hR2.same kb2.same
    have eb3 := kb2.tups _ _ eb
    clear hH3
    -- the parts
    refine ⟨_, rfl, _, rfl, fl, cs, _, .ref b, rfl, rfl, SqL.of st3.fl, atI_nat hbv, rln_tp eb3 ⟨(f.length : Int), rfl, by omega, by have := sf.1.len; omega, ?_⟩⟩
    rw [Int.toNat_natCast]
    refine fun D hD => ?_
    have n1 : fl ∉ ([D] : List Addr) := fun z => by
      have e : fl = D := by simpa using z
      rw [← e, st3.fl] at hD
      cases hD
    refine lc_gen walk_range hD (Nat.le_trans sf.1.len (by decide)) [] (by simp) (fun H' => H' fl = some (.lst cs) ∧ H' b = some (tp f)) (fun j acc H' => Tps H' acc (if 1 < f.length then (List.range j).map (fun j' => f.eraseIdx j') else [])) (fun H' H5 kk e => ⟨kk.keep _ _ n1 e.1, kk.tups _ _ e.2⟩) (fun _ _ _ _ kk h => h.tk kk)
      (fun j acc _ h => by
        rw [pd_len h]
        split
        · rw [List.length_map, List.length_range]
          exact Nat.le_refl _
        · exact Nat.zero_le _) (fun _ _ _ => True.intro) ⟨st3.fl, eb3⟩ (by simpa using Paired.nil) (fun j y H5 H6 acc hj kk jj pp eD yy K1 K0 c1 c0 => ?_) (fun H4 acc kk jj pp eD => ?_)
    · obtain ⟨rfl, rfl⟩ := yy
      refine ⟨rfl, _, rfl, _, rfl, fl, cs, _, .ref b, rfl, rfl, SqL.of jj.1, atI_nat hbv, rln_tp jj.2 ⟨_, _, rfl, rfl, _, rfl, ?_⟩⟩
      by_cases hl : 1 < f.length
      · rw [show decide ((1 : Int) < (f.length : Int)) = true from decide_eq_true (by omega)]
        refine iteT (era_use (i := j) (b := b) (s := f) (fun H' Q' kk z => ⟨_, rfl, _, rfl, fl, cs, _, .ref b, rfl, rfl, SqL.of (kk _ _ jj.1), atI_nat hbv, z⟩) (fun H' Q' _ z => ⟨_, rfl, by show Q' (.int (0 + (j : Int))) H'; rw [Int.zero_add]; exact z⟩) jj.2 (Nat.le_trans sf.1.len (by decide)) hj fun H7 u k7 tu => ?_)
        refine c1 _ _ (.of_same k7) ⟨k7 _ _ jj.1, k7 _ _ jj.2⟩ ?_
        rw [if_pos hl] at pp ⊢
        rw [List.range_succ, List.map_append]
        exact pd_snoc (Tps.tk pp fun b xs e => k7 _ _ e) tu
      · rw [show decide ((1 : Int) < (f.length : Int)) = false from decide_eq_false (by omega)]
        refine iteF (c0 _ (.refl _ _) jj ?_)
        rw [if_neg hl] at pp ⊢
        exact pp
    have st4 := st3.same kk.same
    have hR4 := hR3.same kk.same
    have ebd4 := kk.same _ _ ebd3
    have eub4 := kk.same _ _ eub3
    have inM : ∀ p' ∈ (if 1 < f.length then (List.range f.length).map (fun j' => f.eraseIdx j') else []), p' ∈ M := fun p' h => by
      by_cases hl : 1 < f.length
      · rw [if_pos hl] at h
        obtain ⟨j', h1, rfl⟩ := List.mem_map.mp h
        exact List.mem_of_mem_take (fcs.part hf hl (List.mem_range.mp h1))
      · rw [if_neg hl] at h
        cases h
    have hacc : acc.length ≤ 7 := by
      have := sf.1.len
      rw [pd_len pp]
      split
      · rw [List.length_map, List.length_range]
        exact this
      · exact Nat.zero_le _
    -- the lowest that it may be
    refine ⟨_, rfl, D, rfl, ⟨acc, SqL.of eD⟩, fun D2 hD2 => ?_⟩
    have m1 : D ∉ ([D2] : List Addr) := fun z => by
      have e : D = D2 := by simpa using z
      rw [← e, eD] at hD2
      cases hD2
    have m2 : cl ∉ ([D2] : List Addr) := fun z => by
      have e : cl = D2 := by simpa using z
      rw [← e, st4.ck] at hD2
      cases hD2
    refine lc_gen (walk_list (K := K) (a := D) (xs := acc)) hD2 (Nat.le_trans hacc (by decide)) [] (by simp) (fun H' => H' D = some (.lst acc) ∧ Tps H' acc (if 1 < f.length then (List.range f.length).map (fun j' => f.eraseIdx j') else []) ∧ H' cl = some (dI (vd τ M)))
      (fun j acc2 _ => acc2 = (((if 1 < f.length then (List.range f.length).map (fun j' => f.eraseIdx j') else []).take j).map τ).map V.int) (fun H' H5 kk e => ⟨kk.keep _ _ m1 e.1, e.2.1.tk kk.tups, kk.keep _ _ m2 e.2.2⟩) (fun _ _ _ _ _ h => h) (fun j acc2 _ h => by rw [h, List.length_map, List.length_map, List.length_take]; omega) (fun H' _ e => SqL.of e.1) ⟨eD, pp, st4.ck⟩ (by simp)
      (fun j y H5 H6 acc2 hj kk2 jj2 pp2 eD2 yy K1 K0 c1 c0 => ?_) (fun H5 acc2 kk2 jj2 pp2 eD2 => ?_)
    · obtain ⟨rfl, hy⟩ := yy
      obtain ⟨p', hp', tp'⟩ := pd_get jj2.2.1 hy
      refine ⟨rfl, yes_of ⟨_, rfl, _, rfl, cl, .int (τ p'), rfl, ?_, c1 _ _ (.refl _ _) jj2 ?_⟩⟩
      · have z1 := dget jj2.2.2 tp'
        rw [vd_get fcs.nd (inM p' (List.mem_of_getElem? hp'))] at z1
        exact z1
      · rw [pp2, take_snocL hp', List.map_append, List.map_append]
        rfl
    rw [pd_len pp, List.take_length] at pp2
    refine ⟨by show 1 ≤ sizeLine; decide, fun u0 hu0 => ?_⟩
    have ku0 : Kp [] H5 (upd H5 u0 (.lst [.int 0])) := .new hu0
    have hacc2 : acc2.length ≤ 7 := by
      rw [pp2, List.length_map, List.length_map, ← pd_len pp]
      exact hacc
    refine ⟨⟨D2, u0, acc2, [.int 0], rfl, rfl, ku0.keep _ _ (by simp) eD2, upd_same, Nat.le_trans (show acc2.length + 1 ≤ 8 by omega) (by decide), fun l hl => ?_⟩⟩
    have kl := ku0.new' (o := .lst (acc2 ++ [.int 0])) hl
    have ens : acc2 ++ [V.int 0] = ((if 1 < f.length then (List.range f.length).map (fun j' => f.eraseIdx j') else []).map τ ++ [0]).map V.int := by
      rw [pp2, List.map_append]
      rfl
    refine ⟨l, _, rfl, SqL.of (by rw [upd_same, ens]), by rw [List.length_append]; simp, fun mx hmx hle => ?_⟩
    have mxu : mx = 0 ∨ (1 < f.length ∧ ∃ j, j < f.length ∧ mx = τ (f.eraseIdx j)) := by
      rcases List.mem_append.mp hmx with h | h
      · by_cases hl : 1 < f.length
        · rw [if_pos hl] at h
          obtain ⟨p', hp', rfl⟩ := List.mem_map.mp h
          obtain ⟨j', hj', rfl⟩ := List.mem_map.mp hp'
          exact .inr ⟨hl, j', List.mem_range.mp hj', rfl⟩
        · rw [if_neg hl] at h
          cases h
      · exact .inl (List.mem_singleton.mp h)
    have k45 := (kk2.trans kl).same
    have st5 := st4.same k45
    have hR5 := hR4.same k45
    have ebd5 := k45 _ _ ebd4
    have eub5 := k45 _ _ eub4
    obtain ⟨H6, hH6⟩ : ∃ H6, H6 = upd (upd H5 u0 (.lst [.int 0])) l (.lst (acc2 ++ [.int 0])) := ⟨_, rfl⟩
    rw [← hH6] at st5 hR5 ebd5 eub5 ⊢
    clear hH6 k45 kl ku0 ens hle hmx
    show tSeq _ _ _ _ _
    refine low_use (mx := mx) (bd := bd) rfl rfl ebd5 (by show 6 ≤ 100; decide) fun H7 bd' items' k7 ebd7 hbd7 hit => ?_
    have st7 := st5.same k7
    have hR7 := hR5.same k7
    have eub7 := k7 _ _ eub5
    have nbr' : bd' ∉ ([r] : List Addr) := by
      rcases hbd7 with rfl | h
      · exact nbr
      · intro z
        obtain ⟨xs, e⟩ := hR5.lst bd' z
        rw [h] at e
        cases e
    have bads : ∀ w ∈ items', ∀ H', Same H7 H' → Bad K H' τ f w := fun w hw H' k' => by
      have base : ∀ w ∈ ([.non, .bl true, .str "0", .int 1001, .int (-1), .ref ub] : List V), Bad K H' τ f w := fun w hw => by
        simp only [List.mem_cons, List.not_mem_nil, or_false] at hw
        rcases hw with rfl | rfl | rfl | rfl | rfl | rfl
        · exact .no .non
        · exact .no (.bl true)
        · exact .no (.str "0")
        · exact .out 1001 rfl (by decide)
        · exact .out (-1) rfl (by decide)
        · exact .no (.tup (k' _ _ eub7))
      rcases hit with rfl | ⟨hm, rfl⟩
      · exact base w hw
      · rcases List.mem_append.mp hw with hw | hw
        · exact base w hw
        · rcases mxu with rfl | ⟨hl, j, hj, rfl⟩
          · omega
          · have h1000 := (times_ok _ (List.mem_of_mem_take (fcs.part hf hl hj))).2
            simp only [List.mem_cons, List.not_mem_nil, or_false] at hw
            rcases hw with rfl | rfl
            · exact .low _ rfl ⟨by omega, by omega⟩ hl j hj (by omega)
            · exact .low 0 rfl ⟨by omega, by omega⟩ hl j hj hm
    have hil : 0 < items'.length ∧ items'.length ≤ 1000 := by
      rcases hit with rfl | ⟨_, rfl⟩ <;> exact ⟨by simp, by simp⟩
    obtain ⟨tv, htv⟩ : ∃ tv, tv = (M.map τ).map V.int := ⟨_, rfl⟩
    rw [← htv] at hlt goods
    obtain ⟨dx7, c7, e71, e72, e73⟩ := st7.fo.ex
    rw [← htv] at e73
    -- the spoilt times
    refine ⟨_, rfl, _, rfl, _, rfl, slw_use e73 fun Ha pa ka epa => ⟨_, rfl, _, rfl, r, a, bd', ns, items', rfl, hR7.same ka, .inl (ka _ _ ebd7), (by simpa using nbr'), hil.1, hil.2, fun Hb i w hw hRb kb => ⟨by show 1 ≤ sizeLine; decide, fun t1 ht1 => ?_⟩⟩⟩
    have ktt : Kp [] Hb (upd Hb t1 (.tup [w])) := .new ht1
    have rowA : ∀ y ∈ [r], (∃ xs, Ha y = some (.lst xs)) ∧ y ≠ fl := rfls (hR7.same ka)
    have stb := ((st7.same ka).kp kb rowA).same ktt.same
    have hRb' := hRb.same ktt.same
    have cut1' : cutV tv none (some (n : Int)) = tv.take n := cut_to tv n (by omega)
    have cut2' : cutV tv (some ((n : Int) + 1)) none = tv.drop (n + 1) := cut_from tv n (by omega)
    refine catw_use (ktt.tups _ _ (kb.tups _ _ epa)) upd_same ?_ fun Hc pc kc epc => ?_
    · rw [cut1', List.length_take]
      have := fcs.len
      show min n tv.length + 1 ≤ 2000
      omega
    refine ⟨_, rfl, _, rfl, _, _, rfl, rfl, _, rfl, slw_use (kc _ _ (ktt.tups _ _ (kb.tups _ _ (ka _ _ e73)))) fun Hd pd kd epd => catw_use (kd _ _ epc) epd ?_ fun He pe ke epe => ?_⟩
    · rw [cut1', cut2', List.length_append, List.length_take, List.length_drop]
      have := fcs.len
      show min n tv.length + 1 + (tv.length - (n + 1)) ≤ 2000
      omega
    rw [cut1', cut2'] at epe
    have kbe := (kc.trans kd).trans ke
    have ste := stb.same kbe
    have hRe := hRb'.same kbe
    have k7e : ∀ w ∈ items', Bad K He τ f w := fun w hw => by
      have h7 := bads w hw H7 (.refl _)
      have kt : TK H7 He := ((Kp.of_same (S := []) ka).tups.trans kb.tups).trans (fun b xs e => kbe _ _ (ktt.tups _ _ e))
      cases h7 with
      | no h =>
        cases h with
        | non => exact .no .non
        | bl c => exact .no (.bl c)
        | str c => exact .no (.str c)
        | tup e => exact .no (.tup (kt _ _ e))
      | out n h o => exact .out n h o
      | low n h o l j hj c => exact .low n h o l j hj c
    have htn : (tv.take n).length = n := by rw [List.length_take]; omega
    have hsl : (tv.take n ++ [w] ++ tv.drop (n + 1)).length = M.length := by
      rw [List.length_append, List.length_append, List.length_drop, htn]
      show n + 1 + (tv.length - (n + 1)) = M.length
      omega
    have hsn : (tv.take n ++ [w] ++ tv.drop (n + 1))[n]? = some w := by
      rw [List.append_assoc, List.getElem?_append_right (by rw [htn]; exact Nat.le_refl _), htn, Nat.sub_self]
      rfl
    have hsi : ∀ i f, i < n → M[i]? = some f → (tv.take n ++ [w] ++ tv.drop (n + 1))[i]? = some (.int (τ f)) ∧ Good τ f := fun i f hi hf => by
      obtain ⟨h1, h2⟩ := goods i f (by omega) hf
      refine ⟨?_, h2⟩
      rw [List.append_assoc, List.getElem?_append_left (by rw [htn]; exact hi), List.getElem?_take_of_lt hi]
      exact h1
    refine ⟨_, rfl, _, rfl, x, .ref pe, rfl, .inr ⟨F, M, ste.cx, fcs, .inr ⟨pe, _, τ, n, f, w, rfl, epe, hsl, hsi, hf, hsn, k7e w (List.mem_of_getElem? hw), fun Hf pf kf epf => ?_⟩⟩⟩
    refine ⟨_, rfl, by show 2 ≤ sizeLine; decide, fun t2 ht2 => ⟨⟨.tuple [.str "times", .int (n : Int)], .tuple [.str "times", .int (n : Int)], dp_times ((Kp.new (S := []) ht2).same _ _ epf) (.int _), dp_times upd_same (.int _), shp_t _, shp_t _, false, ?_, iteF ?_⟩⟩⟩
    · rw [SeqAt.eqv_refl _ (SeqAt.canLay_of_shaped (shp_t _))]
      rfl
    have kf2 := kf.trans (Kp.new (S := []) (o := .tup [.str "times", .int (n : Int)]) ht2).same
    have stf := ste.same kf2
    have hRf := hRe.same kf2
    obtain ⟨Hg, hHg⟩ : ∃ Hg, Hg = upd Hf t2 (.tup [.str "times", .int (n : Int)]) := ⟨_, rfl⟩
    rw [← hHg] at stf hRf
    show tSeq _ _ _ _ (upd Hf t2 (.tup [.str "times", .int (n : Int)]))
    rw [← hHg]
    clear hHg kf2 kf ht2
    obtain ⟨dx8, c8, e81, e82, e83⟩ := stf.fo.ex
    rw [← htv] at e83
    -- odd times
    refine ⟨_, rfl, _, rfl, tt, _, rfl, .inr (SqT.of e83), fun l1 hl1 => ⟨_, rfl, _, rfl, ?_⟩⟩
    have kl1 : Kp [] Hg (upd Hg l1 (.lst tv)) := .new hl1
    refine slw_use (kl1.tups _ _ e83) fun Hh ph kh eph => ⟨_, rfl, by show 1 ≤ sizeLine; decide, fun t3 ht3 => catw_use ((Kp.new (S := []) ht3).tups _ _ (kh _ _ (kl1.tups _ _ e83))) upd_same ?_ fun Hi pi ki epi => ⟨by show 5 ≤ sizeLine; decide, fun od hod => ?_⟩⟩
    · have := fcs.len
      show tv.length + 1 ≤ 2000
      omega
    have kt3 : Same Hh (upd Hh t3 (.tup [.int 1000])) := (Kp.new (S := []) ht3).same
    have khi := kt3.trans ki
    have kod : Kp [] Hi (upd Hi od (.lst [.non, .ref l1, .ref ph, .ref pi, .int 5])) := .new hod
    have kgo : Same Hg (upd Hi od (.lst [.non, .ref l1, .ref ph, .ref pi, .int 5])) := ((kl1.same.trans kh).trans khi).trans kod.same
    have sto := stf.same kgo
    have hRo := hRf.same kgo
    have odr : od ≠ r := fun z => by
      obtain ⟨xs, e⟩ := (hRf.same ((kl1.same.trans kh).trans khi)).lst r (by simp)
      rw [z, e] at hod
      cases hod
    have l1r : l1 ∉ ([r] : List Addr) := fun z => by
      obtain ⟨xs, e⟩ := hRf.lst l1 z
      rw [hl1] at e
      cases e
    refine ⟨r, a, od, ns, _, rfl, hRo, .inl upd_same, odr, by show 0 < 5; decide, by show 5 ≤ 1000; decide, fun Hj i2 w2 hw2 hRj kj => ?_⟩
    have stj := sto.kp kj (rfls hRo)
    have ask : ∃ o, AskT K Hj w2 o ∧ o ≠ some M.length := by
      match i2, hw2 with
      | 0, hw2 => cases hw2; exact ⟨none, .non, fun z => by cases z⟩
      | 1, hw2 =>
        cases hw2
        exact ⟨none, .lst (kj.keep _ _ l1r (kod.same _ _ (khi _ _ (kh _ _ upd_same)))), fun z => by cases z⟩
      | 2, hw2 =>
        cases hw2
        refine ⟨_, .tup (kj.tups _ _ (kod.same _ _ (khi _ _ eph))), fun z => ?_⟩
        injection z with z
        rw [cut1, List.length_drop] at z
        omega
      | 3, hw2 =>
        cases hw2
        refine ⟨_, .tup (kj.tups _ _ (kod.same _ _ epi)), fun z => ?_⟩
        injection z with z
        rw [List.length_append] at z
        have z' : tv.length + 1 = M.length := z
        omega
      | 4, hw2 => cases hw2; exact ⟨none, .int 5, fun z => by cases z⟩
      | n + 5, hw2 => simp at hw2
    obtain ⟨o, ho, hone⟩ := ask
    refine ⟨_, rfl, _, rfl, x, w2, rfl, .inr ⟨F, M, stj.cx, fcs, .inl ⟨o, ho, hone, fun Hk pk kk epk => ⟨by show 2 ≤ sizeLine; decide, fun t4 ht4 => ⟨⟨.tuple [.str "times", .none], .tuple [.str "times", .none], dp_times ((Kp.new (S := []) ht4).same _ _ epk) .non, dp_times upd_same .non, shp_tn, shp_tn, true, ?_, iteT ?_⟩⟩⟩⟩⟩⟩
    · rw [SeqAt.eqv_refl _ (SeqAt.canLay_of_shaped shp_tn)]
    have kkt := kk.trans (Kp.new (S := []) (o := .tup [.str "times", .non]) ht4).same
    obtain ⟨xsm, esm'⟩ := stj.sm
    refine ⟨_, rfl, _, rfl, sm, w2, rfl, .inl ⟨xsm, kkt _ _ esm', fun Hl kl => ⟨rfl, ?_⟩⟩⟩
    rw [show decide (V.str (Str.ofString "complex") = V.str (Str.ofString "complex")) = true from decide_eq_true rfl]
    exact q _
end
end K18

set_option linter.all false
set_option Elab.async false
set_option maxRecDepth 100000
set_option maxHeartbeats 800000
namespace K18
open PySem PySem.Spec PyProof.Rows L2 SH
/-! ### the top's facts -/
abbrev PP : Program := PySem.Challenge.rw_shapeholes_k18_whole_stages.prog
theorem kit_self {K : PySem.W.Frag} {C : Addr} : PySem.W.kitOne K (.ref C) (.ref C) = some true := if_pos (by simp)
theorem kit_to {K : PySem.W.Frag} {C : Addr} {t : Value} {b : Bool} (hn : (t == .ref C) = false) (hd : PySem.W.hasDictIn K C = true) (ty : PySem.W.typeIn K (.ref C) = some (.type "type")) (s : PySem.W.subIn K t (.ref C) = some b) : PySem.W.kitOne K t (.ref C) = some b := by
  obtain ⟨cd, hc, _⟩ := PySem.W.any_some hd
  have e2 : ((PySem.W.clsIn K C).isSome && PySem.W.typeIn K (.ref C) == some (.type "type")) = true := by rw [hc, ty] <;> rfl
  unfold PySem.W.kitOne
  rw [if_neg (by rw [hn]; decide)]
  show (if ((PySem.W.clsIn K C).isSome && PySem.W.typeIn K (.ref C) == some (.type "type")) = true then PySem.W.subIn K t (.ref C) else none) = some b
  rw [if_pos e2]
  exact s
theorem all_mk {w : World} {K : PySem.W.Frag} {h : Heap} {mg : Str → Option Value} {fa : Addr} (X : K.In h) (G : h.Ns mainGlobals mg) (hfa : mg "law" = some (.ref fa))
    {f1 f2 f3 f16 f17 f18 f19 f20 f21 f23 f24 f25 f28 f30 f31 f32 f33 f34 f35 f37 f38 f39 f40 f41 f42 f43 f44 f45 C CF SE NC BT fCI fCE fFI fFE pp fFT fBI cda ccc : Addr}
    {od1 an1 od2 an2 od3 an3 od16 an16 od17 an17 od18 an18 od19 an19 od20 an20 od21 an21 od23 an23 od24 an24 od25 an25 od28 an28 od30 an30 od31 an31 od32 an32 od33 an33 od34 an34 od35 an35 od37 an37 od38 an38 od39 an39 od40 an40 od41 an41 od42 an42 od43 an43 od44 an44 od45 an45 odCI anCI odCE anCE odFI anFI odFE anFE odFT anFT odBI anBI xdd cdd cld : Option Addr}
    {sl1 sl2 sl3 sl16 sl17 sl18 sl19 sl20 sl21 sl23 sl24 sl25 sl28 sl30 sl31 sl32 sl33 sl34 sl35 sl37 sl38 sl39 sl40 sl41 sl42 sl43 sl44 sl45 slCI slCE slFI slFE slFT slBI ccs csl : Array (Option Value)}
    {oc1 kV1 dc1 pm1 cd1 ct1 oc2 kV2 dc2 pm2 cd2 ct2 oc3 kV3 dc3 pm3 cd3 ct3 oc16 kV16 dc16 pm16 cd16 ct16 oc17 kV17 dc17 pm17 cd17 ct17 oc18 kV18 dc18 pm18 cd18 ct18 oc19 kV19 dc19 pm19 cd19 ct19 oc20 kV20 dc20 pm20 cd20 ct20 oc21 kV21 dc21 pm21 cd21 ct21 oc23 kV23 dc23 pm23 cd23 ct23 oc24 kV24 dc24 pm24 cd24 ct24 oc25 kV25 dc25 pm25 cd25 ct25 oc28 kV28 dc28 pm28 cd28 ct28 oc30 kV30 dc30 pm30 cd30 ct30 oc31 kV31 dc31 pm31 cd31 ct31 oc32 kV32 dc32 pm32 cd32 ct32 oc33 kV33 dc33 pm33 cd33 ct33 oc34 kV34 dc34 pm34 cd34 ct34 oc35 kV35 dc35 pm35 cd35 ct35 oc37 kV37 dc37 pm37 cd37 ct37 oc38 kV38 dc38 pm38 cd38 ct38 oc39 kV39 dc39 pm39 cd39 ct39 oc40 kV40 dc40 pm40 cd40 ct40 oc41 kV41 dc41 pm41 cd41 ct41 oc42 kV42 dc42 pm42 cd42 ct42 oc43 kV43 dc43 pm43 cd43 ct43 oc44 kV44 dc44 pm44 cd44 ct44 oc45 kV45 dc45 pm45 cd45 ct45 ocCI kVCI dcCI pmCI cdCI ctCI ocCE kVCE dcCE pmCE cdCE ctCE ocFI kVFI dcFI pmFI cdFI ctFI ocFE kVFE dcFE pmFE cdFE ctFE ocFT kVFT dcFT pmFT cdFT ctFT ocBI kVBI dcBI pmBI ctBI ccl cll : Value}
    {prest : List Value} {xnm xq : Str} {xN : Addr} {xbs xbm xsub : List Value} {xsn : List Str} {xab : Bool} {xcol : Option Bool} {x0 x1 x2 x3 x5 : Option Value} {cvs : Array Value} {cfl : Str} {ctf tkV tkL tkF tkT : Tok}
    (a1 : PySem.W.nsIn K mainGlobals "is_integer" = some (some (.ref f1)))
    (l1 : K.lookup f1 = some ⟨oc1, od1, .func (PySem.W.fnOf "is_integer" "is_integer" (defArgs (top 1)) (defBody (top 1)) (defScope (top 1)) .none kV1 dc1 pm1 an1 cd1 ct1), sl1⟩)
    (c1 : PySem.W.codeIn K cd1 "is_integer" = true)
    (k1 : PySem.W.keepIn K (.ref f1) = true)
    (a2 : PySem.W.nsIn K mainGlobals "is_in" = some (some (.ref f2)))
    (l2 : K.lookup f2 = some ⟨oc2, od2, .func (PySem.W.fnOf "is_in" "is_in" (defArgs (top 2)) (defBody (top 2)) (defScope (top 2)) .none kV2 dc2 pm2 an2 cd2 ct2), sl2⟩)
    (c2 : PySem.W.codeIn K cd2 "is_in" = true)
    (k2 : PySem.W.keepIn K (.ref f2) = true)
    (a3 : PySem.W.nsIn K mainGlobals "is_list" = some (some (.ref f3)))
    (l3 : K.lookup f3 = some ⟨oc3, od3, .func (PySem.W.fnOf "is_list" "is_list" (defArgs (top 3)) (defBody (top 3)) (defScope (top 3)) .none kV3 dc3 pm3 an3 cd3 ct3), sl3⟩)
    (c3 : PySem.W.codeIn K cd3 "is_list" = true)
    (k3 : PySem.W.keepIn K (.ref f3) = true)
    (a16 : PySem.W.nsIn K mainGlobals "is_ascending" = some (some (.ref f16)))
    (l16 : K.lookup f16 = some ⟨oc16, od16, .func (PySem.W.fnOf "is_ascending" "is_ascending" (defArgs (top 16)) (defBody (top 16)) (defScope (top 16)) .none kV16 dc16 pm16 an16 cd16 ct16), sl16⟩)
    (c16 : PySem.W.codeIn K cd16 "is_ascending" = true)
    (k16 : PySem.W.keepIn K (.ref f16) = true)
    (a17 : PySem.W.nsIn K mainGlobals "is_simplex" = some (some (.ref f17)))
    (l17 : K.lookup f17 = some ⟨oc17, od17, .func (PySem.W.fnOf "is_simplex" "is_simplex" (defArgs (top 17)) (defBody (top 17)) (defScope (top 17)) .none kV17 dc17 pm17 an17 cd17 ct17), sl17⟩)
    (c17 : PySem.W.codeIn K cd17 "is_simplex" = true)
    (k17 : PySem.W.keepIn K (.ref f17) = true)
    (a18 : PySem.W.nsIn K mainGlobals "parts_of" = some (some (.ref f18)))
    (l18 : K.lookup f18 = some ⟨oc18, od18, .func (PySem.W.fnOf "parts_of" "parts_of" (defArgs (top 18)) (defBody (top 18)) (defScope (top 18)) .none kV18 dc18 pm18 an18 cd18 ct18), sl18⟩)
    (c18 : PySem.W.codeIn K cd18 "parts_of" = true)
    (k18 : PySem.W.keepIn K (.ref f18) = true)
    (a19 : PySem.W.nsIn K mainGlobals "generated" = some (some (.ref f19)))
    (l19 : K.lookup f19 = some ⟨oc19, od19, .func (PySem.W.fnOf "generated" "generated" (defArgs (top 19)) (defBody (top 19)) (defScope (top 19)) .none kV19 dc19 pm19 an19 cd19 ct19), sl19⟩)
    (c19 : PySem.W.codeIn K cd19 "generated" = true)
    (k19 : PySem.W.keepIn K (.ref f19) = true)
    (a20 : PySem.W.nsIn K mainGlobals "in_order" = some (some (.ref f20)))
    (l20 : K.lookup f20 = some ⟨oc20, od20, .func (PySem.W.fnOf "in_order" "in_order" (defArgs (top 20)) (defBody (top 20)) (defScope (top 20)) .none kV20 dc20 pm20 an20 cd20 ct20), sl20⟩)
    (c20 : PySem.W.codeIn K cd20 "in_order" = true)
    (k20 : PySem.W.keepIn K (.ref f20) = true)
    (a21 : PySem.W.nsIn K mainGlobals "maximal" = some (some (.ref f21)))
    (l21 : K.lookup f21 = some ⟨oc21, od21, .func (PySem.W.fnOf "maximal" "maximal" (defArgs (top 21)) (defBody (top 21)) (defScope (top 21)) .none kV21 dc21 pm21 an21 cd21 ct21), sl21⟩)
    (c21 : PySem.W.codeIn K cd21 "maximal" = true)
    (k21 : PySem.W.keepIn K (.ref f21) = true)
    (a23 : PySem.W.nsIn K mainGlobals "need_complex" = some (some (.ref f23)))
    (l23 : K.lookup f23 = some ⟨oc23, od23, .func (PySem.W.fnOf "need_complex" "need_complex" (defArgs (top 23)) (defBody (top 23)) (defScope (top 23)) .none kV23 dc23 pm23 an23 cd23 ct23), sl23⟩)
    (c23 : PySem.W.codeIn K cd23 "need_complex" = true)
    (k23 : PySem.W.keepIn K (.ref f23) = true)
    (a24 : PySem.W.nsIn K mainGlobals "made" = some (some (.ref f24)))
    (l24 : K.lookup f24 = some ⟨oc24, od24, .func (PySem.W.fnOf "made" "made" (defArgs (top 24)) (defBody (top 24)) (defScope (top 24)) .none kV24 dc24 pm24 an24 cd24 ct24), sl24⟩)
    (c24 : PySem.W.codeIn K cd24 "made" = true)
    (k24 : PySem.W.keepIn K (.ref f24) = true)
    (a25 : PySem.W.nsIn K mainGlobals "simplices_of" = some (some (.ref f25)))
    (l25 : K.lookup f25 = some ⟨oc25, od25, .func (PySem.W.fnOf "simplices_of" "simplices_of" (defArgs (top 25)) (defBody (top 25)) (defScope (top 25)) .none kV25 dc25 pm25 an25 cd25 ct25), sl25⟩)
    (c25 : PySem.W.codeIn K cd25 "simplices_of" = true)
    (k25 : PySem.W.keepIn K (.ref f25) = true)
    (a28 : PySem.W.nsIn K mainGlobals "is_time" = some (some (.ref f28)))
    (l28 : K.lookup f28 = some ⟨oc28, od28, .func (PySem.W.fnOf "is_time" "is_time" (defArgs (top 28)) (defBody (top 28)) (defScope (top 28)) .none kV28 dc28 pm28 an28 cd28 ct28), sl28⟩)
    (c28 : PySem.W.codeIn K cd28 "is_time" = true)
    (k28 : PySem.W.keepIn K (.ref f28) = true)
    (a30 : PySem.W.nsIn K mainGlobals "need_filtration" = some (some (.ref f30)))
    (l30 : K.lookup f30 = some ⟨oc30, od30, .func (PySem.W.fnOf "need_filtration" "need_filtration" (defArgs (top 30)) (defBody (top 30)) (defScope (top 30)) .none kV30 dc30 pm30 an30 cd30 ct30), sl30⟩)
    (c30 : PySem.W.codeIn K cd30 "need_filtration" = true)
    (k30 : PySem.W.keepIn K (.ref f30) = true)
    (a31 : PySem.W.nsIn K mainGlobals "need_time" = some (some (.ref f31)))
    (l31 : K.lookup f31 = some ⟨oc31, od31, .func (PySem.W.fnOf "need_time" "need_time" (defArgs (top 31)) (defBody (top 31)) (defScope (top 31)) .none kV31 dc31 pm31 an31 cd31 ct31), sl31⟩)
    (c31 : PySem.W.codeIn K cd31 "need_time" = true)
    (k31 : PySem.W.keepIn K (.ref f31) = true)
    (a32 : PySem.W.nsIn K mainGlobals "stage_in" = some (some (.ref f32)))
    (l32 : K.lookup f32 = some ⟨oc32, od32, .func (PySem.W.fnOf "stage_in" "stage_in" (defArgs (top 32)) (defBody (top 32)) (defScope (top 32)) .none kV32 dc32 pm32 an32 cd32 ct32), sl32⟩)
    (c32 : PySem.W.codeIn K cd32 "stage_in" = true)
    (k32 : PySem.W.keepIn K (.ref f32) = true)
    (a33 : PySem.W.nsIn K mainGlobals "stage" = some (some (.ref f33)))
    (l33 : K.lookup f33 = some ⟨oc33, od33, .func (PySem.W.fnOf "stage" "stage" (defArgs (top 33)) (defBody (top 33)) (defScope (top 33)) .none kV33 dc33 pm33 an33 cd33 ct33), sl33⟩)
    (c33 : PySem.W.codeIn K cd33 "stage" = true)
    (k33 : PySem.W.keepIn K (.ref f33) = true)
    (a34 : PySem.W.nsIn K mainGlobals "own_order" = some (some (.ref f34)))
    (l34 : K.lookup f34 = some ⟨oc34, od34, .func (PySem.W.fnOf "own_order" "own_order" (defArgs (top 34)) (defBody (top 34)) (defScope (top 34)) .none kV34 dc34 pm34 an34 cd34 ct34), sl34⟩)
    (c34 : PySem.W.codeIn K cd34 "own_order" = true)
    (k34 : PySem.W.keepIn K (.ref f34) = true)
    (a35 : PySem.W.nsIn K mainGlobals "order_of" = some (some (.ref f35)))
    (l35 : K.lookup f35 = some ⟨oc35, od35, .func (PySem.W.fnOf "order_of" "order_of" (defArgs (top 35)) (defBody (top 35)) (defScope (top 35)) .none kV35 dc35 pm35 an35 cd35 ct35), sl35⟩)
    (c35 : PySem.W.codeIn K cd35 "order_of" = true)
    (k35 : PySem.W.keepIn K (.ref f35) = true)
    (a37 : PySem.W.nsIn K mainGlobals "_law_taken" = some (some (.ref f37)))
    (l37 : K.lookup f37 = some ⟨oc37, od37, .func (PySem.W.fnOf "_law_taken" "_law_taken" (defArgs (top 37)) (defBody (top 37)) (defScope (top 37)) .none kV37 dc37 pm37 an37 cd37 ct37), sl37⟩)
    (c37 : PySem.W.codeIn K cd37 "_law_taken" = true)
    (k37 : PySem.W.keepIn K (.ref f37) = true)
    (a38 : PySem.W.nsIn K mainGlobals "_law_pick" = some (some (.ref f38)))
    (l38 : K.lookup f38 = some ⟨oc38, od38, .func (PySem.W.fnOf "_law_pick" "_law_pick" (defArgs (top 38)) (defBody (top 38)) (defScope (top 38)) .none kV38 dc38 pm38 an38 cd38 ct38), sl38⟩)
    (c38 : PySem.W.codeIn K cd38 "_law_pick" = true)
    (k38 : PySem.W.keepIn K (.ref f38) = true)
    (a39 : PySem.W.nsIn K mainGlobals "_law_alike" = some (some (.ref f39)))
    (l39 : K.lookup f39 = some ⟨oc39, od39, .func (PySem.W.fnOf "_law_alike" "_law_alike" (defArgs (top 39)) (defBody (top 39)) (defScope (top 39)) .none kV39 dc39 pm39 an39 cd39 ct39), sl39⟩)
    (c39 : PySem.W.codeIn K cd39 "_law_alike" = true)
    (k39 : PySem.W.keepIn K (.ref f39) = true)
    (a40 : PySem.W.nsIn K mainGlobals "_law_simplex" = some (some (.ref f40)))
    (l40 : K.lookup f40 = some ⟨oc40, od40, .func (PySem.W.fnOf "_law_simplex" "_law_simplex" (defArgs (top 40)) (defBody (top 40)) (defScope (top 40)) .none kV40 dc40 pm40 an40 cd40 ct40), sl40⟩)
    (c40 : PySem.W.codeIn K cd40 "_law_simplex" = true)
    (k40 : PySem.W.keepIn K (.ref f40) = true)
    (a41 : PySem.W.nsIn K mainGlobals "_law_simplices" = some (some (.ref f41)))
    (l41 : K.lookup f41 = some ⟨oc41, od41, .func (PySem.W.fnOf "_law_simplices" "_law_simplices" (defArgs (top 41)) (defBody (top 41)) (defScope (top 41)) .none kV41 dc41 pm41 an41 cd41 ct41), sl41⟩)
    (c41 : PySem.W.codeIn K cd41 "_law_simplices" = true)
    (k41 : PySem.W.keepIn K (.ref f41) = true)
    (a42 : PySem.W.nsIn K mainGlobals "_law_faces" = some (some (.ref f42)))
    (l42 : K.lookup f42 = some ⟨oc42, od42, .func (PySem.W.fnOf "_law_faces" "_law_faces" (defArgs (top 42)) (defBody (top 42)) (defScope (top 42)) .none kV42 dc42 pm42 an42 cd42 ct42), sl42⟩)
    (c42 : PySem.W.codeIn K cd42 "_law_faces" = true)
    (k42 : PySem.W.keepIn K (.ref f42) = true)
    (a43 : PySem.W.nsIn K mainGlobals "_law_times" = some (some (.ref f43)))
    (l43 : K.lookup f43 = some ⟨oc43, od43, .func (PySem.W.fnOf "_law_times" "_law_times" (defArgs (top 43)) (defBody (top 43)) (defScope (top 43)) .none kV43 dc43 pm43 an43 cd43 ct43), sl43⟩)
    (c43 : PySem.W.codeIn K cd43 "_law_times" = true)
    (k43 : PySem.W.keepIn K (.ref f43) = true)
    (a44 : PySem.W.nsIn K mainGlobals "_law_index" = some (some (.ref f44)))
    (l44 : K.lookup f44 = some ⟨oc44, od44, .func (PySem.W.fnOf "_law_index" "_law_index" (defArgs (top 44)) (defBody (top 44)) (defScope (top 44)) .none kV44 dc44 pm44 an44 cd44 ct44), sl44⟩)
    (c44 : PySem.W.codeIn K cd44 "_law_index" = true)
    (k44 : PySem.W.keepIn K (.ref f44) = true)
    (a45 : PySem.W.nsIn K mainGlobals "law" = some (some (.ref f45)))
    (l45 : K.lookup f45 = some ⟨oc45, od45, .func (PySem.W.fnOf "law" "law" (defArgs (top 45)) (defBody (top 45)) (defScope (top 45)) .none kV45 dc45 pm45 an45 cd45 ct45), sl45⟩)
    (c45 : PySem.W.codeIn K cd45 "law" = true)
    (k45 : PySem.W.keepIn K (.ref f45) = true)
    (aC : PySem.W.nsIn K mainGlobals "Complex" = some (some (.ref C)))
    (aCF : PySem.W.nsIn K mainGlobals "Filtration" = some (some (.ref CF)))
    (aSE : PySem.W.nsIn K mainGlobals "ShapeError" = some (some (.ref SE)))
    (aNC : PySem.W.nsIn K mainGlobals "NotComplex" = some (some (.ref NC)))
    (aBT : PySem.W.nsIn K mainGlobals "BadTimes" = some (some (.ref BT)))
    (aCI : PySem.W.findIn K (.ref C) "__init__" = some (some (.ref fCI)))
    (iCI : PySem.W.isFn K (.ref fCI) = true)
    (lCI : K.lookup fCI = some ⟨ocCI, odCI, .func (PySem.W.fnOf "__init__" "Complex.__init__" (defArgs sCI) (defBody sCI) (defScope sCI) .none kVCI dcCI pmCI anCI cdCI ctCI), slCI⟩)
    (cCI : PySem.W.codeIn K cdCI "Complex.__init__" = true)
    (kCI : PySem.W.keepIn K (.ref fCI) = true)
    (aCE : PySem.W.findIn K (.ref C) "__eq__" = some (some (.ref fCE)))
    (iCE : PySem.W.isFn K (.ref fCE) = true)
    (lCE : K.lookup fCE = some ⟨ocCE, odCE, .func (PySem.W.fnOf "__eq__" "Complex.__eq__" (defArgs sCE) (defBody sCE) (defScope sCE) .none kVCE dcCE pmCE anCE cdCE ctCE), slCE⟩)
    (cCE : PySem.W.codeIn K cdCE "Complex.__eq__" = true)
    (kCE : PySem.W.keepIn K (.ref fCE) = true)
    (aFI : PySem.W.findIn K (.ref CF) "__init__" = some (some (.ref fFI)))
    (iFI : PySem.W.isFn K (.ref fFI) = true)
    (lFI : K.lookup fFI = some ⟨ocFI, odFI, .func (PySem.W.fnOf "__init__" "Filtration.__init__" (defArgs sFI) (defBody sFI) (defScope sFI) .none kVFI dcFI pmFI anFI cdFI ctFI), slFI⟩)
    (cFI : PySem.W.codeIn K cdFI "Filtration.__init__" = true)
    (kFI : PySem.W.keepIn K (.ref fFI) = true)
    (aFE : PySem.W.findIn K (.ref CF) "__eq__" = some (some (.ref fFE)))
    (iFE : PySem.W.isFn K (.ref fFE) = true)
    (lFE : K.lookup fFE = some ⟨ocFE, odFE, .func (PySem.W.fnOf "__eq__" "Filtration.__eq__" (defArgs sFE) (defBody sFE) (defScope sFE) .none kVFE dcFE pmFE anFE cdFE ctFE), slFE⟩)
    (cFE : PySem.W.codeIn K cdFE "Filtration.__eq__" = true)
    (kFE : PySem.W.keepIn K (.ref fFE) = true)
    (pa : PySem.W.findIn K (.ref CF) "times" = some (some (.ref pp)))
    (pg_ : PySem.W.specialIn K (.ref pp) "__get__" = some (some (.builtin "property.__get__")))
    (pt_ : PySem.W.takesIn K (.ref pp) = some true)
    (pr_ : PySem.W.recIn K pp "property" = some (.ref fFT :: prest))
    (lFT : K.lookup fFT = some ⟨ocFT, odFT, .func (PySem.W.fnOf "times" "Filtration.times" (defArgs sFT) (defBody sFT) (defScope sFT) .none kVFT dcFT pmFT anFT cdFT ctFT), slFT⟩)
    (cFT : PySem.W.codeIn K cdFT "Filtration.times" = true)
    (kFT : PySem.W.keepIn K (.ref fFT) = true)
    (nfT : PySem.W.notFirst K CF (.type "tuple") = true)
    (pgC : PySem.W.plainGet K C Str.empty = true)
    (hdC : PySem.W.hasDictIn K C = true)
    (poC : PySem.W.plainOver K C = true)
    (saC : PySem.W.findIn K (.ref C) "__setattr__" = some (some (.builtin "object.__setattr__")))
    (mkC : PySem.W.makesIn K C = true)
    (kcC : PySem.W.keepIn K (.ref C) = true)
    (nCfaces : PySem.W.findIn K (.ref C) "faces" = some none)
    (nCtops : PySem.W.findIn K (.ref C) "tops" = some none)
    (caC : PySem.W.findIn K (.ref C) "__class__" = some (some (.builtin "object.__class__")))
    (cmC : PySem.W.mroIn K C (.type "object") = some true)
    (tyC : PySem.W.typeIn K (.ref C) = some (.type "type"))
    (s2C : PySem.W.subIn K (.type "tuple") (.ref C) = some false)
    (pgCF : PySem.W.plainGet K CF Str.empty = true)
    (hdCF : PySem.W.hasDictIn K CF = true)
    (poCF : PySem.W.plainOver K CF = true)
    (saCF : PySem.W.findIn K (.ref CF) "__setattr__" = some (some (.builtin "object.__setattr__")))
    (mkCF : PySem.W.makesIn K CF = true)
    (kcCF : PySem.W.keepIn K (.ref CF) = true)
    (nCFshape : PySem.W.findIn K (.ref CF) "shape" = some none)
    (nCFclock : PySem.W.findIn K (.ref CF) "clock" = some none)
    (nCFgiven : PySem.W.findIn K (.ref CF) "given" = some none)
    (caCF : PySem.W.findIn K (.ref CF) "__class__" = some (some (.builtin "object.__class__")))
    (cmCF : PySem.W.mroIn K CF (.type "object") = some true)
    (tyCF : PySem.W.typeIn K (.ref CF) = some (.type "type"))
    (s2CF : PySem.W.subIn K (.type "tuple") (.ref CF) = some false)
    (hn : PySem.W.specialIn K (.builtin "object.__class__") "__get__" = some (some (.builtin "getset_descriptor.__get__")))
    (ht : PySem.W.takesIn K (.builtin "object.__class__") = some true)
    (exN : PySem.W.excIn K NC [.type "ValueError", .type "Exception", .type "BaseException", .type "object"] "ValueError.__new__" = true)
    (kpNC : PySem.W.keepIn K (.ref NC) = true)
    (sbNC : PySem.W.subIn K (.ref NC) (.type "BaseException") = some true)
    (tyNC : PySem.W.typeIn K (.ref NC) = some (.type "type"))
    (hgNC : PySem.W.findIn K (.ref NC) "__getattribute__" = some (some (.builtin "BaseException.__getattribute__")))
    (hkNC : PySem.W.findIn K (.ref NC) "__getattr__" = some none)
    (hdNC : PySem.W.hasDictIn K NC = true)
    (haNC : PySem.W.findIn K (.ref NC) "__class__" = some (some (.builtin "object.__class__")))
    (hmNC : PySem.W.mroIn K NC (.type "object") = some true)
    (kpBT : PySem.W.keepIn K (.ref BT) = true)
    (sbBT : PySem.W.subIn K (.ref BT) (.type "BaseException") = some true)
    (tyBT : PySem.W.typeIn K (.ref BT) = some (.type "type"))
    (hgBT : PySem.W.findIn K (.ref BT) "__getattribute__" = some (some (.builtin "BaseException.__getattribute__")))
    (hkBT : PySem.W.findIn K (.ref BT) "__getattr__" = some none)
    (hdBT : PySem.W.hasDictIn K BT = true)
    (haBT : PySem.W.findIn K (.ref BT) "__class__" = some (some (.builtin "object.__class__")))
    (hmBT : PySem.W.mroIn K BT (.type "object") = some true)
    (snb : PySem.W.subIn K (.ref NC) (.ref BT) = some false)
    (sbn : PySem.W.subIn K (.ref BT) (.ref NC) = some false)
    (dNB : (Value.ref NC == Value.ref BT) = false)
    (dBN : (Value.ref BT == Value.ref NC) = false)
    (sbSE : PySem.W.subIn K (.ref SE) (.type "BaseException") = some true)
    (hdSE : PySem.W.hasDictIn K SE = true)
    (tySE : PySem.W.typeIn K (.ref SE) = some (.type "type"))
    (sNS : PySem.W.subIn K (.ref NC) (.ref SE) = some true)
    (sBS : PySem.W.subIn K (.ref BT) (.ref SE) = some true)
    (noB : PySem.W.findIn K (.ref BT) "index" = some none)
    (lB : K.lookup BT = some (excClassObj xnm xq BT xN xbs xbm true xsn xsub xab xcol xdd x0 x1 x2 x3 x5 "ValueError.__new__"))
    (rB : PySem.HandSPX.refsVE xbm = true)
    (saB : PySem.W.findIn K (.ref BT) "__setattr__" = some (some (.builtin "object.__setattr__")))
    (aBI : PySem.W.findIn K (.ref BT) "__init__" = some (some (.ref fBI)))
    (tBI : PySem.W.typeIn K (.ref fBI) = some (.type "function"))
    (lBI : K.lookup fBI = some ⟨ocBI, odBI, .func (PySem.W.ksFn "__init__" "BadTimes.__init__" (defArgs sBad) (defBody sBad) (defScope sBad) .none kVBI dcBI pmBI anBI (.ref cda) ctBI ccc), slBI⟩)
    (cBI : PySem.W.codeIn K (.ref cda) "BadTimes.__init__" = true)
    (lcda : K.lookup cda = some ⟨ccl, cdd, .fields cvs, ccs⟩)
    (cfile : cvs[2]? = some (.str cfl ctf))
    (cfl_ : ((PP.main.file : Str) == cfl) = true)
    (lccc : K.lookup ccc = some ⟨cll, cld, .cell (some (.ref BT)), csl⟩)
    (alB : PySem.W.ks_superIn K BT BT "__init__" = some (some (.builtin "ValueError.__init__")))
    (mrB : PySem.W.mroIn K BT (.ref BT) = some true)
    (svB : PySem.W.subIn K (.ref BT) (.type "ValueError") = some true)
    (st3 : PySem.W.nsIn K cStatics "thirdparty.any" = some none)
    (topS : (PP.main.scope.names.lookup ("super" : Str)).isSome = false)
    (zisinstance : PySem.W.nsIn K mainGlobals "isinstance" = some none)
    (zint : PySem.W.nsIn K mainGlobals "int" = some none)
    (zbool : PySem.W.nsIn K mainGlobals "bool" = some none)
    (ztuple : PySem.W.nsIn K mainGlobals "tuple" = some none)
    (zlist : PySem.W.nsIn K mainGlobals "list" = some none)
    (zstr : PySem.W.nsIn K mainGlobals "str" = some none)
    (zdict : PySem.W.nsIn K mainGlobals "dict" = some none)
    (zlen : PySem.W.nsIn K mainGlobals "len" = some none)
    (zall : PySem.W.nsIn K mainGlobals "all" = some none)
    (zzip : PySem.W.nsIn K mainGlobals "zip" = some none)
    (zenumerate : PySem.W.nsIn K mainGlobals "enumerate" = some none)
    (zrange : PySem.W.nsIn K mainGlobals "range" = some none)
    (zsorted : PySem.W.nsIn K mainGlobals "sorted" = some none)
    (zmax : PySem.W.nsIn K mainGlobals "max" = some none)
    (zmin : PySem.W.nsIn K mainGlobals "min" = some none)
    (zsuper : PySem.W.nsIn K mainGlobals "super" = some none)
    (mV : PySem.W.nsIn K mainGlobals "MOST_VERTEX" = some (some (.int 30 tkV)))
    (mL : PySem.W.nsIn K mainGlobals "MOST_LENGTH" = some (some (.int 8 tkL)))
    (mF : PySem.W.nsIn K mainGlobals "MOST_FACES" = some (some (.int 400 tkF)))
    (mT : PySem.W.nsIn K mainGlobals "MOST_TIME" = some (some (.int 1000 tkT))) :
    ∃ fd : FuncData, (∀ (s : Shared) (v : Value), BindsTo s fd ⟨[v], []⟩ [("_law_script", v)]) ∧ ∀ base : Heap, K.In base → base.Ns mainGlobals mg → FnOk PP w K mg base CX0 11 fa fd ["_law_script"] (spLaw K) := by
  have e := hfa.symm.trans (PySem.W.mg_of X G a45)
  cases e
  have D1 : Dx K mg "is_integer" (top 1) ["value"] := ⟨f1, _, fun_mk (st := top 1) l1 c1 k1, PySem.W.mg_of X G a1, (fun_mk (st := top 1) l1 c1 k1).binds (ps := ["value"]) fun _ _ _ _ _ _ us hl => match us, hl with | [_], _ => rfl⟩
  have D2 : Dx K mg "is_in" (top 2) ["value", "least", "most"] := ⟨f2, _, fun_mk (st := top 2) l2 c2 k2, PySem.W.mg_of X G a2, (fun_mk (st := top 2) l2 c2 k2).binds (ps := ["value", "least", "most"]) fun _ _ _ _ _ _ us hl => match us, hl with | [_, _, _], _ => rfl⟩
  have D3 : Dx K mg "is_list" (top 3) ["value", "least", "most"] := ⟨f3, _, fun_mk (st := top 3) l3 c3 k3, PySem.W.mg_of X G a3, (fun_mk (st := top 3) l3 c3 k3).binds (ps := ["value", "least", "most"]) fun _ _ _ _ _ _ us hl => match us, hl with | [_, _, _], _ => rfl⟩
  have D16 : Dx K mg "is_ascending" (top 16) ["value", "least", "most"] := ⟨f16, _, fun_mk (st := top 16) l16 c16 k16, PySem.W.mg_of X G a16, (fun_mk (st := top 16) l16 c16 k16).binds (ps := ["value", "least", "most"]) fun _ _ _ _ _ _ us hl => match us, hl with | [_, _, _], _ => rfl⟩
  have D17 : Dx K mg "is_simplex" (top 17) ["value"] := ⟨f17, _, fun_mk (st := top 17) l17 c17 k17, PySem.W.mg_of X G a17, (fun_mk (st := top 17) l17 c17 k17).binds (ps := ["value"]) fun _ _ _ _ _ _ us hl => match us, hl with | [_], _ => rfl⟩
  have D18 : Dx K mg "parts_of" (top 18) ["simplex"] := ⟨f18, _, fun_mk (st := top 18) l18 c18 k18, PySem.W.mg_of X G a18, (fun_mk (st := top 18) l18 c18 k18).binds (ps := ["simplex"]) fun _ _ _ _ _ _ us hl => match us, hl with | [_], _ => rfl⟩
  have D19 : Dx K mg "generated" (top 19) ["simplices"] := ⟨f19, _, fun_mk (st := top 19) l19 c19 k19, PySem.W.mg_of X G a19, (fun_mk (st := top 19) l19 c19 k19).binds (ps := ["simplices"]) fun _ _ _ _ _ _ us hl => match us, hl with | [_], _ => rfl⟩
  have D20 : Dx K mg "in_order" (top 20) ["simplices"] := ⟨f20, _, fun_mk (st := top 20) l20 c20 k20, PySem.W.mg_of X G a20, (fun_mk (st := top 20) l20 c20 k20).binds (ps := ["simplices"]) fun _ _ _ _ _ _ us hl => match us, hl with | [_], _ => rfl⟩
  have D21 : Dx K mg "maximal" (top 21) ["faces"] := ⟨f21, _, fun_mk (st := top 21) l21 c21 k21, PySem.W.mg_of X G a21, (fun_mk (st := top 21) l21 c21 k21).binds (ps := ["faces"]) fun _ _ _ _ _ _ us hl => match us, hl with | [_], _ => rfl⟩
  have D23 : Dx K mg "need_complex" (top 23) ["value"] := ⟨f23, _, fun_mk (st := top 23) l23 c23 k23, PySem.W.mg_of X G a23, (fun_mk (st := top 23) l23 c23 k23).binds (ps := ["value"]) fun _ _ _ _ _ _ us hl => match us, hl with | [_], _ => rfl⟩
  have D24 : Dx K mg "made" (top 24) ["simplices"] := ⟨f24, _, fun_mk (st := top 24) l24 c24 k24, PySem.W.mg_of X G a24, (fun_mk (st := top 24) l24 c24 k24).binds (ps := ["simplices"]) fun _ _ _ _ _ _ us hl => match us, hl with | [_], _ => rfl⟩
  have D25 : Dx K mg "simplices_of" (top 25) ["shape"] := ⟨f25, _, fun_mk (st := top 25) l25 c25 k25, PySem.W.mg_of X G a25, (fun_mk (st := top 25) l25 c25 k25).binds (ps := ["shape"]) fun _ _ _ _ _ _ us hl => match us, hl with | [_], _ => rfl⟩
  have D28 : Dx K mg "is_time" (top 28) ["value"] := ⟨f28, _, fun_mk (st := top 28) l28 c28 k28, PySem.W.mg_of X G a28, (fun_mk (st := top 28) l28 c28 k28).binds (ps := ["value"]) fun _ _ _ _ _ _ us hl => match us, hl with | [_], _ => rfl⟩
  have D30 : Dx K mg "need_filtration" (top 30) ["value"] := ⟨f30, _, fun_mk (st := top 30) l30 c30 k30, PySem.W.mg_of X G a30, (fun_mk (st := top 30) l30 c30 k30).binds (ps := ["value"]) fun _ _ _ _ _ _ us hl => match us, hl with | [_], _ => rfl⟩
  have D31 : Dx K mg "need_time" (top 31) ["value"] := ⟨f31, _, fun_mk (st := top 31) l31 c31 k31, PySem.W.mg_of X G a31, (fun_mk (st := top 31) l31 c31 k31).binds (ps := ["value"]) fun _ _ _ _ _ _ us hl => match us, hl with | [_], _ => rfl⟩
  have D32 : Dx K mg "stage_in" (top 32) ["filtration", "time"] := ⟨f32, _, fun_mk (st := top 32) l32 c32 k32, PySem.W.mg_of X G a32, (fun_mk (st := top 32) l32 c32 k32).binds (ps := ["filtration", "time"]) fun _ _ _ _ _ _ us hl => match us, hl with | [_, _], _ => rfl⟩
  have D33 : Dx K mg "stage" (top 33) ["filtration", "time"] := ⟨f33, _, fun_mk (st := top 33) l33 c33 k33, PySem.W.mg_of X G a33, (fun_mk (st := top 33) l33 c33 k33).binds (ps := ["filtration", "time"]) fun _ _ _ _ _ _ us hl => match us, hl with | [_, _], _ => rfl⟩
  have D34 : Dx K mg "own_order" (top 34) ["filtration"] := ⟨f34, _, fun_mk (st := top 34) l34 c34 k34, PySem.W.mg_of X G a34, (fun_mk (st := top 34) l34 c34 k34).binds (ps := ["filtration"]) fun _ _ _ _ _ _ us hl => match us, hl with | [_], _ => rfl⟩
  have D35 : Dx K mg "order_of" (top 35) ["filtration"] := ⟨f35, _, fun_mk (st := top 35) l35 c35 k35, PySem.W.mg_of X G a35, (fun_mk (st := top 35) l35 c35 k35).binds (ps := ["filtration"]) fun _ _ _ _ _ _ us hl => match us, hl with | [_], _ => rfl⟩
  have D37 : Dx K mg "_law_taken" (top 37) ["_law_row", "_law_many"] := ⟨f37, _, fun_mk (st := top 37) l37 c37 k37, PySem.W.mg_of X G a37, (fun_mk (st := top 37) l37 c37 k37).binds (ps := ["_law_row", "_law_many"]) fun _ _ _ _ _ _ us hl => match us, hl with | [_, _], _ => rfl⟩
  have D38 : Dx K mg "_law_pick" (top 38) ["_law_row", "_law_things"] := ⟨f38, _, fun_mk (st := top 38) l38 c38 k38, PySem.W.mg_of X G a38, (fun_mk (st := top 38) l38 c38 k38).binds (ps := ["_law_row", "_law_things"]) fun _ _ _ _ _ _ us hl => match us, hl with | [_, _], _ => rfl⟩
  have D39 : Dx K mg "_law_alike" (top 39) ["_law_found", "_law_due"] := ⟨f39, _, fun_mk (st := top 39) l39 c39 k39, PySem.W.mg_of X G a39, (fun_mk (st := top 39) l39 c39 k39).binds (ps := ["_law_found", "_law_due"]) fun _ _ _ _ _ _ us hl => match us, hl with | [_, _], _ => rfl⟩
  have D40 : Dx K mg "_law_simplex" (top 40) ["_law_row", "_law_most", "_law_size"] := ⟨f40, _, fun_mk (st := top 40) l40 c40 k40, PySem.W.mg_of X G a40, (fun_mk (st := top 40) l40 c40 k40).binds (ps := ["_law_row", "_law_most", "_law_size"]) fun _ _ _ _ _ _ us hl => match us, hl with | [_, _, _], _ => rfl⟩
  have D41 : Dx K mg "_law_simplices" (top 41) ["_law_row", "_law_most", "_law_size"] := ⟨f41, _, fun_mk (st := top 41) l41 c41 k41, PySem.W.mg_of X G a41, (fun_mk (st := top 41) l41 c41 k41).binds (ps := ["_law_row", "_law_most", "_law_size"]) fun _ _ _ _ _ _ us hl => match us, hl with | [_, _, _], _ => rfl⟩
  have D42 : Dx K mg "_law_faces" (top 42) ["_law_simplices_here"] := ⟨f42, _, fun_mk (st := top 42) l42 c42 k42, PySem.W.mg_of X G a42, (fun_mk (st := top 42) l42 c42 k42).binds (ps := ["_law_simplices_here"]) fun _ _ _ _ _ _ us hl => match us, hl with | [_], _ => rfl⟩
  have D43 : Dx K mg "_law_times" (top 43) ["_law_row", "_law_faces_here", "_law_most"] := ⟨f43, _, fun_mk (st := top 43) l43 c43 k43, PySem.W.mg_of X G a43, (fun_mk (st := top 43) l43 c43 k43).binds (ps := ["_law_row", "_law_faces_here", "_law_most"]) fun _ _ _ _ _ _ us hl => match us, hl with | [_, _, _], _ => rfl⟩
  have D44 : Dx K mg "_law_index" (top 44) ["_law_shape", "_law_times_here"] := ⟨f44, _, fun_mk (st := top 44) l44 c44 k44, PySem.W.mg_of X G a44, (fun_mk (st := top 44) l44 c44 k44).binds (ps := ["_law_shape", "_law_times_here"]) fun _ _ _ _ _ _ us hl => match us, hl with | [_, _], _ => rfl⟩
  have B : Bt mg := ⟨PySem.W.mg_none_of X G zisinstance, PySem.W.mg_none_of X G zint, PySem.W.mg_none_of X G zbool, PySem.W.mg_none_of X G ztuple, PySem.W.mg_none_of X G zlist, PySem.W.mg_none_of X G zstr, PySem.W.mg_none_of X G zdict, PySem.W.mg_none_of X G zlen, PySem.W.mg_none_of X G zall, PySem.W.mg_none_of X G zzip, PySem.W.mg_none_of X G zenumerate, PySem.W.mg_none_of X G zrange, PySem.W.mg_none_of X G zsorted, PySem.W.mg_none_of X G zmax, PySem.W.mg_none_of X G zmin, ⟨_, PySem.W.mg_of X G mV⟩, ⟨_, PySem.W.mg_of X G mL⟩, ⟨_, PySem.W.mg_of X G mF⟩, ⟨_, PySem.W.mg_of X G mT⟩⟩
  have O : Obs K := ⟨hn, ht⟩
  have T : CxT K mg C := ⟨⟨pgC, hdC, poC, saC⟩, nCfaces, nCtops, PySem.W.mg_of X G aC, caC, cmC, kit_self, kit_to rfl hdC tyC s2C⟩
  have TF : FlT K mg CF := ⟨⟨pgCF, hdCF, poCF, saCF⟩, nCFshape, nCFclock, nCFgiven, PySem.W.mg_of X G aCF, caCF, cmCF, kit_self, kit_to rfl hdCF tyCF s2CF⟩
  have EN : EcT K mg "NotComplex" NC := ⟨PySem.W.mg_of X G aNC, exN, kpNC, sbNC, tyNC⟩
  have cN : ExcC K NC := ⟨hgNC, hkNC, sbNC, hdNC, haNC, hn, ht, hmNC⟩
  have cB : ExcC K BT := ⟨hgBT, hkBT, sbBT, hdBT, haBT, hn, ht, hmBT⟩
  have TX : ExT K mg SE NC BT := ⟨PySem.W.mg_of X G aSE, PySem.W.mg_of X G aNC, PySem.W.mg_of X G aBT, cN, cB, kit_self, kit_to dNB hdBT tyBT snb, kit_to dBN hdNC tyNC sbn, kit_self, PySem.W.exm_ref sbSE hdSE tySE sNS, PySem.W.exm_ref sbSE hdSE tySE sBS, noB⟩
  have TO : OexC K BT := ⟨⟨xnm, xq, xN, xbs, xbm, xsn, xsub, xab, xcol, xdd, x0, x1, x2, x3, x5, lB, rB⟩, saB, sbBT, tyBT, kpBT⟩
  have SB : SupF PP K mg "BadTimes.__init__" sBad BT fBI _ := ⟨⟨ocBI, odBI, kVBI, dcBI, pmBI, anBI, cda, ctBI, slBI, ccc, ccl, cdd, cvs, ccs, cfl, ctf, cll, cld, csl, rfl, lBI, cBI, lcda, cfile, cfl_, lccc⟩, alB, mrB, svB, st3, PySem.W.mg_none_of X G zsuper, topS⟩
  have FCI := fun_mk (st := sCI) lCI cCI kCI
  have bCI := FCI.binds (ps := ["self", "simplices"]) fun _ _ _ _ _ _ us hl => match us, hl with | [_, _], _ => rfl
  have FCE := fun_mk (st := sCE) lCE cCE kCE
  have bCE := FCE.binds (ps := ["self", "other"]) fun _ _ _ _ _ _ us hl => match us, hl with | [_, _], _ => rfl
  have FFI := fun_mk (st := sFI) lFI cFI kFI
  have bFI := FFI.binds (ps := ["self", "shape", "times"]) fun _ _ _ _ _ _ us hl => match us, hl with | [_, _, _], _ => rfl
  have FFE := fun_mk (st := sFE) lFE cFE kFE
  have bFE := FFE.binds (ps := ["self", "other"]) fun _ _ _ _ _ _ us hl => match us, hl with | [_, _], _ => rfl
  have FFT := fun_mk (st := sFT) lFT cFT kFT
  have bFT := FFT.binds (ps := ["self"]) fun _ _ _ _ _ _ us hl => match us, hl with | [_], _ => rfl
  refine ⟨_, fun s v => .of_eq rfl, fun base _ _ => ok_law (C := C) (CF := CF) (NC := NC) (BT := BT) (fun_mk (st := top 45) l45 c45 k45) ?_⟩
  have TB : BtD PP w K mg base BT := ⟨TO, PySem.W.mg_of X G aBT, ⟨fBI, _, aBI, tBI, ok_sup SB TO noB, .all fun us hl => match us, hl with | [_, _], _ => rfl⟩⟩
  have d1 := ok_is_integer (P := PP) (w := w) (base := base) D1 B
  have d2 := ok_is_in D2 d1
  have d3 := ok_is_list (P := PP) (w := w) (base := base) D3 B
  have d16 := ok_is_ascending D16 B d2 d3
  have d17 := ok_is_simplex D17 B d16
  have d18 := ok_parts_of (P := PP) (w := w) (base := base) D18 B
  have d19 := ok_generated D19 B d18
  have d20 := ok_in_order (P := PP) (w := w) (base := base) D20 B
  have d21 := ok_maximal (P := PP) (w := w) (base := base) D21 B
  have mC : MkD PP w K mg base CX0 5 C ["self", "simplices"] (spCI C) := ⟨fCI, _, ⟨mkC, aCI, iCI, kcC⟩, ok_cinit FCI B T d3 d17 d19 d21, bCI⟩
  have d23 := ok_need_complex (P := PP) (w := w) (base := base) D23 B O T EN
  have d24 := ok_made D24 T mC d19 d21
  have d25 := ok_simplices_of D25 T d23 d20
  have d28 := ok_is_time D28 B d2
  have mF : MkD PP w K mg base (L2.CX PP w) 4 CF ["self", "shape", "times"] (spFI K C CF NC BT) := ⟨fFI, _, ⟨mkCF, aFI, iFI, kcCF⟩, ok_finit FFI B T TF TB d23 d20 d3 d28, bFI⟩
  have eC : EqD PP w K mg base 1 C (spCE C) := ⟨fCE, _, ok_ceq FCE B O T, aCE, iCE, bCE⟩
  have eF : EqD PP w K mg base 2 CF (spFE C CF) := ⟨fFE, _, ok_feq FFE B O TF eC, aFE, iFE, bFE⟩
  have pr : PrD PP w K mg base CF := ⟨pp, fFT, _, ⟨pa, pg_, pt_, ⟨prest, pr_⟩⟩, ok_given FFT TF, bFT⟩
  have d30 := ok_need_filtration (P := PP) (w := w) (base := base) D30 B O TF
  have d31 := ok_need_time D31 d28
  have d32 := ok_stage_in D32 TF d24
  have d33 := ok_stage D33 d30 d31 d32
  have d34 := ok_own_order (P := PP) (w := w) (base := base) D34 B TF
  have d35 := ok_order_of D35 B d30 d34
  have d37 := ok_taken (P := PP) (w := w) (base := base) D37 B
  have d38 := ok_pick D38 B d37
  have d39 := ok_alike (P := PP) (w := w) (base := base) D39 B
  have d40 := ok_simplex D40 B d37
  have d41 := ok_simplices D41 B d37 d40
  have d42 := ok_faces (P := PP) (w := w) (base := base) D42 B
  have d43 := ok_times D43 B d37 d38
  have d44 := ok_index D44 B TF TX mF
  exact ⟨B, T, TF, mC, mF, eF, nfT, pr, d25, d33, d35, d37, d38, d39, d41, d42, d43, d44⟩
theorem walk {q : Program} {loose : List Str} {XP : (Str → Option Value) → Heap → Prop} {YP : World → Heap → Prop} {d : DefRec} {K : Params → PySem.W.Frag} (hdf : d.params.defaults = [])
    (hY : ∀ (w : World) (h : Heap), YP w h → (K w.params).In h)
    (F : ∀ (w : World) (mg : Str → Option Value) (fa : Addr) (h : Heap), (K w.params).In h → h.Ns mainGlobals mg → mg d.name = some (.ref fa) →
      ∃ fd : FuncData, (∀ (s : Shared) (u : Value), BindsTo s fd ⟨[u], []⟩ [("_law_script", u)]) ∧ ∀ base : Heap, (K w.params).In base → base.Ns mainGlobals mg → FnOk PP w (K w.params) mg base CX0 11 fa fd ["_law_script"] (spLaw (K w.params))) :
    PySem.W.WalkO q loose XP YP PySem.Challenge.rw_shapeholes_k18_whole_stages.row.toRowW d [] (fun f vs => PySem.call f vs) :=
  L2.walk_of (l := PySem.Challenge.rw_shapeholes_k18_whole_stages) (n := 63) (k := 11) (x := "_law_script") (CX := fun _ => CX0) (sp := fun w => spLaw (K w.params)) rfl (by decide) hdf ⟨rfl, by decide, by decide⟩ hY F (fun _ _ a ns hl _ hS => ⟨a, ns, rfl, hS, hl, fun _ => rfl⟩) fun _ _ _ _ _ z => z
end K18

open PySem PySem.W PyProof.Rows in
set_option maxRecDepth 100000 in
set_option maxHeartbeats 0 in
theorem PySem.Challenge.cw_shapeholes_k18_whole_stages_holds : PySem.Challenge.rw_shapeholes_k18_whole_stages.Holds := by
  w_on; o_law; k_head; (case hw => w_witness2)
  k_fill
  refine K18.walk rfl (fun w h Y => PySem.W.kIn_of Y) ?F
  case F =>
    intro w mg fa h KX G hmg
    refine' K18.all_mk KX G hmg ?a1 ?l1 ?c1 ?k1 ?a2 ?l2 ?c2 ?k2 ?a3 ?l3 ?c3 ?k3 ?a16 ?l16 ?c16 ?k16 ?a17 ?l17 ?c17 ?k17 ?a18 ?l18 ?c18 ?k18 ?a19 ?l19 ?c19 ?k19 ?a20 ?l20 ?c20 ?k20 ?a21 ?l21 ?c21 ?k21 ?a23 ?l23 ?c23 ?k23 ?a24 ?l24 ?c24 ?k24 ?a25 ?l25 ?c25 ?k25 ?a28 ?l28 ?c28 ?k28 ?a30 ?l30 ?c30 ?k30 ?a31 ?l31 ?c31 ?k31 ?a32 ?l32 ?c32 ?k32 ?a33 ?l33 ?c33 ?k33 ?a34 ?l34 ?c34 ?k34 ?a35 ?l35 ?c35 ?k35 ?a37 ?l37 ?c37 ?k37 ?a38 ?l38 ?c38 ?k38 ?a39 ?l39 ?c39 ?k39 ?a40 ?l40 ?c40 ?k40 ?a41 ?l41 ?c41 ?k41 ?a42 ?l42 ?c42 ?k42 ?a43 ?l43 ?c43 ?k43 ?a44 ?l44 ?c44 ?k44 ?a45 ?l45 ?c45 ?k45 ?aC ?aCF ?aSE ?aNC ?aBT ?aCI ?iCI ?lCI ?cCI ?kCI ?aCE ?iCE ?lCE ?cCE ?kCE ?aFI ?iFI ?lFI ?cFI ?kFI ?aFE ?iFE ?lFE ?cFE ?kFE ?pa ?pg_ ?pt_ ?pr_ ?lFT ?cFT ?kFT ?nfT ?pgC ?hdC ?poC ?saC ?mkC ?kcC ?nCfaces ?nCtops ?caC ?cmC ?tyC ?s2C ?pgCF ?hdCF ?poCF ?saCF ?mkCF ?kcCF ?nCFshape ?nCFclock ?nCFgiven ?caCF ?cmCF ?tyCF ?s2CF ?hn ?ht ?exN ?kpNC ?sbNC ?tyNC ?hgNC ?hkNC ?hdNC ?haNC ?hmNC ?kpBT ?sbBT ?tyBT ?hgBT ?hkBT ?hdBT ?haBT ?hmBT ?snb ?sbn ?dNB ?dBN ?sbSE ?hdSE ?tySE ?sNS ?sBS ?noB ?lB ?rB ?saB ?aBI ?tBI ?lBI ?cBI ?lcda ?cfile ?cfl_ ?lccc ?alB ?mrB ?svB ?st3 ?topS ?zisinstance ?zint ?zbool ?ztuple ?zlist ?zstr ?zdict ?zlen ?zall ?zzip ?zenumerate ?zrange ?zsorted ?zmax ?zmin ?zsuper ?mV ?mL ?mF ?mT
    (case a1 => k_is)
    (case l1 => k_is)
    (case c1 => k_is)
    (case k1 => k_is)
    (case a2 => k_is)
    (case l2 => k_is)
    (case c2 => k_is)
    (case k2 => k_is)
    (case a3 => k_is)
    (case l3 => k_is)
    (case c3 => k_is)
    (case k3 => k_is)
    (case a16 => k_is)
    (case l16 => k_is)
    (case c16 => k_is)
    (case k16 => k_is)
    (case a17 => k_is)
    (case l17 => k_is)
    (case c17 => k_is)
    (case k17 => k_is)
    (case a18 => k_is)
    (case l18 => k_is)
    (case c18 => k_is)
    (case k18 => k_is)
    (case a19 => k_is)
    (case l19 => k_is)
    (case c19 => k_is)
    (case k19 => k_is)
    (case a20 => k_is)
    (case l20 => k_is)
    (case c20 => k_is)
    (case k20 => k_is)
    (case a21 => k_is)
    (case l21 => k_is)
    (case c21 => k_is)
    (case k21 => k_is)
    (case a23 => k_is)
    (case l23 => k_is)
    (case c23 => k_is)
    (case k23 => k_is)
    (case a24 => k_is)
    (case l24 => k_is)
    (case c24 => k_is)
    (case k24 => k_is)
    (case a25 => k_is)
    (case l25 => k_is)
    (case c25 => k_is)
    (case k25 => k_is)
    (case a28 => k_is)
    (case l28 => k_is)
    (case c28 => k_is)
    (case k28 => k_is)
    (case a30 => k_is)
    (case l30 => k_is)
    (case c30 => k_is)
    (case k30 => k_is)
    (case a31 => k_is)
    (case l31 => k_is)
    (case c31 => k_is)
    (case k31 => k_is)
    (case a32 => k_is)
    (case l32 => k_is)
    (case c32 => k_is)
    (case k32 => k_is)
    (case a33 => k_is)
    (case l33 => k_is)
    (case c33 => k_is)
    (case k33 => k_is)
    (case a34 => k_is)
    (case l34 => k_is)
    (case c34 => k_is)
    (case k34 => k_is)
    (case a35 => k_is)
    (case l35 => k_is)
    (case c35 => k_is)
    (case k35 => k_is)
    (case a37 => k_is)
    (case l37 => k_is)
    (case c37 => k_is)
    (case k37 => k_is)
    (case a38 => k_is)
    (case l38 => k_is)
    (case c38 => k_is)
    (case k38 => k_is)
    (case a39 => k_is)
    (case l39 => k_is)
    (case c39 => k_is)
    (case k39 => k_is)
    (case a40 => k_is)
    (case l40 => k_is)
    (case c40 => k_is)
    (case k40 => k_is)
    (case a41 => k_is)
    (case l41 => k_is)
    (case c41 => k_is)
    (case k41 => k_is)
    (case a42 => k_is)
    (case l42 => k_is)
    (case c42 => k_is)
    (case k42 => k_is)
    (case a43 => k_is)
    (case l43 => k_is)
    (case c43 => k_is)
    (case k43 => k_is)
    (case a44 => k_is)
    (case l44 => k_is)
    (case c44 => k_is)
    (case k44 => k_is)
    (case a45 => k_is)
    (case l45 => k_is)
    (case c45 => k_is)
    (case k45 => k_is)
    (case aC => k_is)
    (case aCF => k_is)
    (case aSE => k_is)
    (case aNC => k_is)
    (case aBT => k_is)
    (case aCI => k_is)
    (case iCI => k_is)
    (case lCI => k_is)
    (case cCI => k_is)
    (case kCI => k_is)
    (case aCE => k_is)
    (case iCE => k_is)
    (case lCE => k_is)
    (case cCE => k_is)
    (case kCE => k_is)
    (case aFI => k_is)
    (case iFI => k_is)
    (case lFI => k_is)
    (case cFI => k_is)
    (case kFI => k_is)
    (case aFE => k_is)
    (case iFE => k_is)
    (case lFE => k_is)
    (case cFE => k_is)
    (case kFE => k_is)
    (case pa => k_is)
    (case pg_ => k_is)
    (case pt_ => k_is)
    (case pr_ => k_is)
    (case lFT => k_is)
    (case cFT => k_is)
    (case kFT => k_is)
    (case nfT => k_is)
    (case pgC => k_is)
    (case hdC => k_is)
    (case poC => k_is)
    (case saC => k_is)
    (case mkC => k_is)
    (case kcC => k_is)
    (case nCfaces => k_is)
    (case nCtops => k_is)
    (case caC => k_is)
    (case cmC => k_is)
    (case tyC => k_is)
    (case s2C => k_is)
    (case pgCF => k_is)
    (case hdCF => k_is)
    (case poCF => k_is)
    (case saCF => k_is)
    (case mkCF => k_is)
    (case kcCF => k_is)
    (case nCFshape => k_is)
    (case nCFclock => k_is)
    (case nCFgiven => k_is)
    (case caCF => k_is)
    (case cmCF => k_is)
    (case tyCF => k_is)
    (case s2CF => k_is)
    (case hn => k_is)
    (case ht => k_is)
    (case exN => k_exc)
    (case kpNC => k_is)
    (case sbNC => k_is)
    (case tyNC => k_is)
    (case hgNC => k_is)
    (case hkNC => k_is)
    (case hdNC => k_is)
    (case haNC => k_is)
    (case hmNC => k_is)
    (case kpBT => k_is)
    (case sbBT => k_is)
    (case tyBT => k_is)
    (case hgBT => k_is)
    (case hkBT => k_is)
    (case hdBT => k_is)
    (case haBT => k_is)
    (case hmBT => k_is)
    (case snb => k_is)
    (case sbn => k_is)
    (case dNB => decide)
    (case dBN => decide)
    (case sbSE => k_is)
    (case hdSE => k_is)
    (case tySE => k_is)
    (case sNS => k_is)
    (case sBS => k_is)
    (case noB => k_is)
    (case lB => k_is)
    (case rB => decide +kernel)
    (case saB => k_is)
    (case aBI => k_is)
    (case tBI => k_is)
    (case lBI => k_is)
    (case cBI => k_is)
    (case lcda => k_is)
    (case cfile => rfl)
    (case cfl_ => first | rfl | decide +kernel)
    (case lccc => k_is)
    (case alB => first | k_is | kernel_rfl | decide +kernel)
    (case mrB => k_is)
    (case svB => k_is)
    (case st3 => k_is)
    (case topS => first | rfl | decide +kernel)
    (case zisinstance => k_is)
    (case zint => k_is)
    (case zbool => k_is)
    (case ztuple => k_is)
    (case zlist => k_is)
    (case zstr => k_is)
    (case zdict => k_is)
    (case zlen => k_is)
    (case zall => k_is)
    (case zzip => k_is)
    (case zenumerate => k_is)
    (case zrange => k_is)
    (case zsorted => k_is)
    (case zmax => k_is)
    (case zmin => k_is)
    (case zsuper => k_is)
    (case mV => k_is)
    (case mL => k_is)
    (case mF => k_is)
    (case mT => k_is)
