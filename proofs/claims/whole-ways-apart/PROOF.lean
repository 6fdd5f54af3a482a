import PyProof.Rows.All
import Wide.All
import OpenK.AllK
import Wide.FinOn
import PyProof.EqAt
import PyProof.EqKinds
import PyProof.TupleCall
import HandS.ForMost
import HandS.ForExc
import HandS.IsInst
import HandS.Conv
import HandS.DictComp
import HandS.SetKeys
import HandS.Deep
import HandS.TupAny
import HandS.More
import HandS.SortInts
import KE.SortData
import KE.DatumIndex
import KE.KExcSuper
import KE.GoesEnum
import PySem.Challenge.RW_untriedways_k65_whole_ways_apart
import PyProof.ReprBulk
import PyProof.ReprRoads
import PyProof.FactsAll.NoneType_2
import PyProof.FString2
import PyProof.CallFns
set_option Elab.async false
set_option linter.all false
set_option maxRecDepth 100000
set_option maxHeartbeats 8000000
/-! Plain lists: lots, the first lot that meets some ways. -/
namespace Ut
/-! ### lots of k items, in order -/
def okMore (part : List Nat) (n : Nat) : Bool := match part.getLast? with
  | none => true
  | some l => decide (l < n)
def moreF (ns part : List Nat) : List (List Nat) := (ns.filter (okMore part)).map fun n => part ++ [n]
def chosenF (ns : List Nat) : Nat → List (List Nat)
  | 0 => [[]]
  | k + 1 => (chosenF ns k).flatMap (moreF ns)
def hits (W : List (List Nat)) (lot : List Nat) : Bool := W.all fun way => lot.any fun k => way.contains k
def lotsF (ns : List Nat) (most : Nat) : List (List Nat) := (List.range (most + 1)).flatMap (chosenF ns)
def meetF (ns : List Nat) (W : List (List Nat)) (most : Nat) : Option (List Nat) := (lotsF ns most).find? (hits W)
def usedOf (m : Nat) (W : List (List Nat)) : List Nat := (List.range m).filter fun k => W.any fun way => way.contains k

/-- strictly ascending -/
abbrev Asc (l : List Nat) : Prop := l.Pairwise (· < ·)

theorem asc_range (n : Nat) : Asc (List.range n) := List.pairwise_lt_range
theorem asc_filter {l : List Nat} (p : Nat → Bool) (h : Asc l) : Asc (l.filter p) := List.Pairwise.filter p h
theorem asc_nodup {l : List Nat} (h : Asc l) : l.Nodup := h.imp (fun h => Nat.ne_of_lt h)

theorem asc_snoc {l : List Nat} {n : Nat} : Asc (l ++ [n]) ↔ Asc l ∧ okMore l n = true := by
  constructor
  · intro h
    rw [Asc, List.pairwise_append] at h
    refine ⟨h.1, ?_⟩
    unfold okMore
    cases e : l.getLast? with
    | none => rfl
    | some x =>
      have hx : x ∈ l := List.mem_of_getLast? e
      simpa using h.2.2 x hx n (by simp)
  · rintro ⟨h1, h2⟩
    rw [Asc, List.pairwise_append]
    refine ⟨h1, by simp, ?_⟩
    intro a ha b hb
    have hb' : b = n := by simpa using hb
    subst hb'
    unfold okMore at h2
    cases e : l.getLast? with
    | none =>
      rw [List.getLast?_eq_none_iff] at e
      subst e
      cases ha
    | some x =>
      rw [e] at h2
      have hx : x < b := by simpa using h2
      obtain ⟨l', rfl⟩ : ∃ l', l = l' ++ [x] := List.getLast?_eq_some_iff.mp e
      rw [Asc, List.pairwise_append] at h1
      rcases List.mem_append.mp ha with h | h
      · exact Nat.lt_trans (h1.2.2 a h x (by simp)) hx
      · have : a = x := by simpa using h
        omega

theorem mem_chosen {ns : List Nat} : ∀ {k : Nat} {l : List Nat}, l ∈ chosenF ns k ↔ Asc l ∧ l.length = k ∧ ∀ x ∈ l, x ∈ ns
  | 0, l => by
    unfold chosenF
    constructor
    · intro h
      have : l = [] := by simpa using h
      subst this
      exact ⟨List.Pairwise.nil, rfl, by simp⟩
    · rintro ⟨_, h, _⟩
      simp [List.eq_nil_of_length_eq_zero h]
  | k + 1, l => by
    unfold chosenF moreF
    rw [List.mem_flatMap]
    constructor
    · rintro ⟨part, hp, h⟩
      obtain ⟨n, hn, rfl⟩ := List.mem_map.mp h
      obtain ⟨hn1, hn2⟩ := List.mem_filter.mp hn
      obtain ⟨a1, a2, a3⟩ := mem_chosen.mp hp
      refine ⟨asc_snoc.mpr ⟨a1, hn2⟩, by simp [a2], ?_⟩
      intro x hx
      rcases List.mem_append.mp hx with h | h
      · exact a3 x h
      · have : x = n := by simpa using h
        subst this
        exact hn1
    · rintro ⟨h1, h2, h3⟩
      have hne : l ≠ [] := by
        intro e
        subst e
        simp at h2
      obtain ⟨l', x, rfl⟩ : ∃ l' x, l = l' ++ [x] := ⟨l.dropLast, l.getLast hne, (List.dropLast_concat_getLast hne).symm⟩
      obtain ⟨b1, b2⟩ := asc_snoc.mp h1
      refine ⟨l', mem_chosen.mpr ⟨b1, by simpa using h2, fun y hy => h3 y (List.mem_append_left _ hy)⟩, ?_⟩
      exact List.mem_map.mpr ⟨x, List.mem_filter.mpr ⟨h3 x (by simp), b2⟩, rfl⟩

theorem mem_lots {ns : List Nat} {most : Nat} {l : List Nat} : l ∈ lotsF ns most ↔ Asc l ∧ l.length ≤ most ∧ ∀ x ∈ l, x ∈ ns := by
  unfold lotsF
  rw [List.mem_flatMap]
  constructor
  · rintro ⟨k, hk, h⟩
    obtain ⟨a1, a2, a3⟩ := mem_chosen.mp h
    have := List.mem_range.mp hk
    exact ⟨a1, by omega, a3⟩
  · rintro ⟨a1, a2, a3⟩
    exact ⟨l.length, List.mem_range.mpr (by omega), mem_chosen.mpr ⟨a1, rfl, a3⟩⟩

theorem lots_sorted (ns : List Nat) (most : Nat) : (lotsF ns most).Pairwise fun a b => a.length ≤ b.length := by
  unfold lotsF
  rw [List.flatMap, List.pairwise_flatten]
  refine ⟨?_, ?_⟩
  · intro l hl
    obtain ⟨k, _, rfl⟩ := List.mem_map.mp hl
    refine List.pairwise_of_forall_mem_list ?_
    intro a ha b hb
    rw [(mem_chosen.mp ha).2.1, (mem_chosen.mp hb).2.1]
    exact Nat.le_refl _
  · rw [List.pairwise_map]
    refine (asc_range (most + 1)).imp ?_
    intro i j hij a ha b hb
    rw [(mem_chosen.mp ha).2.1, (mem_chosen.mp hb).2.1]
    exact Nat.le_of_lt hij

theorem chosen_filter (p : Nat → Bool) (ns : List Nat) : ∀ k, chosenF (ns.filter p) k = (chosenF ns k).filter fun l => l.all p
  | 0 => rfl
  | k + 1 => by
    have ih := chosen_filter p ns k
    show (chosenF (ns.filter p) k).flatMap (moreF (ns.filter p)) = ((chosenF ns k).flatMap (moreF ns)).filter fun l => l.all p
    rw [ih, List.filter_flatMap]
    generalize chosenF ns k = L
    induction L with
    | nil => rfl
    | cons a L ih2 =>
      rw [List.flatMap_cons]
      by_cases ha : a.all p = true
      · rw [List.filter_cons_of_pos (by simpa using ha), List.flatMap_cons, ih2]
        congr 1
        unfold moreF
        rw [List.filter_map, List.filter_filter, List.filter_filter]
        congr 1
        apply List.filter_congr
        intro x _
        simp only [Function.comp, List.all_append, ha, List.all_cons, List.all_nil, Bool.and_true, Bool.true_and]
        exact Bool.and_comm _ _
      · rw [List.filter_cons_of_neg (by simpa using ha), ih2]
        have : (moreF ns a).filter (fun l => l.all p) = [] := by
          unfold moreF
          rw [List.filter_map]
          have : ((fun l : List Nat => l.all p) ∘ fun n => a ++ [n]) = fun _ => false := by
            funext n
            simp only [Function.comp, List.all_append]
            cases h : a.all p with
            | true => exact absurd h ha
            | false => rfl
          rw [this]
          simp
        rw [this, List.nil_append]

theorem lots_filter (p : Nat → Bool) (ns : List Nat) (most : Nat) : lotsF (ns.filter p) most = (lotsF ns most).filter fun l => l.all p := by
  unfold lotsF
  rw [List.filter_flatMap]
  congr 1
  funext k
  exact chosen_filter p ns k

theorem find_filter {α : Type} {p q : α → Bool} : ∀ {L : List α}, (∀ x, L.find? q = some x → p x = true) → (L.filter p).find? q = L.find? q
  | [], _ => rfl
  | a :: L, h => by
    by_cases hq : q a = true
    · have e : (a :: L).find? q = some a := List.find?_cons_of_pos hq
      have hp := h a e
      rw [List.filter_cons_of_pos hp, List.find?_cons_of_pos hq, e]
    · have e : (a :: L).find? q = L.find? q := List.find?_cons_of_neg hq
      rw [e] at h
      have ih := find_filter (p := p) h
      rw [e]
      by_cases hp : p a = true
      · rw [List.filter_cons_of_pos hp, List.find?_cons_of_neg hq, ih]
      · rw [List.filter_cons_of_neg hp, ih]

/-- a shorter lot that meets them stands ahead -/
theorem first_short {ns : List Nat} {W : List (List Nat)} {most : Nat} {x y : List Nat} (h : meetF ns W most = some x) (hy : y ∈ lotsF ns most) (hw : hits W y = true) : x.length ≤ y.length := by
  unfold meetF at h
  obtain ⟨_, as, bs, e, hn⟩ := List.find?_eq_some_iff_append.mp h
  have hs := lots_sorted ns most
  rw [e] at hs hy
  rcases List.mem_append.mp hy with h1 | h1
  · have := hn y h1
    rw [hw] at this
    simp at this
  · rcases List.mem_cons.mp h1 with h2 | h2
    · rw [h2]
      exact Nat.le_refl _
    · rw [List.pairwise_append] at hs
      exact (List.pairwise_cons.mp hs.2.1).1 y h2

theorem hits_iff {W : List (List Nat)} {lot : List Nat} : hits W lot = true ↔ ∀ w ∈ W, ∃ k ∈ lot, k ∈ w := by
  unfold hits
  simp only [List.all_eq_true, List.any_eq_true, List.contains_iff_mem]

/-- THE FIRST LOT over all arrows is that over the ways' own arrows -/
theorem meet_used (m : Nat) (W : List (List Nat)) (most : Nat) : meetF (usedOf m W) W most = meetF (List.range m) W most := by
  unfold usedOf
  show (lotsF _ most).find? (hits W) = (lotsF _ most).find? (hits W)
  rw [lots_filter]
  refine find_filter fun x hx => ?_
  have hmem : x ∈ lotsF (List.range m) most := List.mem_of_find?_eq_some hx
  have hhit : hits W x = true := List.find?_some hx
  rw [List.all_eq_true]
  intro a ha
  by_cases hu : (W.any fun way => way.contains a) = true
  · exact hu
  · exfalso
    obtain ⟨h1, h2, h3⟩ := mem_lots.mp hmem
    have hsub : (x.erase a) ∈ lotsF (List.range m) most := by
      refine mem_lots.mpr ⟨List.Pairwise.sublist List.erase_sublist h1, ?_, fun y hy => h3 y (List.mem_of_mem_erase hy)⟩
      exact Nat.le_trans (List.Sublist.length_le List.erase_sublist) h2
    have hh : hits W (x.erase a) = true := by
      rw [hits_iff] at hhit ⊢
      intro w hw
      obtain ⟨k, hk, hkw⟩ := hhit w hw
      refine ⟨k, ?_, hkw⟩
      have hne : k ≠ a := by
        rintro rfl
        apply hu
        rw [List.any_eq_true]
        exact ⟨w, hw, by simpa using hkw⟩
      exact (List.mem_erase_of_ne hne).mpr hk
    have hl := first_short (show meetF (List.range m) W most = some x from hx) hsub hh
    have := List.length_erase_of_mem ha
    have : 0 < x.length := List.length_pos_of_mem ha
    omega

/-! ### lengths -/
theorem nodup_len {α : Type} [DecidableEq α] : ∀ {l l' : List α}, l.Nodup → (∀ x ∈ l, x ∈ l') → l.length ≤ l'.length
  | [], _, _, _ => Nat.zero_le _
  | a :: l, l', h, hs => by
    obtain ⟨h1, h2⟩ := List.nodup_cons.mp h
    have ha : a ∈ l' := hs a List.mem_cons_self
    have ih := nodup_len (l := l) (l' := l'.erase a) h2 (fun x hx => by
      have hne : x ≠ a := by
        rintro rfl
        exact h1 hx
      exact (List.mem_erase_of_ne hne).mpr (hs x (List.mem_cons_of_mem _ hx)))
    have e := List.length_erase_of_mem ha
    have : 0 < l'.length := List.length_pos_of_mem ha
    rw [List.length_cons]
    omega

/-- any few arrows that meet all ways: then the search finds a lot -/
theorem meet_of {m most : Nat} {W : List (List Nat)} (hW : ∀ w ∈ W, ∀ k ∈ w, k < m) {lot : List Nat} (hl : lot.length ≤ most) (hh : ∀ w ∈ W, ∃ k ∈ lot, k ∈ w) : meetF (List.range m) W most ≠ none := by
  intro e
  unfold meetF at e
  rw [List.find?_eq_none] at e
  have hm : ((List.range m).filter fun k => lot.contains k) ∈ lotsF (List.range m) most := by
    refine mem_lots.mpr ⟨asc_filter _ (asc_range m), ?_, fun x hx => (List.mem_filter.mp hx).1⟩
    refine Nat.le_trans (nodup_len (asc_nodup (asc_filter _ (asc_range m))) fun x hx => ?_) hl
    simpa using (List.mem_filter.mp hx).2
  refine e _ hm ?_
  rw [hits_iff]
  intro w hw
  obtain ⟨k, hk, hkw⟩ := hh w hw
  exact ⟨k, List.mem_filter.mpr ⟨List.mem_range.mpr (hW w hw k hkw), by simpa using hk⟩, hkw⟩
theorem not_meet {ns : List Nat} {most : Nat} {W : List (List Nat)} (h : meetF ns W most = none) : ∀ lot, Asc lot → lot.length ≤ most → (∀ x ∈ lot, x ∈ ns) → ¬ ∀ w ∈ W, ∃ k ∈ lot, k ∈ w := by
  intro lot h1 h2 h3 h4
  unfold meetF at h
  rw [List.find?_eq_none] at h
  exact h lot (mem_lots.mpr ⟨h1, h2, h3⟩) (hits_iff.mpr h4)

/-! ### how many lots -/
def wsum (f : Nat → Nat) (l : List Nat) : Nat := (l.map f).sum
def gtc (ns : List Nat) (p : List Nat) : Nat := (ns.filter (okMore p)).length
theorem pow_sum : ∀ {l : List Nat}, Asc l → (l.map fun n => 2 ^ (l.filter fun x => decide (n < x)).length).sum + 1 ≤ 2 ^ l.length
  | [], _ => by simp
  | a :: l, h => by
    obtain ⟨h1, h2⟩ := List.pairwise_cons.mp h
    have ih := pow_sum h2
    have e0 : ((a :: l).filter fun x => decide (a < x)) = l := by
      rw [List.filter_cons_of_neg (by simp)]
      rw [List.filter_eq_self]
      intro x hx
      simpa using h1 x hx
    have e1 : (l.map fun n => 2 ^ ((a :: l).filter fun x => decide (n < x)).length) = l.map fun n => 2 ^ (l.filter fun x => decide (n < x)).length := by
      apply List.map_congr_left
      intro n hn
      rw [List.filter_cons_of_neg]
      have := h1 n hn
      simp
      omega
    rw [List.map_cons, e0, e1, List.sum_cons, List.length_cons, Nat.pow_succ]
    omega
theorem more_weight {ns : List Nat} (hn : Asc ns) (p : List Nat) : ((moreF ns p).map fun q => 2 ^ gtc ns q).sum ≤ 2 ^ gtc ns p := by
  have h := pow_sum (asc_filter (okMore p) hn)
  have e : ((moreF ns p).map fun q => 2 ^ gtc ns q) = ((ns.filter (okMore p)).map fun n => 2 ^ ((ns.filter (okMore p)).filter fun x => decide (n < x)).length) := by
    unfold moreF
    rw [List.map_map]
    apply List.map_congr_left
    intro n hnm
    have hok := (List.mem_filter.mp hnm).2
    show 2 ^ gtc ns (p ++ [n]) = _
    unfold gtc
    congr 2
    rw [List.filter_filter]
    apply List.filter_congr
    intro x _
    have e1 : okMore (p ++ [n]) x = decide (n < x) := by
      unfold okMore
      rw [List.getLast?_append]
      rfl
    rw [e1]
    by_cases hx : n < x
    · have : okMore p x = true := by
        unfold okMore at hok ⊢
        cases e : p.getLast? with
        | none => rfl
        | some l =>
          rw [e] at hok
          have h1 : l < n := by simpa using hok
          show decide (l < x) = true
          exact decide_eq_true (by omega)
      rw [this]
      simp
    · simp [hx]
  rw [e]
  unfold gtc
  omega
theorem chosen_weight {ns : List Nat} (hn : Asc ns) : ∀ k, ((chosenF ns k).map fun q => 2 ^ gtc ns q).sum ≤ 2 ^ ns.length
  | 0 => by
    show (([[]] : List (List Nat)).map fun q => 2 ^ gtc ns q).sum ≤ _
    have : gtc ns [] = ns.length := by
      unfold gtc
      congr 1
      rw [List.filter_eq_self]
      intro _ _
      rfl
    simp [this]
  | k + 1 => by
    refine Nat.le_trans ?_ (chosen_weight hn k)
    show (((chosenF ns k).flatMap (moreF ns)).map fun q => 2 ^ gtc ns q).sum ≤ _
    generalize chosenF ns k = L
    induction L with
    | nil => simp
    | cons a L ih =>
      rw [List.flatMap_cons, List.map_append, List.sum_append_nat, List.map_cons, List.sum_cons]
      exact Nat.add_le_add (more_weight hn a) ih
theorem len_le_sum {α : Type} (f : α → Nat) (h : ∀ x, 1 ≤ f x) : ∀ l : List α, l.length ≤ (l.map f).sum
  | [] => Nat.zero_le _
  | a :: l => by
    have := len_le_sum f h l
    have := h a
    rw [List.map_cons, List.sum_cons, List.length_cons]
    omega
theorem chosen_len {ns : List Nat} (hn : Asc ns) (k : Nat) : (chosenF ns k).length ≤ 2 ^ ns.length :=
  Nat.le_trans (len_le_sum _ (fun _ => Nat.one_le_two_pow) _) (chosen_weight hn k)
end Ut
/-! Plain lists: arrows, ways, and as many ways apart as no fewer arrows meet. -/
namespace Ut
abbrev Arr := List (Nat × Nat)
def tl (es : Arr) (k : Nat) : Nat := (es.getD k (0, 0)).1
def hd (es : Arr) (k : Nat) : Nat := (es.getD k (0, 0)).2
def okK (es : Arr) (ps : List Nat) (k : Nat) : Bool := (ps.getLast? == some (tl es k)) && !(ps.contains (hd es k))
def kidsF (es : Arr) (ps : List Nat) : List Nat := (List.range es.length).filter (okK es ps)
/-- a way gone on from the places ps -/
def runW (es : Arr) : List Nat → List Nat → Option (List Nat)
  | [], ps => some ps
  | k :: w, ps => if k < es.length ∧ okK es ps k = true then runW es w (ps ++ [hd es k]) else none
def ext (es : Arr) (g : Nat) : Nat → List Nat → List Nat → List (List Nat)
  | 0, _, _ => []
  | f + 1, way, ps => if ps.getLast? = some g then [way] else (kidsF es ps).flatMap fun k => ext es g f (way ++ [k]) (ps ++ [hd es k])
def cnt (es : Arr) (g : Nat) : Nat → List Nat → Nat
  | 0, _ => 1
  | f + 1, ps => if ps.getLast? = some g then 1 else 1 + ((kidsF es ps).map fun k => cnt es g f (ps ++ [hd es k])).sum
/-- places of a beginning: unlike, below n -/
structure Node (n : Nat) (ps : List Nat) : Prop where
  ne : ps ≠ []
  nd : ps.Nodup
  lt : ∀ p ∈ ps, p < n
structure Good (n : Nat) (es : Arr) : Prop where
  lt : ∀ k, k < es.length → tl es k < n ∧ hd es k < n
  ne : ∀ k, k < es.length → tl es k ≠ hd es k

theorem okK_iff {es : Arr} {ps : List Nat} {k : Nat} : okK es ps k = true ↔ ps.getLast? = some (tl es k) ∧ hd es k ∉ ps := by
  unfold okK
  simp
theorem mem_kids {es : Arr} {ps : List Nat} {k : Nat} : k ∈ kidsF es ps ↔ k < es.length ∧ ps.getLast? = some (tl es k) ∧ hd es k ∉ ps := by
  unfold kidsF
  rw [List.mem_filter, List.mem_range, okK_iff]
theorem Node.kid {n : Nat} {es : Arr} {ps : List Nat} (N : Node n ps) (G : Good n es) {k : Nat} (h : k ∈ kidsF es ps) : Node n (ps ++ [hd es k]) := by
  obtain ⟨h1, h2, h3⟩ := mem_kids.mp h
  refine ⟨by simp, ?_, ?_⟩
  · rw [List.nodup_append]
    refine ⟨N.nd, by simp, ?_⟩
    intro a ha b hb
    have : b = hd es k := by simpa using hb
    subst this
    rintro rfl
    exact h3 ha
  · intro p hp
    rcases List.mem_append.mp hp with h | h
    · exact N.lt p h
    · have : p = hd es k := by simpa using h
      rw [this]
      exact (G.lt k h1).2
theorem Node.len {n : Nat} {ps : List Nat} (N : Node n ps) : ps.length ≤ n := by
  have := nodup_len N.nd (l' := List.range n) (fun x hx => List.mem_range.mpr (N.lt x hx))
  simpa using this
theorem Node.pos {n : Nat} {ps : List Nat} (N : Node n ps) : 0 < ps.length := List.length_pos_iff.mpr N.ne
theorem node0 {n : Nat} (h : 0 < n) : Node n [0] := ⟨by simp, by simp, by simpa using h⟩

/-! ### the ways from a beginning, the beginnings from a beginning -/
def compF (es : Arr) (g n : Nat) (x : List Nat × List Nat) : List (List Nat) := ext es g (n + 1 - x.2.length) x.1 x.2
def cntF (es : Arr) (g n : Nat) (x : List Nat × List Nat) : Nat := cnt es g (n + 1 - x.2.length) x.2
def kidX (es : Arr) (x : List Nat × List Nat) (k : Nat) : List Nat × List Nat := (x.1 ++ [k], x.2 ++ [hd es k])
theorem compF_eq {es : Arr} {g n : Nat} {x : List Nat × List Nat} (N : Node n x.2) : compF es g n x = if x.2.getLast? = some g then [x.1] else (kidsF es x.2).flatMap fun k => compF es g n (kidX es x k) := by
  have h := N.len
  unfold compF kidX
  obtain ⟨f, hf⟩ : ∃ f, n + 1 - x.2.length = f + 1 := ⟨n - x.2.length, by omega⟩
  rw [hf]
  show (if x.2.getLast? = some g then [x.1] else _) = _
  congr 1
  congr 1
  funext k
  have : n + 1 - (x.2 ++ [hd es k]).length = f := by
    rw [List.length_append]
    simp
    omega
  rw [this]
theorem cntF_eq {es : Arr} {g n : Nat} {x : List Nat × List Nat} (N : Node n x.2) : cntF es g n x = if x.2.getLast? = some g then 1 else 1 + ((kidsF es x.2).map fun k => cntF es g n (kidX es x k)).sum := by
  have h := N.len
  unfold cntF kidX
  obtain ⟨f, hf⟩ : ∃ f, n + 1 - x.2.length = f + 1 := ⟨n - x.2.length, by omega⟩
  rw [hf]
  show (if x.2.getLast? = some g then 1 else _) = _
  congr 3
  congr 1
  funext k
  have : n + 1 - (x.2 ++ [hd es k]).length = f := by
    rw [List.length_append]
    simp
    omega
  rw [this]
theorem cnt_pos (es : Arr) (g : Nat) : ∀ (f : Nat) (ps : List Nat), 1 ≤ cnt es g f ps
  | 0, _ => Nat.le_refl _
  | f + 1, ps => by
    unfold cnt
    split <;> omega
theorem cntF_pos (es : Arr) (g n : Nat) (x : List Nat × List Nat) : 1 ≤ cntF es g n x := cnt_pos _ _ _ _

/-- arrows that may still be gone -/
def freeC (es : Arr) (ps : List Nat) : Nat := ((List.range es.length).filter fun k => !(ps.contains (tl es k))).length
theorem sum_le_mul {α : Type} {f : α → Nat} {b : Nat} : ∀ {l : List α}, (∀ x ∈ l, f x ≤ b) → (l.map f).sum ≤ l.length * b
  | [], _ => by simp
  | a :: l, h => by
    have ih := sum_le_mul (f := f) (b := b) (l := l) fun x hx => h x (List.mem_cons_of_mem _ hx)
    have := h a List.mem_cons_self
    rw [List.map_cons, List.sum_cons, List.length_cons, Nat.succ_mul]
    omega
theorem filter_split {α : Type} (p q : α → Bool) : ∀ l : List α, (l.filter p).length = (l.filter fun x => p x && q x).length + (l.filter fun x => p x && !q x).length
  | [] => rfl
  | a :: l => by
    have ih := filter_split p q l
    cases hp : p a <;> cases hq : q a <;> simp [List.filter_cons, hp, hq, ih] <;> omega
theorem filter_len_mono {α : Type} {p q : α → Bool} (h : ∀ x, p x = true → q x = true) : ∀ {l : List α}, (l.filter p).length ≤ (l.filter q).length
  | [] => Nat.le_refl _
  | a :: l => by
    have ih := filter_len_mono (p := p) (q := q) h (l := l)
    cases hp : p a with
    | true =>
      rw [List.filter_cons_of_pos hp, List.filter_cons_of_pos (h a hp), List.length_cons, List.length_cons]
      omega
    | false =>
      rw [List.filter_cons_of_neg (by simp [hp])]
      cases hq : q a with
      | true =>
        rw [List.filter_cons_of_pos hq, List.length_cons]
        omega
      | false =>
        rw [List.filter_cons_of_neg (by simp [hq])]
        exact ih
theorem last_in {α : Type} {l l' : List α} {g : α} (hn : l' ≠ []) (h : (l ++ l').getLast? = some g) : g ∈ l' := by
  rw [List.getLast?_append] at h
  cases e : l'.getLast? with
  | none => exact absurd (List.getLast?_eq_none_iff.mp e) hn
  | some z =>
    rw [e] at h
    have : z = g := Option.some.inj h
    rw [← this]
    exact List.mem_of_getLast? e
theorem cnt_bound {n : Nat} {es : Arr} (g : Nat) : ∀ (f : Nat) (ps : List Nat), Node n ps → Good n es → cnt es g f ps ≤ 2 ^ freeC es ps.dropLast
  | 0, ps, _, _ => Nat.one_le_two_pow
  | f + 1, ps, N, G => by
    unfold cnt
    split
    · exact Nat.one_le_two_pow
    · have hb : ∀ k ∈ kidsF es ps, cnt es g f (ps ++ [hd es k]) ≤ 2 ^ freeC es ps := by
        intro k hk
        have := cnt_bound g f (ps ++ [hd es k]) (N.kid G hk) G
        rw [List.dropLast_concat] at this
        exact this
      have h1 := sum_le_mul hb
      -- the arrows from the last place
      have hlast : ∃ z, ps.getLast? = some z ∧ z ∉ ps.dropLast ∧ ∀ y, y ∈ ps ↔ y ∈ ps.dropLast ∨ y = z := by
        obtain ⟨l', z, rfl⟩ : ∃ l' z, ps = l' ++ [z] := ⟨ps.dropLast, ps.getLast N.ne, (List.dropLast_concat_getLast N.ne).symm⟩
        refine ⟨z, by simp, ?_, ?_⟩
        · rw [List.dropLast_concat]
          have := N.nd
          rw [List.nodup_append] at this
          intro hz
          exact this.2.2 z hz z (by simp) rfl
        · intro y
          rw [List.dropLast_concat]
          simp
      obtain ⟨z, hz1, hz2, hz3⟩ := hlast
      have h2 : freeC es ps.dropLast = ((List.range es.length).filter fun k => decide (tl es k = z)).length + freeC es ps := by
        unfold freeC
        rw [filter_split (fun k => !(ps.dropLast.contains (tl es k))) (fun k => decide (tl es k = z))]
        congr 1
        · congr 1
          apply List.filter_congr
          intro k _
          by_cases hk : tl es k = z
          · rw [hk]
            simp [hz2]
          · simp [hk]
        · congr 1
          apply List.filter_congr
          intro k _
          have := hz3 (tl es k)
          by_cases hk : tl es k = z
          · simp [hk, hz3 z]
          · by_cases hd' : tl es k ∈ ps.dropLast
            · simp [hd', this.mpr (.inl hd')]
            · have : tl es k ∉ ps := fun h => (this.mp h).elim hd' hk
              simp [hd', hk, this]
      have h3 : (kidsF es ps).length ≤ ((List.range es.length).filter fun k => decide (tl es k = z)).length := by
        unfold kidsF
        refine filter_len_mono ?_
        intro k hk
        have := (okK_iff.mp hk).1
        rw [hz1] at this
        simpa using (Option.some.inj this).symm
      rw [h2, Nat.pow_add]
      generalize ((List.range es.length).filter fun k => decide (tl es k = z)).length = d at h3
      have h4 : d + 1 ≤ 2 ^ d := Nat.lt_two_pow_self
      have h5 : (kidsF es ps).length * 2 ^ freeC es ps ≤ d * 2 ^ freeC es ps := Nat.mul_le_mul_right _ h3
      have h6 : (d + 1) * 2 ^ freeC es ps ≤ 2 ^ d * 2 ^ freeC es ps := Nat.mul_le_mul_right _ h4
      have h7 : 1 ≤ 2 ^ freeC es ps := Nat.one_le_two_pow
      rw [Nat.succ_mul] at h6
      omega
theorem cntF_bound {n : Nat} {es : Arr} {g : Nat} {x : List Nat × List Nat} (N : Node n x.2) (G : Good n es) : cntF es g n x ≤ 2 ^ es.length := by
  refine Nat.le_trans (cnt_bound g _ _ N G) (Nat.pow_le_pow_right (by decide) ?_)
  unfold freeC
  refine Nat.le_trans (List.length_filter_le _ _) ?_
  simp

/-! ### what a run leaves -/
theorem run_append {es : Arr} : ∀ {w : List Nat} {ps ps' : List Nat}, runW es w ps = some ps' → ps' = ps ++ w.map (hd es)
  | [], ps, ps', h => by
    have : ps = ps' := Option.some.inj h
    simp [this]
  | k :: w, ps, ps', h => by
    unfold runW at h
    split at h
    · rw [run_append h]
      simp
    · cases h
theorem run_node {n : Nat} {es : Arr} (G : Good n es) : ∀ {w : List Nat} {ps ps' : List Nat}, Node n ps → runW es w ps = some ps' → Node n ps'
  | [], ps, ps', N, h => by
    have : ps = ps' := Option.some.inj h
    exact this ▸ N
  | k :: w, ps, ps', N, h => by
    unfold runW at h
    split at h
    · rename_i hk
      exact run_node G (N.kid G (mem_kids.mpr ⟨hk.1, okK_iff.mp hk.2⟩)) h
    · cases h
theorem run_snoc {es : Arr} : ∀ {w : List Nat} {ps : List Nat} {k : Nat}, runW es (w ++ [k]) ps = (runW es w ps).bind fun ps' => if k < es.length ∧ okK es ps' k = true then some (ps' ++ [hd es k]) else none
  | [], ps, k => by
    show (if _ then runW es [] _ else none) = _
    rfl
  | j :: w, ps, k => by
    show (if _ then runW es (w ++ [k]) _ else none) = (if _ then runW es w _ else none).bind _
    split
    · exact run_snoc
    · rfl
theorem run_lt {es : Arr} : ∀ {w : List Nat} {ps ps' : List Nat}, runW es w ps = some ps' → ∀ k ∈ w, k < es.length
  | [], _, _, _, _, h => by cases h
  | j :: w, ps, ps', h, k, hk => by
    unfold runW at h
    split at h
    · rename_i hj
      rcases List.mem_cons.mp hk with e | hk
      · rw [e]
        exact hj.1
      · exact run_lt h k hk
    · cases h
theorem mem_comp {n : Nat} {es : Arr} {g : Nat} (G : Good n es) : ∀ (c : Nat) (x : List Nat × List Nat) (w : List Nat), Node n x.2 → n - x.2.length ≤ c →
    (w ∈ compF es g n x ↔ ∃ w', w = x.1 ++ w' ∧ ∃ ps', runW es w' x.2 = some ps' ∧ ps'.getLast? = some g)
  | c, x, w, N, hc => by
    rw [compF_eq N]
    split
    · rename_i hg
      constructor
      · intro h
        have : w = x.1 := by simpa using h
        exact ⟨[], by simp [this], x.2, rfl, hg⟩
      · rintro ⟨w', rfl, ps', h1, h2⟩
        cases w' with
        | nil => simp
        | cons k w'' =>
          exfalso
          have N' := run_node G N h1
          have e := run_append h1
          rw [List.map_cons] at e
          have hne : (hd es k :: w''.map (hd es)) ≠ [] := by simp
          rw [e] at h2
          have hm1 : g ∈ hd es k :: w''.map (hd es) := last_in hne h2
          have hm2 : g ∈ x.2 := List.mem_of_getLast? hg
          have := N'.nd
          rw [e, List.nodup_append] at this
          exact this.2.2 g hm2 g hm1 rfl
    · rename_i hg
      rw [List.mem_flatMap]
      have hlen := N.len
      constructor
      · rintro ⟨k, hk, h⟩
        have N' := N.kid G hk
        have hl' := N'.len
        have : (x.2 ++ [hd es k]).length = x.2.length + 1 := by simp
        cases c with
        | zero => omega
        | succ c =>
          obtain ⟨w', e, ps', h1, h2⟩ := (mem_comp G c (kidX es x k) w N' (by show n - (x.2 ++ [hd es k]).length ≤ c; omega)).mp h
          refine ⟨k :: w', ?_, ps', ?_, h2⟩
          · rw [e]
            show (x.1 ++ [k]) ++ w' = _
            simp
          · unfold runW
            obtain ⟨a, b⟩ := mem_kids.mp hk
            rw [if_pos ⟨a, okK_iff.mpr b⟩]
            exact h1
      · rintro ⟨w', e, ps', h1, h2⟩
        cases w' with
        | nil =>
          exfalso
          have : x.2 = ps' := Option.some.inj h1
          rw [← this] at h2
          exact hg h2
        | cons k w'' =>
          unfold runW at h1
          split at h1
          · rename_i hk
            have hk' : k ∈ kidsF es x.2 := mem_kids.mpr ⟨hk.1, okK_iff.mp hk.2⟩
            have N' := N.kid G hk'
            have hl' := N'.len
            have : (x.2 ++ [hd es k]).length = x.2.length + 1 := by simp
            refine ⟨k, hk', ?_⟩
            cases c with
            | zero => omega
            | succ c =>
              refine (mem_comp G c (kidX es x k) w N' (by show n - (x.2 ++ [hd es k]).length ≤ c; omega)).mpr ⟨w'', ?_, ps', h1, h2⟩
              rw [e]
              show _ = (x.1 ++ [k]) ++ w''
              simp
          · cases h1
  termination_by c _ _ _ _ => c

def allWays (es : Arr) (g n : Nat) : List (List Nat) := compF es g n ([], [0])
theorem mem_all {n : Nat} {es : Arr} {g : Nat} (G : Good n es) (hn : 0 < n) {w : List Nat} : w ∈ allWays es g n ↔ ∃ ps, runW es w [0] = some ps ∧ ps.getLast? = some g := by
  unfold allWays
  rw [mem_comp G n ([], [0]) w (node0 hn) (Nat.sub_le _ _)]
  constructor
  · rintro ⟨w', rfl, h⟩
    exact h
  · intro h
    exact ⟨w, rfl, h⟩
/-- no way: a lot of places that is closed -/
theorem comp_nil {n : Nat} {es : Arr} {g : Nat} (G : Good n es) {x : List Nat × List Nat} (N : Node n x.2) (M : Nat → Prop) (h0 : ∀ z, x.2.getLast? = some z → M z) (hg : ¬ M g) (hc : ∀ k, k < es.length → M (tl es k) → hd es k ∉ x.2 → M (hd es k)) : compF es g n x = [] := by
  rw [List.eq_nil_iff_forall_not_mem]
  intro w hw
  obtain ⟨w', _, ps', h1, h2⟩ := (mem_comp G n x w N (Nat.sub_le _ _)).mp hw
  have key : ∀ (w : List Nat) (ps ps' : List Nat), (∀ p ∈ x.2, p ∈ ps) → (∀ z, ps.getLast? = some z → M z) → runW es w ps = some ps' → ∀ z, ps'.getLast? = some z → M z := by
    intro w
    induction w with
    | nil =>
      intro ps ps' _ h h1
      have : ps = ps' := Option.some.inj h1
      exact this ▸ h
    | cons k w ih =>
      intro ps ps' hs h h1
      unfold runW at h1
      split at h1
      · rename_i hk
        obtain ⟨a, b⟩ := okK_iff.mp hk.2
        refine ih _ _ (fun p hp => List.mem_append_left _ (hs p hp)) ?_ h1
        intro z hz
        have : hd es k = z := by simpa using hz
        rw [← this]
        exact hc k hk.1 (h _ a) fun hm => b (hs _ hm)
      · cases h1
  exact hg (key w' x.2 ps' (fun _ h => h) h0 h1 g h2)
end Ut
/-! Plain lists: as many ways apart as no fewer arrows meet (by flows of single arrows). -/
namespace Ut
def sumI : Nat → (Nat → Int) → Int
  | 0, _ => 0
  | n + 1, f => sumI n f + f n
theorem sumI_congr {f h : Nat → Int} : ∀ {n : Nat}, (∀ k, k < n → f k = h k) → sumI n f = sumI n h
  | 0, _ => rfl
  | n + 1, e => by
    unfold sumI
    rw [sumI_congr (n := n) fun k hk => e k (by omega), e n (by omega)]
theorem sumI_le0 {f : Nat → Int} : ∀ {n : Nat}, (∀ k, k < n → f k ≤ 0) → sumI n f ≤ 0
  | 0, _ => Int.le_refl _
  | n + 1, e => by
    unfold sumI
    have := sumI_le0 (n := n) fun k hk => e k (by omega)
    have := e n (by omega)
    omega
theorem sumI_put {f h : Nat → Int} {j : Nat} : ∀ {n : Nat}, j < n → (∀ k, k < n → k ≠ j → h k = f k) → sumI n h = sumI n f + (h j - f j)
  | 0, hj, _ => by omega
  | n + 1, hj, e => by
    unfold sumI
    by_cases hn : j = n
    · rw [← hn, sumI_congr (n := j) (f := h) (h := f) fun k hk => e k (by omega) (by omega)]
      omega
    · rw [sumI_put (n := n) (by omega) fun k hk => e k (by omega), e n (by omega) (by omega)]
      omega
theorem sumI_filter {f : Nat → Int} {c : Nat → Bool} : ∀ {n : Nat}, (∀ k, k < n → f k = if c k = true then 1 else 0) → sumI n f = ((List.range n).filter c).length
  | 0, _ => rfl
  | n + 1, e => by
    unfold sumI
    rw [sumI_filter (n := n) fun k hk => e k (by omega), e n (by omega), List.range_succ, List.filter_append, List.length_append]
    cases h : c n with
    | true => simp [List.filter_cons, h]
    | false => simp [List.filter_cons, h]

def bI (b : Bool) : Int := if b = true then 1 else 0
/-- what of F leaves R less what comes in -/
def termF (es : Arr) (F : Nat → Bool) (R : Nat → Bool) (k : Nat) : Int := if F k = true then bI (R (tl es k)) - bI (R (hd es k)) else 0
def valF (es : Arr) (F : Nat → Bool) (R : Nat → Bool) : Int := sumI es.length (termF es F R)
def setF (F : Nat → Bool) (j : Nat) (b : Bool) : Nat → Bool := fun k => if k = j then b else F k
theorem val_set {es : Arr} {F : Nat → Bool} {R : Nat → Bool} {j : Nat} {b : Bool} (hj : j < es.length) : valF es (setF F j b) R = valF es F R + (termF es (setF F j b) R j - termF es F R j) := by
  unfold valF
  refine sumI_put hj fun k _ hne => ?_
  unfold termF setF
  rw [if_neg hne]

/-- a flow from 0 to g of value c -/
def Flow (es : Arr) (g : Nat) (F : Nat → Bool) (c : Int) : Prop := ∀ R : Nat → Bool, R 0 = true → R g = false → valF es F R = c

/-- beginnings in the rest of F, turned over -/
inductive Aug (es : Arr) (F : Nat → Bool) : List Nat → Nat → (Nat → Bool) → Prop
  | start : Aug es F [0] 0 F
  | fwd {S v G k} : Aug es F S v G → k < es.length → F k = false → tl es k = v → hd es k ∉ S → Aug es F (hd es k :: S) (hd es k) (setF G k true)
  | bwd {S v G k} : Aug es F S v G → k < es.length → F k = true → hd es k = v → tl es k ∉ S → Aug es F (tl es k :: S) (tl es k) (setF G k false)
theorem Aug.top {es : Arr} {F : Nat → Bool} {S : List Nat} {v : Nat} {G : Nat → Bool} (a : Aug es F S v G) : v ∈ S := by
  cases a <;> simp
theorem Aug.all {es : Arr} {F : Nat → Bool} {S : List Nat} {v : Nat} {G : Nat → Bool} (a : Aug es F S v G) : ∀ w ∈ S, ∃ S' G', Aug es F S' w G' := by
  induction a with
  | start =>
    intro w hw
    have : w = 0 := by simpa using hw
    subst this
    exact ⟨_, _, .start⟩
  | @fwd S v G k a h1 h2 h3 h4 ih =>
    intro w hw
    rcases List.mem_cons.mp hw with e | hw
    · subst e
      exact ⟨_, _, .fwd a h1 h2 h3 h4⟩
    · exact ih w hw
  | @bwd S v G k a h1 h2 h3 h4 ih =>
    intro w hw
    rcases List.mem_cons.mp hw with e | hw
    · subst e
      exact ⟨_, _, .bwd a h1 h2 h3 h4⟩
    · exact ih w hw
/-- an arrow with an end elsewhere is as it was -/
theorem Aug.same {es : Arr} {F : Nat → Bool} {S : List Nat} {v : Nat} {G : Nat → Bool} (a : Aug es F S v G) : ∀ j, (tl es j ∉ S ∨ hd es j ∉ S) → G j = F j := by
  induction a with
  | start => intro j _; rfl
  | @fwd S v G k a h1 h2 h3 h4 ih =>
    intro j hj
    have hne : j ≠ k := by
      rintro rfl
      rcases hj with h | h
      · exact h (List.mem_cons_of_mem _ (h3 ▸ a.top))
      · exact h List.mem_cons_self
    unfold setF
    rw [if_neg hne]
    exact ih j (hj.imp (fun h q => h (List.mem_cons_of_mem _ q)) fun h q => h (List.mem_cons_of_mem _ q))
  | @bwd S v G k a h1 h2 h3 h4 ih =>
    intro j hj
    have hne : j ≠ k := by
      rintro rfl
      rcases hj with h | h
      · exact h List.mem_cons_self
      · exact h (List.mem_cons_of_mem _ (h3 ▸ a.top))
    unfold setF
    rw [if_neg hne]
    exact ih j (hj.imp (fun h q => h (List.mem_cons_of_mem _ q)) fun h q => h (List.mem_cons_of_mem _ q))
theorem Aug.val {es : Arr} {F : Nat → Bool} {S : List Nat} {v : Nat} {G : Nat → Bool} (a : Aug es F S v G) : ∀ R, valF es G R = valF es F R + (bI (R 0) - bI (R v)) := by
  induction a with
  | start => intro R; omega
  | @fwd S v G k a h1 h2 h3 h4 ih =>
    intro R
    have e : G k = false := (a.same k (.inr h4)).trans h2
    rw [val_set h1, ih R]
    have e1 : termF es (setF G k true) R k = bI (R v) - bI (R (hd es k)) := by
      unfold termF setF
      rw [if_pos rfl, if_pos rfl, h3]
    have e2 : termF es G R k = 0 := by
      unfold termF
      rw [e, if_neg (by decide)]
    rw [e1, e2]
    omega
  | @bwd S v G k a h1 h2 h3 h4 ih =>
    intro R
    have e : G k = true := (a.same k (.inl h4)).trans h2
    rw [val_set h1, ih R]
    have e1 : termF es (setF G k false) R k = 0 := by
      unfold termF setF
      rw [if_pos rfl, if_neg (by decide)]
    have e2 : termF es G R k = bI (R (tl es k)) - bI (R v) := by
      unfold termF
      rw [e, if_pos rfl, h3]
    rw [e1, e2]
    omega

/-- a way's arrows leave a lot that holds the start but not the goal -/
theorem run_cross {es : Arr} {R : Nat → Bool} : ∀ {w ps ps' : List Nat}, runW es w ps = some ps' → (∀ z, ps.getLast? = some z → R z = true) → (∀ z, ps'.getLast? = some z → R z = false) → ps ≠ [] → ∃ k ∈ w, k < es.length ∧ R (tl es k) = true ∧ R (hd es k) = false
  | [], ps, ps', h, h1, h2, hne => by
    have e : ps = ps' := Option.some.inj h
    subst e
    have hl : ps.getLast? = some (ps.getLast hne) := List.getLast?_eq_some_getLast hne
    have a := h1 _ hl
    have b := h2 _ hl
    rw [a] at b
    cases b
  | k :: w, ps, ps', h, h1, h2, hne => by
    unfold runW at h
    split at h
    · rename_i hk
      obtain ⟨a, _⟩ := okK_iff.mp hk.2
      cases hr : R (hd es k) with
      | false => exact ⟨k, List.mem_cons_self, hk.1, h1 _ a, hr⟩
      | true =>
        obtain ⟨j, hj, r⟩ := run_cross h (fun z hz => by
          have : hd es k = z := by simpa using hz
          rw [← this]
          exact hr) h2 (by simp)
        exact ⟨j, List.mem_cons_of_mem _ hj, r⟩
    · cases h

theorem filter_lt {m : Nat} {c : Nat → Bool} : ∀ x ∈ (List.range m).filter c, x ∈ List.range m := fun _ h => (List.mem_filter.mp h).1

/-- more flow, or a lot of so many arrows that meets every way -/
theorem flow_more {n : Nat} {es : Arr} {g : Nat} (G : Good n es) (hn : 0 < n) {F : Nat → Bool} {c : Nat} (hF : Flow es g F c) (hno : ∀ lot, Asc lot → lot.length ≤ c → (∀ x ∈ lot, x ∈ List.range es.length) → ¬ ∀ w ∈ allWays es g n, ∃ k ∈ lot, k ∈ w) :
    ∃ F', Flow es g F' (c + 1 : Nat) := by
  by_cases hg : ∃ S G', Aug es F S g G'
  · obtain ⟨S, G', a⟩ := hg
    refine ⟨G', fun R h0 h1 => ?_⟩
    rw [a.val R, hF R h0 h1, h0, h1]
    show (c : Int) + (1 - 0) = _
    omega
  · exfalso
    let R : Nat → Bool := fun v => @decide (∃ S G', Aug es F S v G') (Classical.propDecidable _)
    have hR : ∀ v, R v = true ↔ ∃ S G', Aug es F S v G' := fun v => @decide_eq_true_iff _ (Classical.propDecidable _)
    have hRf : ∀ v, R v = false ↔ ¬ ∃ S G', Aug es F S v G' := fun v => @decide_eq_false_iff_not _ (Classical.propDecidable _)
    have h0 : R 0 = true := (hR 0).mpr ⟨_, _, .start⟩
    have h1 : R g = false := (hRf g).mpr hg
    have cf : ∀ k, k < es.length → F k = false → R (tl es k) = true → R (hd es k) = true := by
      intro k hk hf ht
      obtain ⟨S, G', a⟩ := (hR _).mp ht
      by_cases hm : hd es k ∈ S
      · exact (hR _).mpr (a.all _ hm)
      · exact (hR _).mpr ⟨_, _, .fwd a hk hf rfl hm⟩
    have cb : ∀ k, k < es.length → F k = true → R (hd es k) = true → R (tl es k) = true := by
      intro k hk hf ht
      obtain ⟨S, G', a⟩ := (hR _).mp ht
      by_cases hm : tl es k ∈ S
      · exact (hR _).mpr (a.all _ hm)
      · exact (hR _).mpr ⟨_, _, .bwd a hk hf rfl hm⟩
    have hv := hF R h0 h1
    have hs : valF es F R = ((List.range es.length).filter fun k => R (tl es k) && !R (hd es k)).length := by
      unfold valF
      refine sumI_filter fun k hk => ?_
      unfold termF bI
      have a := cf k hk
      have b := cb k hk
      cases hf : F k <;> cases ht : R (tl es k) <;> cases hh : R (hd es k) <;> simp_all
    refine hno ((List.range es.length).filter fun k => R (tl es k) && !R (hd es k)) (asc_filter _ (asc_range _)) ?_ filter_lt fun w hw => ?_
    · rw [hs] at hv
      omega
    · obtain ⟨ps, hp, hl⟩ := (mem_all G hn).mp hw
      obtain ⟨k, hk, hk2, h3, h4⟩ := run_cross (R := R) hp (fun z hz => by
        have : 0 = z := by simpa using hz
        rw [← this]
        exact h0) (fun z hz => by
        rw [hl] at hz
        rw [← Option.some.inj hz]
        exact h1) (by simp)
      exact ⟨k, List.mem_filter.mpr ⟨List.mem_range.mpr hk2, by rw [h3, h4]; rfl⟩, hk⟩

/-- beginnings in F, taken out of it -/
inductive Pth (es : Arr) (F : Nat → Bool) : List Nat → Nat → List Nat → (Nat → Bool) → Prop
  | start : Pth es F [0] 0 [] F
  | step {S v p G k} : Pth es F S v p G → k < es.length → F k = true → tl es k = v → hd es k ∉ S → Pth es F (S ++ [hd es k]) (hd es k) (p ++ [k]) (setF G k false)
theorem Pth.last {es : Arr} {F : Nat → Bool} {S : List Nat} {v : Nat} {p : List Nat} {G : Nat → Bool} (a : Pth es F S v p G) : S.getLast? = some v := by
  cases a <;> simp
theorem Pth.run {es : Arr} {F : Nat → Bool} {S : List Nat} {v : Nat} {p : List Nat} {G : Nat → Bool} (a : Pth es F S v p G) : runW es p [0] = some S := by
  induction a with
  | start => rfl
  | @step S v p G k a h1 h2 h3 h4 ih =>
    rw [run_snoc, ih]
    show (if k < es.length ∧ okK es S k = true then _ else _) = _
    rw [if_pos ⟨h1, okK_iff.mpr ⟨by rw [h3]; exact a.last, h4⟩⟩]
theorem Pth.all {es : Arr} {F : Nat → Bool} {S : List Nat} {v : Nat} {p : List Nat} {G : Nat → Bool} (a : Pth es F S v p G) : ∀ w ∈ S, ∃ S' p' G', Pth es F S' w p' G' := by
  induction a with
  | start =>
    intro w hw
    have : w = 0 := by simpa using hw
    subst this
    exact ⟨_, _, _, .start⟩
  | @step S v p G k a h1 h2 h3 h4 ih =>
    intro w hw
    rcases List.mem_append.mp hw with hw | hw
    · exact ih w hw
    · have e : w = hd es k := by simpa using hw
      subst e
      exact ⟨_, _, _, .step a h1 h2 h3 h4⟩
theorem Pth.same {es : Arr} {F : Nat → Bool} {S : List Nat} {v : Nat} {p : List Nat} {G : Nat → Bool} (a : Pth es F S v p G) : ∀ j, (tl es j ∉ S ∨ hd es j ∉ S) → G j = F j := by
  induction a with
  | start => intro j _; rfl
  | @step S v p G k a h1 h2 h3 h4 ih =>
    intro j hj
    have hv : v ∈ S := List.mem_of_getLast? a.last
    have hne : j ≠ k := by
      rintro rfl
      rcases hj with h | h
      · exact h (List.mem_append_left _ (h3 ▸ hv))
      · exact h (List.mem_append_right _ (by simp))
    unfold setF
    rw [if_neg hne]
    exact ih j (hj.imp (fun h q => h (List.mem_append_left _ q)) fun h q => h (List.mem_append_left _ q))
theorem Pth.val {es : Arr} {F : Nat → Bool} {S : List Nat} {v : Nat} {p : List Nat} {G : Nat → Bool} (a : Pth es F S v p G) : ∀ R, valF es G R = valF es F R - (bI (R 0) - bI (R v)) := by
  induction a with
  | start => intro R; omega
  | @step S v p G k a h1 h2 h3 h4 ih =>
    intro R
    have e : G k = true := (a.same k (.inr h4)).trans h2
    rw [val_set h1, ih R]
    have e1 : termF es (setF G k false) R k = 0 := by
      unfold termF setF
      rw [if_pos rfl, if_neg (by decide)]
    have e2 : termF es G R k = bI (R v) - bI (R (hd es k)) := by
      unfold termF
      rw [e, if_pos rfl, h3]
    rw [e1, e2]
    omega
theorem Pth.out {es : Arr} {F : Nat → Bool} {S : List Nat} {v : Nat} {p : List Nat} {G : Nat → Bool} (a : Pth es F S v p G) : (∀ k ∈ p, F k = true ∧ G k = false) ∧ ∀ k, G k = true → F k = true := by
  induction a with
  | start => exact ⟨fun k h => absurd h (by simp), fun k h => h⟩
  | @step S v p G k a h1 h2 h3 h4 ih =>
    refine ⟨fun j hj => ?_, fun j hj => ?_⟩
    · rcases List.mem_append.mp hj with h | h
      · refine ⟨(ih.1 j h).1, ?_⟩
        unfold setF
        split
        · rfl
        · exact (ih.1 j h).2
      · have e : j = k := by simpa using h
        subst e
        refine ⟨h2, ?_⟩
        unfold setF
        rw [if_pos rfl]
    · unfold setF at hj
      split at hj
      · cases hj
      · exact ih.2 j hj
/-- no two with one arrow -/
def Apart (P : List (List Nat)) : Prop := P.Pairwise fun a b => ∀ k ∈ a, k ∉ b
theorem flow_ways {n : Nat} {es : Arr} {g : Nat} (G : Good n es) (hn : 0 < n) : ∀ (c : Nat) (F : Nat → Bool), Flow es g F c → ∃ P : List (List Nat), P.length = c ∧ (∀ p ∈ P, p ∈ allWays es g n ∧ ∀ k ∈ p, F k = true) ∧ Apart P
  | 0, F, _ => ⟨[], rfl, fun p h => absurd h (by simp), List.Pairwise.nil⟩
  | c + 1, F, hF => by
    have hg : ∃ S p G', Pth es F S g p G' := Classical.byContradiction fun hg => by
      let R : Nat → Bool := fun v => @decide (∃ S p G', Pth es F S v p G') (Classical.propDecidable _)
      have hR : ∀ v, R v = true ↔ ∃ S p G', Pth es F S v p G' := fun v => @decide_eq_true_iff _ (Classical.propDecidable _)
      have hRf : ∀ v, R v = false ↔ ¬ ∃ S p G', Pth es F S v p G' := fun v => @decide_eq_false_iff_not _ (Classical.propDecidable _)
      have hv := hF R ((hR 0).mpr ⟨_, _, _, .start⟩) ((hRf g).mpr hg)
      have hle : valF es F R ≤ 0 := by
        unfold valF
        refine sumI_le0 fun k hk => ?_
        unfold termF bI
        have cf : F k = true → R (tl es k) = true → R (hd es k) = true := by
          intro hf ht
          obtain ⟨S, p, G', a⟩ := (hR _).mp ht
          by_cases hm : hd es k ∈ S
          · exact (hR _).mpr (a.all _ hm)
          · exact (hR _).mpr ⟨_, _, _, .step a hk hf rfl hm⟩
        cases hf : F k <;> cases ht : R (tl es k) <;> cases hh : R (hd es k) <;> simp_all
      omega
    obtain ⟨S, p, G', a⟩ := hg
    obtain ⟨o1, o2⟩ := a.out
    obtain ⟨P, p1, p2, p3⟩ := flow_ways G hn c G' fun R h0 h1 => by
      rw [a.val R, hF R h0 h1, h0, h1]
      show ((c + 1 : Nat) : Int) - (1 - 0) = _
      omega
    refine ⟨p :: P, by simp [p1], ?_, ?_⟩
    · intro q hq
      rcases List.mem_cons.mp hq with e | hq
      · subst e
        exact ⟨(mem_all G hn).mpr ⟨S, a.run, a.last⟩, fun k hk => (o1 k hk).1⟩
      · exact ⟨(p2 q hq).1, fun k hk => o2 k ((p2 q hq).2 k hk)⟩
    · refine List.pairwise_cons.mpr ⟨fun q hq k hk hkq => ?_, p3⟩
      have := (p2 q hq).2 k hkq
      rw [(o1 k hk).2] at this
      cases this
/-- MENGER: what no lot of at most so many arrows meets has one way more, no two with one arrow -/
theorem menger {n : Nat} {es : Arr} {g most : Nat} (G : Good n es) (hn : 0 < n) (h : meetF (List.range es.length) (allWays es g n) most = none) :
    ∃ P : List (List Nat), P.length = most + 1 ∧ (∀ p ∈ P, p ∈ allWays es g n) ∧ Apart P := by
  have flows : ∀ c, c ≤ most + 1 → ∃ F, Flow es g F (c : Nat) := by
    intro c
    induction c with
    | zero =>
      intro _
      refine ⟨fun _ => false, fun R _ _ => ?_⟩
      unfold valF
      rw [sumI_congr (n := es.length) (f := termF es (fun _ => false) R) (h := fun _ => 0) fun k _ => rfl]
      have : ∀ n, sumI n (fun _ => (0 : Int)) = 0 := by
        intro n
        induction n with
        | zero => rfl
        | succ n ih => unfold sumI; rw [ih]; rfl
      exact this _
    | succ c ih =>
      intro hc
      obtain ⟨F, hF⟩ := ih (by omega)
      exact flow_more G hn hF fun lot h1 h2 h3 => not_meet h lot h1 (by omega) h3
  obtain ⟨F, hF⟩ := flows (most + 1) (Nat.le_refl _)
  obtain ⟨P, p1, p2, p3⟩ := flow_ways G hn (most + 1) F hF
  exact ⟨P, p1, fun p hp => (p2 p hp).1, p3⟩

/-- arrows lead from the start to g -/
def Leads (es : Arr) (g : Nat) : Prop := ∀ R : Nat → Prop, R 0 → (∀ k, k < es.length → R (tl es k) → R (hd es k)) → R g
theorem ways_ne {n : Nat} {es : Arr} {g : Nat} (G : Good n es) (hn : 0 < n) (h : Leads es g) : allWays es g n ≠ [] := by
  have hg : ∃ S p G', Pth es (fun _ => true) S g p G' := by
    refine h (fun v => ∃ S p G', Pth es (fun _ => true) S v p G') ⟨_, _, _, .start⟩ ?_
    rintro k hk ⟨S, p, G', a⟩
    by_cases hm : hd es k ∈ S
    · exact a.all _ hm
    · exact ⟨_, _, _, .step a hk rfl rfl hm⟩
  obtain ⟨S, p, G', a⟩ := hg
  exact List.ne_nil_of_mem ((mem_all G hn).mpr ⟨S, a.run, a.last⟩)
theorem way_lt {n : Nat} {es : Arr} {g : Nat} (G : Good n es) (hn : 0 < n) {w : List Nat} (h : w ∈ allWays es g n) : ∀ k ∈ w, k < es.length := by
  obtain ⟨ps, hp, _⟩ := (mem_all G hn).mp h
  exact run_lt hp
theorem way_ne {n : Nat} {es : Arr} {g : Nat} (G : Good n es) (hn : 0 < n) (hg : g ≠ 0) {w : List Nat} (h : w ∈ allWays es g n) : w ≠ [] := by
  obtain ⟨ps, hp, hl⟩ := (mem_all G hn).mp h
  rintro rfl
  have e : [0] = ps := Option.some.inj hp
  rw [← e] at hl
  have : 0 = g := by simpa using hl
  exact hg this.symm
theorem run_nodup {n : Nat} {es : Arr} (G : Good n es) {w ps ps' : List Nat} (N : Node n ps) (h : runW es w ps = some ps') : w.Nodup := by
  have N' := run_node G N h
  have e := run_append h
  have nd := N'.nd
  rw [e, List.nodup_append] at nd
  exact List.Pairwise.of_map (hd es) (fun a b hne e => hne (congrArg _ e)) nd.2.1
theorem way_nodup {n : Nat} {es : Arr} {g : Nat} (G : Good n es) (hn : 0 < n) {w : List Nat} (h : w ∈ allWays es g n) : w.Nodup := by
  obtain ⟨ps, hp, _⟩ := (mem_all G hn).mp h
  exact run_nodup G (node0 hn) hp
end Ut
/-! Plain lists: the fewest ways that no so few arrows meet. -/
namespace Ut
def lotW (W : List (List Nat)) (ns : List Nat) : List (List Nat) := ns.map fun i => W.getD i []
def triesF (W : List (List Nat)) : List (List Nat) := (List.range W.length).flatMap fun s => chosenF (List.range W.length) (s + 1)
def unmet (m most : Nat) (W : List (List Nat)) (ns : List Nat) : Bool := (meetF (usedOf m (lotW W ns)) (lotW W ns) most).isNone
def enoughF (m : Nat) (W : List (List Nat)) (most : Nat) : Option (List (List Nat)) :=
  if (meetF (usedOf m W) W most).isSome = true then none else ((triesF W).find? (unmet m most W)).map (lotW W)

theorem mem_tries {W : List (List Nat)} {ns : List Nat} : ns ∈ triesF W ↔ Asc ns ∧ 1 ≤ ns.length ∧ ns.length ≤ W.length ∧ ∀ x ∈ ns, x < W.length := by
  unfold triesF
  rw [List.mem_flatMap]
  constructor
  · rintro ⟨s, hs, h⟩
    have := List.mem_range.mp hs
    obtain ⟨a1, a2, a3⟩ := mem_chosen.mp h
    exact ⟨a1, by omega, by omega, fun x hx => List.mem_range.mp (a3 x hx)⟩
  · rintro ⟨a1, a2, a3, a4⟩
    exact ⟨ns.length - 1, List.mem_range.mpr (by omega), mem_chosen.mpr ⟨a1, by omega, fun x hx => List.mem_range.mpr (a4 x hx)⟩⟩
theorem tries_sorted (W : List (List Nat)) : (triesF W).Pairwise fun a b => a.length ≤ b.length := by
  unfold triesF
  rw [List.flatMap, List.pairwise_flatten]
  refine ⟨?_, ?_⟩
  · intro l hl
    obtain ⟨k, _, rfl⟩ := List.mem_map.mp hl
    refine List.pairwise_of_forall_mem_list ?_
    intro a ha b hb
    rw [(mem_chosen.mp ha).2.1, (mem_chosen.mp hb).2.1]
    exact Nat.le_refl _
  · rw [List.pairwise_map]
    refine (asc_range W.length).imp ?_
    intro i j hij a ha b hb
    rw [(mem_chosen.mp ha).2.1, (mem_chosen.mp hb).2.1]
    omega
/-- so many arrows at least -/
theorem apart_len : ∀ {P : List (List Nat)} {lot : List Nat}, Apart P → (∀ p ∈ P, ∃ k ∈ lot, k ∈ p) → P.length ≤ lot.length
  | [], _, _, _ => Nat.zero_le _
  | p :: P, lot, h, hh => by
    obtain ⟨h1, h2⟩ := List.pairwise_cons.mp h
    obtain ⟨k, hk, hkp⟩ := hh p List.mem_cons_self
    have ih := apart_len (P := P) (lot := lot.erase k) h2 fun q hq => by
      obtain ⟨j, hj, hjq⟩ := hh q (List.mem_cons_of_mem _ hq)
      refine ⟨j, (List.mem_erase_of_ne ?_).mpr hj, hjq⟩
      rintro rfl
      exact h1 q hq j hkp hjq
    have e := List.length_erase_of_mem hk
    have : 0 < lot.length := List.length_pos_of_mem hk
    rw [List.length_cons]
    omega
def heads (L : List (List Nat)) : List Nat := L.map fun w => w.headD 0
theorem heads_hit {L : List (List Nat)} (hn : ∀ w ∈ L, w ≠ []) : ∀ w ∈ L, ∃ k ∈ heads L, k ∈ w := by
  intro w hw
  refine ⟨w.headD 0, List.mem_map.mpr ⟨w, hw, rfl⟩, ?_⟩
  cases w with
  | nil => exact absurd rfl (hn _ hw)
  | cons a r => simp
theorem apart_or : ∀ {L : List (List Nat)}, (∀ w ∈ L, w ≠ []) → Apart L ∨ ∃ lot : List Nat, lot.length + 1 ≤ L.length ∧ ∀ w ∈ L, ∃ k ∈ lot, k ∈ w
  | [], _ => .inl List.Pairwise.nil
  | a :: L, hn => by
    by_cases hc : ∃ k ∈ a, ∃ b ∈ L, k ∈ b
    · obtain ⟨k, hk, b, hb, hkb⟩ := hc
      refine .inr ⟨k :: heads (L.erase b), ?_, ?_⟩
      · have e := List.length_erase_of_mem hb
        have : 0 < L.length := List.length_pos_of_mem hb
        unfold heads
        rw [List.length_cons, List.length_map, List.length_cons]
        omega
      · intro w hw
        rcases List.mem_cons.mp hw with e | hw
        · exact ⟨k, List.mem_cons_self, e ▸ hk⟩
        · by_cases e : w = b
          · exact ⟨k, List.mem_cons_self, e ▸ hkb⟩
          · have hm : w ∈ L.erase b := (List.mem_erase_of_ne e).mpr hw
            obtain ⟨j, hj, r⟩ := heads_hit (L := L.erase b) (fun v hv => hn v (List.mem_cons_of_mem _ (List.mem_of_mem_erase hv))) w hm
            exact ⟨j, List.mem_cons_of_mem _ hj, r⟩
    · rcases apart_or (L := L) fun w hw => hn w (List.mem_cons_of_mem _ hw) with h | ⟨lot, h1, h2⟩
      · exact .inl (List.pairwise_cons.mpr ⟨fun b hb k hk hkb => hc ⟨k, hk, b, hb, hkb⟩, h⟩)
      · refine .inr ⟨a.headD 0 :: lot, by simpa using h1, ?_⟩
        intro w hw
        rcases List.mem_cons.mp hw with e | hw
        · refine ⟨a.headD 0, List.mem_cons_self, ?_⟩
          rw [e]
          have := hn a List.mem_cons_self
          cases a with
          | nil => exact absurd rfl this
          | cons x r => simp
        · obtain ⟨j, hj, r⟩ := h2 w hw
          exact ⟨j, List.mem_cons_of_mem _ hj, r⟩

theorem enough_none {m most : Nat} {W : List (List Nat)} (h : meetF (List.range m) W most ≠ none) : enoughF m W most = none := by
  unfold enoughF
  rw [meet_used]
  cases e : meetF (List.range m) W most with
  | none => exact absurd e h
  | some x => rfl
theorem lotW_mem {W : List (List Nat)} {ns : List Nat} (h : ∀ x ∈ ns, x < W.length) : ∀ w ∈ lotW W ns, w ∈ W := by
  intro w hw
  obtain ⟨i, hi, rfl⟩ := List.mem_map.mp hw
  have := h i hi
  rw [List.getD_eq_getElem?_getD, List.getElem?_eq_getElem this]
  exact List.getElem_mem _
theorem lotW_len (W : List (List Nat)) (ns : List Nat) : (lotW W ns).length = ns.length := List.length_map _
theorem apart_nodup : ∀ {P : List (List Nat)}, (∀ p ∈ P, p ≠ []) → Apart P → P.Nodup
  | [], _, _ => List.nodup_nil
  | p :: P, hn, h => by
    obtain ⟨h1, h2⟩ := List.pairwise_cons.mp h
    refine List.nodup_cons.mpr ⟨fun hp => ?_, apart_nodup (fun q hq => hn q (List.mem_cons_of_mem _ hq)) h2⟩
    have := hn p List.mem_cons_self
    cases p with
    | nil => exact this rfl
    | cons k r => exact h1 _ hp k List.mem_cons_self List.mem_cons_self

structure Ways (m : Nat) (W : List (List Nat)) : Prop where
  lt : ∀ w ∈ W, ∀ k ∈ w, k < m
  ne : ∀ w ∈ W, w ≠ []
  nd : ∀ w ∈ W, w.Nodup
theorem Ways.sub {m : Nat} {W L : List (List Nat)} (h : Ways m W) (hs : ∀ w ∈ L, w ∈ W) : Ways m L := ⟨fun w hw => h.lt w (hs w hw), fun w hw => h.ne w (hs w hw), fun w hw => h.nd w (hs w hw)⟩

theorem enough_some {m most : Nat} {W : List (List Nat)} (hW : Ways m W) (h0 : meetF (List.range m) W most = none) (hP : ∃ P : List (List Nat), P.length = most + 1 ∧ (∀ p ∈ P, p ∈ W) ∧ Apart P) :
    ∃ L, enoughF m W most = some L ∧ L.length = most + 1 ∧ (∀ w ∈ L, w ∈ W) ∧ Apart L ∧ meetF (List.range m) L most = none := by
  obtain ⟨P, p1, p2, p3⟩ := hP
  have pnd : P.Nodup := apart_nodup (fun p hp => hW.ne p (p2 p hp)) p3
  -- P's places in W
  let ns : List Nat := (List.range W.length).filter fun i => P.any fun p => W.idxOf p == i
  have hidx : ∀ p ∈ P, W.idxOf p < W.length := fun p hp => List.idxOf_lt_length_of_mem (p2 p hp)
  have hget : ∀ p ∈ P, W.getD (W.idxOf p) [] = p := fun p hp => by
    rw [List.getD_eq_getElem?_getD, List.getElem?_eq_getElem (hidx p hp)]
    exact List.getElem_idxOf (hidx p hp)
  have hmem : ∀ i, i ∈ ns ↔ ∃ p ∈ P, W.idxOf p = i := fun i => by
    show i ∈ (List.range W.length).filter _ ↔ _
    rw [List.mem_filter, List.any_eq_true, List.mem_range]
    constructor
    · rintro ⟨_, p, hp, e⟩
      exact ⟨p, hp, by simpa using e⟩
    · rintro ⟨p, hp, rfl⟩
      exact ⟨hidx p hp, p, hp, by simp⟩
  have nnd : ns.Nodup := asc_nodup (asc_filter _ (asc_range _))
  have inj : (P.map W.idxOf).Nodup := by
    rw [List.nodup_iff_pairwise_ne, List.pairwise_map]
    refine List.Pairwise.imp_of_mem (fun {a b} ha hb hne e => hne ?_) pnd
    rw [← hget a ha, ← hget b hb, e]
  have hlen : ns.length = most + 1 := by
    have h1 := nodup_len nnd (l' := P.map W.idxOf) fun x hx => by
      obtain ⟨p, hp, e⟩ := (hmem x).mp hx
      exact List.mem_map.mpr ⟨p, hp, e⟩
    have h2 := nodup_len inj (l' := ns) fun x hx => by
      obtain ⟨p, hp, e⟩ := List.mem_map.mp hx
      exact (hmem x).mpr ⟨p, hp, e⟩
    rw [List.length_map] at h1 h2
    omega
  have hlt : ∀ x ∈ ns, x < W.length := fun x hx => by
    obtain ⟨p, hp, e⟩ := (hmem x).mp hx
    rw [← e]
    exact hidx p hp
  have hle : ns.length ≤ W.length := by
    have := nodup_len nnd (l' := List.range W.length) fun x hx => List.mem_range.mpr (hlt x hx)
    simpa using this
  have hns : ns ∈ triesF W := mem_tries.mpr ⟨asc_filter _ (asc_range _), by omega, hle, hlt⟩
  have hun : unmet m most W ns = true := by
    unfold unmet
    rw [meet_used]
    cases e : meetF (List.range m) (lotW W ns) most with
    | none => rfl
    | some x =>
      exfalso
      have hx : hits (lotW W ns) x = true := List.find?_some e
      have hl := (mem_lots.mp (List.mem_of_find?_eq_some e)).2.1
      have := apart_len (P := P) (lot := x) p3 fun p hp => (hits_iff.mp hx) p (by
        refine List.mem_map.mpr ⟨W.idxOf p, (hmem _).mpr ⟨p, hp, rfl⟩, hget p hp⟩)
      omega
  cases e : (triesF W).find? (unmet m most W) with
  | none =>
    rw [List.find?_eq_none] at e
    exact absurd hun (e ns hns)
  | some x =>
    have hx : unmet m most W x = true := List.find?_some e
    obtain ⟨x1, x2, x3, x4⟩ := mem_tries.mp (List.mem_of_find?_eq_some e)
    have hxm : meetF (List.range m) (lotW W x) most = none := by
      unfold unmet at hx
      rw [meet_used] at hx
      cases e2 : meetF (List.range m) (lotW W x) most with
      | none => rfl
      | some y =>
        rw [e2] at hx
        cases hx
    have hsub := lotW_mem x4
    have wx := hW.sub hsub
    have l1 : x.length ≤ most + 1 := by
      obtain ⟨_, as, bs, ee, hn⟩ := List.find?_eq_some_iff_append.mp e
      have hs := tries_sorted W
      rw [ee] at hs hns
      rcases List.mem_append.mp hns with h1 | h1
      · have := hn ns h1
        rw [hun] at this
        simp at this
      · rcases List.mem_cons.mp h1 with h2 | h2
        · rw [← h2, hlen]
          exact Nat.le_refl _
        · rw [List.pairwise_append] at hs
          have := (List.pairwise_cons.mp hs.2.1).1 ns h2
          omega
    have l2 : most + 1 ≤ x.length := Nat.lt_of_not_le fun hle => by
      refine meet_of wx.lt (lot := heads (lotW W x)) ?_ (heads_hit wx.ne) hxm
      unfold heads
      rw [List.length_map, lotW_len]
      exact hle
    refine ⟨lotW W x, ?_, by rw [lotW_len]; omega, hsub, ?_, hxm⟩
    · unfold enoughF
      rw [meet_used, h0, e]
      rfl
    · rcases apart_or wx.ne with h | ⟨lot, h1, h2⟩
      · exact h
      · exfalso
        rw [lotW_len] at h1
        exact meet_of wx.lt (by omega) h2 hxm
theorem enough_len {m most : Nat} {W L : List (List Nat)} (h : enoughF m W most = some L) : L.length ≤ W.length := by
  unfold enoughF at h
  split at h
  · cases h
  · cases e : (triesF W).find? (unmet m most W) with
    | none =>
      rw [e] at h
      cases h
    | some x =>
      rw [e] at h
      have h' : lotW W x = L := Option.some.inj h
      obtain ⟨x1, x2, x3, x4⟩ := mem_tries.mp (List.mem_of_find?_eq_some e)
      rw [← h', lotW_len]
      exact x3
/-- as many arrows as the ways are long together -/
theorem used_sum {m : Nat} : ∀ {L : List (List Nat)}, Ways m L → Apart L → (usedOf m L).length = (L.map List.length).sum
  | [], _, _ => by
    unfold usedOf
    simp
  | a :: L, h, hA => by
    obtain ⟨h1, h2⟩ := List.pairwise_cons.mp hA
    have ih := used_sum (h.sub fun w hw => List.mem_cons_of_mem _ hw) h2
    rw [List.map_cons, List.sum_cons, ← ih]
    unfold usedOf
    rw [filter_split _ (fun k => a.contains k)]
    congr 1
    · have e : ((List.range m).filter fun k => ((a :: L).any fun way => way.contains k) && a.contains k) = (List.range m).filter fun k => a.contains k := by
        apply List.filter_congr
        intro k _
        rw [List.any_cons]
        cases a.contains k <;> simp
      rw [e]
      refine Nat.le_antisymm (nodup_len (asc_nodup (asc_filter _ (asc_range m))) fun x hx => by simpa using (List.mem_filter.mp hx).2) (nodup_len (h.nd a List.mem_cons_self) fun x hx => ?_)
      exact List.mem_filter.mpr ⟨List.mem_range.mpr (h.lt a List.mem_cons_self x hx), by simpa using hx⟩
    · congr 1
      apply List.filter_congr
      intro k _
      rw [List.any_cons]
      cases hc : a.contains k with
      | false => simp
      | true =>
        have hk : k ∈ a := by simpa using hc
        have : (L.any fun way => way.contains k) = false := by
          rw [List.any_eq_false]
          intro w hw
          have := h1 w hw k hk
          simpa using this
        rw [this]
        simp
theorem used_all {m : Nat} {W : List (List Nat)} : ∀ k ∈ usedOf m W, k < m := fun k h => List.mem_range.mp (List.mem_filter.mp h).1
theorem used_len (m : Nat) (W : List (List Nat)) : (usedOf m W).length ≤ m := by
  unfold usedOf
  refine Nat.le_trans (List.length_filter_le _ _) ?_
  simp
theorem asc_used (m : Nat) (W : List (List Nat)) : Asc (usedOf m W) := asc_filter _ (asc_range m)
end Ut
/-! The text by places, the names of each def, what the top has written. -/
namespace Ut
open PySem L2
def topS (i : Nat) : Stmt := PySem.Challenge.pw_untriedways_k65_whole_ways_apart.main.body.getD i (.Pass ⟨0, 0, 0, 0⟩)
abbrev s_is_integer : Stmt := topS 8
abbrev s_is_between : Stmt := topS 9
abbrev s_is_index : Stmt := topS 10
abbrev s_check_number : Stmt := topS 11
abbrev s_is_lot : Stmt := topS 12
abbrev s_mask_of : Stmt := topS 13
abbrev s_lot_of : Stmt := topS 14
abbrev s_chosen : Stmt := topS 15
abbrev s_are_arrows : Stmt := topS 19
abbrev s_are_goals : Stmt := topS 20
abbrev s_led_to : Stmt := topS 21
abbrev s_Map_init : Stmt := inClass (topS 22) 0
abbrev s_Map_keep : Stmt := inClass (topS 22) 1
abbrev s_check_one_goal : Stmt := topS 23
abbrev s_longer_ways : Stmt := topS 26
abbrev s_leads_on : Stmt := topS 27
abbrev s_ways_of : Stmt := topS 28
abbrev s_is_way : Stmt := topS 29
abbrev s_meeting : Stmt := topS 30
abbrev s_met_by : Stmt := topS 31
abbrev s_ways_enough : Stmt := topS 32
abbrev s_Lhand : Stmt := topS 34
abbrev s_Ldraw : Stmt := topS 35
abbrev s_Lshuffled : Stmt := topS 36
abbrev s_Lparts : Stmt := topS 37
abbrev s_Ltail : Stmt := topS 38
abbrev s_Lrenamed : Stmt := topS 39
abbrev s_Lways : Stmt := topS 40
abbrev s_Lchosen : Stmt := topS 41
abbrev s_Lmeeting : Stmt := topS 42
abbrev s_Lbundles : Stmt := topS 43
abbrev s_Lrails : Stmt := topS 44
abbrev s_Ldrawn : Stmt := topS 45
abbrev s_Ltold : Stmt := topS 46
abbrev s_Lare_apart : Stmt := topS 47
abbrev s_law : Stmt := topS 48
theorem sc_is_integer : FnScope ["thing"] ["thing"] (defScope s_is_integer) := ⟨rfl, rfl, rfl, by decide +kernel, rfl, by decide +kernel, by decide +kernel⟩
theorem sc_is_between : FnScope ["thing", "least", "most"] ["thing", "least", "most"] (defScope s_is_between) := ⟨rfl, rfl, rfl, by decide +kernel, rfl, by decide +kernel, by decide +kernel⟩
theorem sc_is_index : FnScope ["thing", "many"] ["thing", "many"] (defScope s_is_index) := ⟨rfl, rfl, rfl, by decide +kernel, rfl, by decide +kernel, by decide +kernel⟩
theorem sc_check_number : FnScope ["thing", "least", "most"] ["thing", "least", "most"] (defScope s_check_number) := ⟨rfl, rfl, rfl, by decide +kernel, rfl, by decide +kernel, by decide +kernel⟩
theorem sc_is_lot : FnScope ["thing", "many", "last", "item"] ["thing", "many"] (defScope s_is_lot) := ⟨rfl, rfl, rfl, by decide +kernel, rfl, by decide +kernel, by decide +kernel⟩
theorem sc_mask_of : FnScope ["lot", "mask", "item"] ["lot"] (defScope s_mask_of) := ⟨rfl, rfl, rfl, by decide +kernel, rfl, by decide +kernel, by decide +kernel⟩
theorem sc_lot_of : FnScope ["mask", "found", "item"] ["mask"] (defScope s_lot_of) := ⟨rfl, rfl, rfl, by decide +kernel, rfl, by decide +kernel, by decide +kernel⟩
theorem sc_chosen : FnScope ["lot", "many", "found", "turn", "longer", "part", "item"] ["lot", "many"] (defScope s_chosen) := ⟨rfl, rfl, rfl, by decide +kernel, rfl, by decide +kernel, by decide +kernel⟩
theorem sc_are_arrows : FnScope ["many", "thing", "pair", "place"] ["many", "thing"] (defScope s_are_arrows) := ⟨rfl, rfl, rfl, by decide +kernel, rfl, by decide +kernel, by decide +kernel⟩
theorem sc_are_goals : FnScope ["many", "arrows", "thing", "reached"] ["many", "arrows", "thing"] (defScope s_are_goals) := ⟨rfl, rfl, rfl, by decide +kernel, rfl, by decide +kernel, by decide +kernel⟩
theorem sc_led_to : FnScope ["arrows", "begin", "let", "barred", "heads", "arrow", "tail", "head", "reached", "waiting"] ["arrows", "begin", "let", "barred"] (defScope s_led_to) := ⟨rfl, rfl, rfl, by decide +kernel, rfl, by decide +kernel, by decide +kernel⟩
theorem sc_Map_init : FnScope ["self", "many", "arrows", "goals"] ["self", "many", "arrows", "goals"] (defScope s_Map_init) := ⟨rfl, rfl, rfl, by decide +kernel, rfl, by decide +kernel, by decide +kernel⟩
theorem sc_Map_keep : FnScope ["self", "many", "arrows", "goals"] ["self", "many", "arrows", "goals"] (defScope s_Map_keep) := ⟨rfl, rfl, rfl, by decide +kernel, rfl, by decide +kernel, by decide +kernel⟩
theorem sc_check_one_goal : FnScope ["chart"] ["chart"] (defScope s_check_one_goal) := ⟨rfl, rfl, rfl, by decide +kernel, rfl, by decide +kernel, by decide +kernel⟩
theorem sc_longer_ways : FnScope ["chart", "way", "places", "found", "arrow", "tail", "head"] ["chart", "way", "places"] (defScope s_longer_ways) := ⟨rfl, rfl, rfl, by decide +kernel, rfl, by decide +kernel, by decide +kernel⟩
theorem sc_leads_on : FnScope ["chart", "places", "let", "place", "met", "at", "tail", "head"] ["chart", "places"] (defScope s_leads_on) := ⟨rfl, rfl, rfl, by decide +kernel, rfl, by decide +kernel, by decide +kernel⟩
theorem sc_ways_of : FnScope ["chart", "most", "found", "waiting", "way", "places"] ["chart", "most"] (defScope s_ways_of) := ⟨rfl, rfl, rfl, by decide +kernel, rfl, by decide +kernel, by decide +kernel⟩
theorem sc_is_way : FnScope ["chart", "thing", "places", "arrow", "tail", "head"] ["chart", "thing"] (defScope s_is_way) := ⟨rfl, rfl, rfl, by decide +kernel, rfl, by decide +kernel, by decide +kernel⟩
theorem sc_meeting : FnScope ["lot", "most", "every", "way", "arrow", "size", "arrows"] ["lot", "most"] (defScope s_meeting) := ⟨rfl, rfl, rfl, by decide +kernel, rfl, by decide +kernel, by decide +kernel⟩
theorem sc_met_by : FnScope ["chart", "lot", "most", "way"] ["chart", "lot", "most"] (defScope s_met_by) := ⟨rfl, rfl, rfl, by decide +kernel, rfl, by decide +kernel, by decide +kernel⟩
theorem sc_ways_enough : FnScope ["chart", "most", "every", "size", "numbers", "lot", "number"] ["chart", "most"] (defScope s_ways_enough) := ⟨rfl, rfl, rfl, by decide +kernel, rfl, by decide +kernel, by decide +kernel⟩
theorem sc_Lhand : FnScope ["_law_script", "_law_cells", "_law_cell"] ["_law_script"] (defScope s_Lhand) := ⟨rfl, rfl, rfl, by decide +kernel, rfl, by decide +kernel, by decide +kernel⟩
theorem sc_Ldraw : FnScope ["_law_hand_here", "_law_many", "_law_cell", "_law_digit", "_law_number"] ["_law_hand_here", "_law_many"] (defScope s_Ldraw) := ⟨rfl, rfl, rfl, by decide +kernel, rfl, by decide +kernel, by decide +kernel⟩
theorem sc_Lshuffled : FnScope ["_law_hand_here", "_law_things", "_law_over", "_law_found"] ["_law_hand_here", "_law_things"] (defScope s_Lshuffled) := ⟨rfl, rfl, rfl, by decide +kernel, rfl, by decide +kernel, by decide +kernel⟩
theorem sc_Lparts : FnScope ["_law_hand_here", "_law_places", "_law_arrows", "_law_most", "_law_many", "_law_goals", "_law_pairs", "_law_place", "_law_turn", "_law_way", "_law_one", "_law_other"] ["_law_hand_here", "_law_places", "_law_arrows", "_law_most"] (defScope s_Lparts) := ⟨rfl, rfl, rfl, by decide +kernel, rfl, by decide +kernel, by decide +kernel⟩
theorem sc_Ltail : FnScope ["_law_hand_here", "_law_pairs", "_law_goals", "_law_place", "_law_there", "_law_tail_here", "_law_head", "_law_one"] ["_law_hand_here", "_law_pairs", "_law_goals", "_law_place"] (defScope s_Ltail) := ⟨rfl, rfl, rfl, by decide +kernel, rfl, by decide +kernel, by decide +kernel⟩
theorem sc_Lrenamed : FnScope ["_law_hand_here", "_law_many", "_law_pairs", "_law_goals", "_law_number", "_law_arrows", "_law_one", "_law_other", "_law_goal"] ["_law_hand_here", "_law_many", "_law_pairs", "_law_goals"] (defScope s_Lrenamed) := ⟨rfl, rfl, rfl, by decide +kernel, rfl, by decide +kernel, by decide +kernel⟩
theorem sc_Lways : FnScope ["_law_parts_here", "_law_many", "_law_arrows", "_law_goals", "_law_found", "_law_waiting", "_law_at", "_law_way", "_law_places", "_law_k", "_law_tail_here", "_law_head"] ["_law_parts_here"] (defScope s_Lways) := ⟨rfl, rfl, rfl, by decide +kernel, rfl, by decide +kernel, by decide +kernel⟩
theorem sc_Lchosen : FnScope ["_law_many", "_law_size", "_law_found", "_law_turn", "_law_longer", "_law_lot", "_law_k"] ["_law_many", "_law_size"] (defScope s_Lchosen) := ⟨rfl, rfl, rfl, by decide +kernel, rfl, by decide +kernel, by decide +kernel⟩
theorem sc_Lmeeting : FnScope ["_law_every", "_law_many", "_law_most", "_law_size", "_law_lot", "_law_k", "_law_way"] ["_law_every", "_law_many", "_law_most"] (defScope s_Lmeeting) := ⟨rfl, rfl, rfl, by decide +kernel, rfl, by decide +kernel, by decide +kernel⟩
theorem sc_Lbundles : FnScope ["_law_hand_here", "_law_sizes", "_law_more", "_law_goal", "_law_pairs", "_law_k"] ["_law_hand_here", "_law_sizes", "_law_more"] (defScope s_Lbundles) := ⟨rfl, rfl, rfl, by decide +kernel, rfl, by decide +kernel, by decide +kernel⟩
theorem sc_Lrails : FnScope ["_law_hand_here", "_law_pairs", "_law_last", "_law_turn", "_law_at", "_law_step", "_law_one"] ["_law_hand_here"] (defScope s_Lrails) := ⟨rfl, rfl, rfl, by decide +kernel, rfl, by decide +kernel, by decide +kernel⟩
theorem sc_Ldrawn : FnScope ["_law_hand_here", "_law_which", "_law_sizes"] ["_law_hand_here"] (defScope s_Ldrawn) := ⟨rfl, rfl, rfl, by decide +kernel, rfl, by decide +kernel, by decide +kernel⟩
theorem sc_Ltold : FnScope ["_law_chart", "_law_most", "_law_told_here", "e"] ["_law_chart", "_law_most"] (defScope s_Ltold) := ⟨rfl, rfl, rfl, by decide +kernel, rfl, by decide +kernel, by decide +kernel⟩
theorem sc_Lare_apart : FnScope ["_law_parts_here", "_law_every", "_law_told_here", "_law_most", "_law_way", "_law_arrows", "_law_k"] ["_law_parts_here", "_law_every", "_law_told_here", "_law_most"] (defScope s_Lare_apart) := ⟨rfl, rfl, rfl, by decide +kernel, rfl, by decide +kernel, by decide +kernel⟩
theorem sc_law : FnScope ["_law_script", "_law_hand_here", "_law_parts_here", "_law_many", "_law_chart", "_law_every", "_law_most", "_law_single", "_law_way", "_law_word", "_law_told_here", "_law_kept", "_law_at", "_law_fewer"] ["_law_script"] (defScope s_law) := ⟨rfl, rfl, rfl, by decide +kernel, rfl, by decide +kernel, by decide +kernel⟩
/-! the scopes of comprehensions that hold another -/
def scB_meeting : Scope := { kind := .function, names := [(".0", .local), ("way", .cell), ("any", .globalImplicit), ("arrows", .free)], isGenerator := false, isCoroutine := false }
def scB_Lmeeting : Scope := { kind := .function, names := [(".0", .local), ("_law_way", .cell), ("any", .globalImplicit), ("_law_lot", .free)], isGenerator := false, isCoroutine := false }
def scB_Lare_apart : Scope := { kind := .function, names := [(".0", .local), ("_law_k", .cell), ("any", .globalImplicit), ("_law_told_here", .free)], isGenerator := false, isCoroutine := false }
/-- the def x of the text, as the top has left it -/
structure DefAt (K : PySem.W.Frag) (mg : Str → Option Value) (x : Str) (st : Stmt) : Prop where
  ex : ∃ (f : Addr) (fd : FuncData), mg x = some (.ref f) ∧ Fun K x x st f fd
/-- what the top has written -/
structure Tx (K : PySem.W.Frag) (mg : Str → Option Value) : Prop where
  d_is_integer : DefAt K mg "is_integer" s_is_integer
  d_is_between : DefAt K mg "is_between" s_is_between
  d_is_index : DefAt K mg "is_index" s_is_index
  d_check_number : DefAt K mg "check_number" s_check_number
  d_is_lot : DefAt K mg "is_lot" s_is_lot
  d_mask_of : DefAt K mg "mask_of" s_mask_of
  d_lot_of : DefAt K mg "lot_of" s_lot_of
  d_chosen : DefAt K mg "chosen" s_chosen
  d_are_arrows : DefAt K mg "are_arrows" s_are_arrows
  d_are_goals : DefAt K mg "are_goals" s_are_goals
  d_led_to : DefAt K mg "led_to" s_led_to
  d_check_one_goal : DefAt K mg "check_one_goal" s_check_one_goal
  d_longer_ways : DefAt K mg "longer_ways" s_longer_ways
  d_leads_on : DefAt K mg "leads_on" s_leads_on
  d_ways_of : DefAt K mg "ways_of" s_ways_of
  d_is_way : DefAt K mg "is_way" s_is_way
  d_meeting : DefAt K mg "meeting" s_meeting
  d_met_by : DefAt K mg "met_by" s_met_by
  d_ways_enough : DefAt K mg "ways_enough" s_ways_enough
  d_Lhand : DefAt K mg "_law_hand" s_Lhand
  d_Ldraw : DefAt K mg "_law_draw" s_Ldraw
  d_Lshuffled : DefAt K mg "_law_shuffled" s_Lshuffled
  d_Lparts : DefAt K mg "_law_parts" s_Lparts
  d_Ltail : DefAt K mg "_law_tail" s_Ltail
  d_Lrenamed : DefAt K mg "_law_renamed" s_Lrenamed
  d_Lways : DefAt K mg "_law_ways" s_Lways
  d_Lchosen : DefAt K mg "_law_chosen" s_Lchosen
  d_Lmeeting : DefAt K mg "_law_meeting" s_Lmeeting
  d_Lbundles : DefAt K mg "_law_bundles" s_Lbundles
  d_Lrails : DefAt K mg "_law_rails" s_Lrails
  d_Ldrawn : DefAt K mg "_law_drawn" s_Ldrawn
  d_Ltold : DefAt K mg "_law_told" s_Ltold
  d_Lare_apart : DefAt K mg "_law_are_apart" s_Lare_apart
  d_law : DefAt K mg "law" s_law
  b_len : mg "len" = none
  b_range : mg "range" = none
  b_isinstance : mg "isinstance" = none
  b_int : mg "int" = none
  b_bool : mg "bool" = none
  b_tuple : mg "tuple" = none
  b_list : mg "list" = none
  b_sorted : mg "sorted" = none
  b_all : mg "all" = none
  b_any : mg "any" = none
  b_enumerate : mg "enumerate" = none
  b_abs : mg "abs" = none
  b_max : mg "max" = none
  b_min : mg "min" = none
  b_sum : mg "sum" = none
  b_repr : mg "repr" = none
  c_MOST_PLACES : ∃ t, mg "MOST_PLACES" = some (.int 40 t)
  c_MOST_ARROWS : ∃ t, mg "MOST_ARROWS" = some (.int 60 t)
  c_MOST_GONE : ∃ t, mg "MOST_GONE" = some (.int 12 t)
end Ut
/-! How plain data stand in the heap. -/
namespace Ut
open PySem L2
/-! ### two lists in step -/
inductive All2 {α β : Type} (R : α → β → Prop) : List α → List β → Prop
  | nil : All2 R [] []
  | cons {a b as bs} : R a b → All2 R as bs → All2 R (a :: as) (b :: bs)
namespace All2
variable {α β : Type} {R S : α → β → Prop}
theorem len : ∀ {as : List α} {bs : List β}, All2 R as bs → as.length = bs.length
  | _, _, .nil => rfl
  | _, _, .cons _ t => congrArg (· + 1) (len t)
theorem imp (h : ∀ a b, R a b → S a b) : ∀ {as : List α} {bs : List β}, All2 R as bs → All2 S as bs
  | _, _, .nil => .nil
  | _, _, .cons r t => .cons (h _ _ r) (imp h t)
theorem app : ∀ {as as' : List α} {bs bs' : List β}, All2 R as bs → All2 R as' bs' → All2 R (as ++ as') (bs ++ bs')
  | _, _, _, _, .nil, s => s
  | _, _, _, _, .cons r t, s => .cons r (app t s)
theorem snoc {as : List α} {bs : List β} {a : α} {b : β} (h : All2 R as bs) (r : R a b) : All2 R (as ++ [a]) (bs ++ [b]) := h.app (.cons r .nil)
theorem get : ∀ {as : List α} {bs : List β} {i : Nat} {a : α}, All2 R as bs → as[i]? = some a → ∃ b, bs[i]? = some b ∧ R a b
  | _, _, _, _, .nil, e => by simp at e
  | _, _, 0, _, .cons r _, e => by
    simp at e
    subst e
    exact ⟨_, rfl, r⟩
  | _, _, i + 1, _, .cons _ t, e => get (i := i) t (by simpa using e)
theorem get' : ∀ {as : List α} {bs : List β} {i : Nat} {b : β}, All2 R as bs → bs[i]? = some b → ∃ a, as[i]? = some a ∧ R a b
  | _, _, _, _, .nil, e => by simp at e
  | _, _, 0, _, .cons r _, e => by
    simp at e
    subst e
    exact ⟨_, rfl, r⟩
  | _, _, i + 1, _, .cons _ t, e => get' (i := i) t (by simpa using e)
theorem take : ∀ {as : List α} {bs : List β} (n : Nat), All2 R as bs → All2 R (as.take n) (bs.take n)
  | _, _, 0, _ => .nil
  | _, _, _ + 1, .nil => .nil
  | _, _, n + 1, .cons r t => .cons r (take n t)
theorem drop : ∀ {as : List α} {bs : List β} (n : Nat), All2 R as bs → All2 R (as.drop n) (bs.drop n)
  | _, _, 0, h => h
  | _, _, _ + 1, .nil => .nil
  | _, _, n + 1, .cons _ t => drop n t
theorem dropLast {as : List α} {bs : List β} (h : All2 R as bs) : All2 R as.dropLast bs.dropLast := by
  rw [List.dropLast_eq_take, List.dropLast_eq_take, h.len]
  exact h.take _
theorem eraseIdx : ∀ {as : List α} {bs : List β} (n : Nat), All2 R as bs → All2 R (as.eraseIdx n) (bs.eraseIdx n)
  | _, _, _, .nil => .nil
  | _, _, 0, .cons _ t => t
  | _, _, n + 1, .cons r t => .cons r (eraseIdx n t)
theorem mem : ∀ {as : List α} {bs : List β} {a : α}, All2 R as bs → a ∈ as → ∃ b, b ∈ bs ∧ R a b
  | _, _, _, .nil, h => by cases h
  | _, _, _, .cons r t, h => by
    rcases List.mem_cons.mp h with e | h
    · exact ⟨_, List.mem_cons_self, e ▸ r⟩
    · obtain ⟨b, hb, q⟩ := mem t h
      exact ⟨b, List.mem_cons_of_mem _ hb, q⟩
theorem nil_left {bs : List β} (h : All2 R [] bs) : bs = [] := by cases h; rfl
theorem nil_right {as : List α} (h : All2 R as []) : as = [] := by cases h; rfl
/-- the tuples' side is a map -/
theorem of_map {γ : Type} {f : γ → α} {g : γ → β} : ∀ {cs : List γ}, (∀ c ∈ cs, R (f c) (g c)) → All2 R (cs.map f) (cs.map g)
  | [], _ => .nil
  | c :: cs, h => .cons (h c List.mem_cons_self) (of_map fun x hx => h x (List.mem_cons_of_mem _ hx))
end All2

/-! ### heaps -/
/-- the tuples stand as before -/
def Kt (H H' : Hp) : Prop := ∀ b xs, H b = some (.tup xs) → H' b = some (.tup xs)
theorem Kt.refl (H : Hp) : Kt H H := fun _ _ h => h
theorem Kt.trans {H H1 H2 : Hp} (a : Kt H H1) (b : Kt H1 H2) : Kt H H2 := fun c o h => b c o (a c o h)
theorem Kt.same {H H' : Hp} (s : Same H H') : Kt H H' := fun b xs h => s b _ h
theorem Kt.new {H : Hp} {p : Addr} {o : HO} (h : H p = none) : Kt H (upd H p o) := fun b xs e => by
  rw [upd_ne (ne_of_none e h)]
  exact e
theorem Kt.put {H : Hp} {p : Addr} {o u : HO} (h : H p = some u) (hu : ∀ xs, u ≠ .tup xs) : Kt H (upd H p o) := fun b xs e => by
  rw [upd_ne (ne_of e h (fun z => hu xs z.symm))]
  exact e
theorem Kt.lst {H : Hp} {p : Addr} {o : HO} {ys : List V} (h : H p = some (.lst ys)) : Kt H (upd H p o) := Kt.put h fun _ z => by cases z
theorem Kt.dK {H : Hp} {p : Addr} {o : HO} {ys : List (Key × V)} (h : H p = some (.dK ys)) : Kt H (upd H p o) := Kt.put h fun _ z => by cases z
theorem _root_.L2.Same.new {H : Hp} {p : Addr} {o : HO} (h : H p = none) : Same H (upd H p o) := fun a u e => by
  rw [upd_ne (ne_of_none e h)]
  exact e
/-- an object that H does not know may change -/
theorem _root_.L2.Same.mut {H H' : Hp} {p : Addr} {o : HO} (e : Same H H') (h : H p = none) : Same H (upd H' p o) := fun a u ha => by
  rw [upd_ne (ne_of_none ha h)]
  exact e a u ha
/-- all but h stand as before -/
def SameB (h : Addr) (H H' : Hp) : Prop := ∀ b o, H b = some o → b ≠ h → H' b = some o
theorem SameB.refl {h : Addr} (H : Hp) : SameB h H H := fun _ _ e _ => e
theorem SameB.trans {h : Addr} {H H1 H2 : Hp} (a : SameB h H H1) (b : SameB h H1 H2) : SameB h H H2 := fun c o e n => b c o (a c o e n) n
theorem SameB.of {h : Addr} {H H' : Hp} (s : Same H H') : SameB h H H' := fun b o e _ => s b o e
theorem SameB.mut {h : Addr} {H H' : Hp} {p : Addr} {o : HO} (e : SameB h H H') (hp : H p = none) : SameB h H (upd H' p o) := fun a u ha n => by
  rw [upd_ne (ne_of_none ha hp)]
  exact e a u ha n
theorem SameB.put {h : Addr} {H H' : Hp} {o : HO} (e : SameB h H H') : SameB h H (upd H' h o) := fun a u ha n => by
  rw [upd_ne n]
  exact e a u ha n
theorem SameB.free {h : Addr} {H H' : Hp} (e : SameB h H H') {p : Addr} (hp : H' p = none) (hn : p ≠ h) : H p = none := by
  cases q : H p with
  | none => rfl
  | some o =>
    rw [e p o q hn] at hp
    cases hp
theorem SameB.kt {h : Addr} {H H' : Hp} {ys : List V} (e : SameB h H H') (hh : H h = some (.lst ys)) : Kt H H' := fun b xs q => e b _ q (ne_of q hh (by intro z; cases z))

/-! ### numbers, tuples of numbers -/
def iVs (ns : List Nat) : List V := ns.map fun (n : Nat) => V.int (n : Int)
theorem iVs_len (ns : List Nat) : (iVs ns).length = ns.length := List.length_map _
theorem iVs_app (ns ms : List Nat) : iVs (ns ++ ms) = iVs ns ++ iVs ms := List.map_append
theorem iVs_get {ns : List Nat} {i : Nat} : (iVs ns)[i]? = (ns[i]?).map fun (n : Nat) => V.int (n : Int) := by
  unfold iVs
  rw [List.getElem?_map]
theorem iVs_ints (ns : List Nat) : iVs ns = (ns.map fun (n : Nat) => (n : Int)).map V.int := by
  unfold iVs
  rw [List.map_map]
  rfl
theorem iVs_inj : ∀ {ns ms : List Nat}, iVs ns = iVs ms → ns = ms
  | [], [], _ => rfl
  | [], _ :: _, h => by cases h
  | _ :: _, [], h => by cases h
  | n :: ns, m :: ms, h => by
    have h1 : V.int (n : Int) = V.int (m : Int) ∧ iVs ns = iVs ms := ⟨(List.cons.inj h).1, (List.cons.inj h).2⟩
    have h2 : (n : Int) = (m : Int) := V.int.inj h1.1
    rw [iVs_inj h1.2, show n = m by omega]
theorem iVs_flat (ns : List Nat) : (iVs ns).all flatV = true := by
  rw [List.all_eq_true]
  intro x hx
  obtain ⟨n, _, rfl⟩ := List.mem_map.mp hx
  rfl
/-- v is a tuple of these numbers -/
def TN (H : Hp) (v : V) (ns : List Nat) : Prop := ∃ a, v = .ref a ∧ H a = some (.tup (iVs ns))
theorem TN.kt {H H' : Hp} {v : V} {ns : List Nat} (k : Kt H H') (h : TN H v ns) : TN H' v ns := by
  obtain ⟨a, e, q⟩ := h
  exact ⟨a, e, k a _ q⟩
theorem TN.new {H : Hp} {p : Addr} {ns : List Nat} : TN (upd H p (.tup (iVs ns))) (.ref p) ns := ⟨p, rfl, upd_same⟩
abbrev TNs (H : Hp) (xs : List V) (L : List (List Nat)) : Prop := All2 (TN H) xs L
theorem TNs.kt {H H' : Hp} {xs : List V} {L : List (List Nat)} (k : Kt H H') (h : TNs H xs L) : TNs H' xs L := h.imp fun _ _ => TN.kt k
/-- an arrow -/
def AN (H : Hp) (v : V) (e : Nat × Nat) : Prop := TN H v [e.1, e.2]
theorem AN.kt {H H' : Hp} {v : V} {e : Nat × Nat} (k : Kt H H') (h : AN H v e) : AN H' v e := TN.kt k h
abbrev ANs (H : Hp) (xs : List V) (es : Arr) : Prop := All2 (AN H) xs es
theorem ANs.kt {H H' : Hp} {xs : List V} {es : Arr} (k : Kt H H') (h : ANs H xs es) : ANs H' xs es := h.imp fun _ _ => AN.kt k
/-- v is a tuple of these arrows -/
def ArrAt (H : Hp) (v : V) (es : Arr) : Prop := ∃ a xs, v = .ref a ∧ H a = some (.tup xs) ∧ ANs H xs es
theorem ArrAt.kt {H H' : Hp} {v : V} {es : Arr} (k : Kt H H') (h : ArrAt H v es) : ArrAt H' v es := by
  obtain ⟨a, xs, e, q, r⟩ := h
  exact ⟨a, xs, e, k a _ q, r.kt k⟩
/-- a beginning: a pair (way, places) -/
def BN (H : Hp) (v : V) (x : List Nat × List Nat) : Prop := ∃ a w p, v = .ref a ∧ H a = some (.tup [w, p]) ∧ TN H w x.1 ∧ TN H p x.2
theorem BN.kt {H H' : Hp} {v : V} {x : List Nat × List Nat} (k : Kt H H') (h : BN H v x) : BN H' v x := by
  obtain ⟨a, w, p, e, q, r, s⟩ := h
  exact ⟨a, w, p, e, k a _ q, r.kt k, s.kt k⟩
abbrev BNs (H : Hp) (xs : List V) (L : List (List Nat × List Nat)) : Prop := All2 (BN H) xs L
theorem BNs.kt {H H' : Hp} {xs : List V} {L : List (List Nat × List Nat)} (k : Kt H H') (h : BNs H xs L) : BNs H' xs L := h.imp fun _ _ => BN.kt k
/-- a list at p of tuples of numbers -/
def LN (H : Hp) (p : Addr) (L : List (List Nat)) : Prop := ∃ xs, H p = some (.lst xs) ∧ TNs H xs L

/-! ### what stands where -/
theorem es_get {es : Arr} {k : Nat} (h : k < es.length) : es[k]? = some (tl es k, hd es k) := by
  unfold tl hd
  rw [List.getD_eq_getElem?_getD, List.getElem?_eq_getElem h]
  rfl
theorem last_get {α : Type} {l : List α} {z : α} (h : l.getLast? = some z) : l[l.length - 1]? = some z := by
  rw [← List.getLast?_eq_getElem?]
  exact h
theorem iVs_last {ns : List Nat} {z : Nat} (h : ns.getLast? = some z) : (iVs ns).getLast? = some (V.int (z : Int)) := by
  unfold iVs
  rw [List.getLast?_map, h]
  rfl
theorem at_neg {xs : List V} {v : V} (h : xs.getLast? = some v) : atI xs (-1) = some v := by
  obtain ⟨l', rfl⟩ : ∃ l', xs = l' ++ [v] := List.getLast?_eq_some_iff.mp h
  exact atI_last _ _
/-! ### a number among numbers -/
theorem inV_iff {n : Nat} : ∀ {ns : List Nat}, inV (.int (n : Int)) (iVs ns) = ns.contains n
  | [] => rfl
  | m :: ns => by
    have ih := inV_iff (n := n) (ns := ns)
    show inV (.int (n : Int)) (V.int (m : Int) :: iVs ns) = _
    unfold inV at ih ⊢
    rw [List.any_cons, ih, List.contains_cons]
    congr 1
    show ((m : Int) == (n : Int)) = _
    by_cases h : n = m
    · subst h
      simp
    · have h2 : ¬ (m : Int) = (n : Int) := by omega
      rw [beq_eq_false_iff_ne.mpr h2]
      exact (beq_eq_false_iff_ne.mpr h).symm
end Ut
/-! A def's contract by its name, and the call by it. -/
namespace Ut
open PySem PySem.Spec PyProof.Rows L2
/-- the def x keeps the promise sp -/
structure Cd (P : Program) (w : World) (K : PySem.W.Frag) (mg : Str → Option Value) (base : Heap) (CX : CXT) (x : Str) (k : Nat) (ps : List Str) (sp : Sp) : Prop where
  ex : ∃ (f : Addr) (fd : FuncData), mg x = some (.ref f) ∧ PySem.W.keepIn K (.ref f) = true ∧ Binds K fd ps [] ∧ FnOk P w K mg base CX k f fd ps sp
theorem Cd.of {P : Program} {w : World} {K : PySem.W.Frag} {mg : Str → Option Value} {base : Heap} {CX : CXT} {x : Str} {k : Nat} {ps : List Str} {sp : Sp} {st : Stmt} (D : DefAt K mg x st)
    (hb : ∀ (kV doc pm : Value) (an : Option Addr) (cdv ct : Value) (us : List Value), us.length = ps.length → bindArgs (PySem.W.fnOf x x (defArgs st) (defBody st) (defScope st) .none kV doc pm an cdv ct) ⟨us, []⟩ = pure (ps.zip us))
    (h : ∀ (f : Addr) (fd : FuncData), Fun K x x st f fd → FnOk P w K mg base CX k f fd ps sp) : Cd P w K mg base CX x k ps sp := by
  obtain ⟨f, fd, hm, F⟩ := D.ex
  exact ⟨f, fd, hm, F.kp, F.binds hb, h f fd F⟩
section
variable {X : Cx} {CX : CXT} {k : Nat} {ps : List Str} {sp : Sp} {E : XK} {x : Str} {p pos : Pos} {e : Expr} {es : List Expr} {t : TA}
theorem pe_callD (D : Cd X.prog X.w X.K X.mg X.base CX x k ps sp) (hr : Room k X.A) (hx : Passes CX X E) (ha : PA X (e :: es) t) (hg : Gl X x := by rfl) (hdb : (x == ("__debug__" : Str)) = false := by decide)
    (he : starEach (e :: es) X.env = (false, eval e X.env) :: starEach es X.env := by rfl) (hpl : (backTo pos (starEach es X.env)).any (·.1) = false := by rfl) : PE X (.Call (.Name x p) (e :: es) [] pos) (tCall sp [] E t) := by
  obtain ⟨f, fd, hm, hk, hb, F⟩ := D.ex
  exact pe_call F hr hg hm hk hb .nil hx ha hdb he hpl
/-- .. that may raise -/
theorem pe_callDS {E : L2.St → XK} (D : Cd X.prog X.w X.K X.mg X.base CX x k ps sp) (hr : Room k X.A) (hx : ∀ σ, PassesAt CX X σ (E σ)) (ha : PA X (e :: es) t) (hg : Gl X x := by rfl) (hdb : (x == ("__debug__" : Str)) = false := by decide)
    (he : starEach (e :: es) X.env = (false, eval e X.env) :: starEach es X.env := by rfl) (hpl : (backTo pos (starEach es X.env)).any (·.1) = false := by rfl) : PE X (.Call (.Name x p) (e :: es) [] pos) (tCallS sp E t) := by
  obtain ⟨f, fd, hm, hk, hb, F⟩ := D.ex
  exact pe_callS F hr hg hm hk hb hx ha hdb he hpl
end
/-! ### built-ins whose readings have names -/
def rLenU (K : PySem.W.Frag) : List V → Hp → VK → Prop := fun xs H Q => ∃ p ys, xs = [.ref p] ∧ (SqL K H p ys ∨ SqT K H p ys) ∧ Q (.int ys.length) H
theorem call_lenU {X : Cx} : CallR X (.builtin "len") (rLenU X.K) := call_len_seq
def rAbsU : List V → Hp → VK → Prop := fun xs H Q => ∃ i, xs = [.int i] ∧ Q (.int (if i < 0 then -i else i)) H
theorem call_absU {X : Cx} : CallR X (.builtin "abs") rAbsU := call_abs
def rIntU : List V → Hp → VK → Prop := fun xs H Q => (∃ i, xs = [.int i] ∧ Q (.int i) H) ∨ ∃ k, xs = [.bl k] ∧ Q (.int (if k then 1 else 0)) H
theorem call_intU {X : Cx} : CallR X (.type "int") rIntU := call_int1
theorem kitInt {K : PySem.W.Frag} {H : Hp} {i : Int} : TyX K H (.int i) (.type "int") := .base (.int i)
end Ut
namespace Ut
open PySem PySem.Spec PyProof.Rows L2
theorem line_lt {n : Nat} (h : n ≤ 4000000) : n < sizeLine := by
  rw [sizeLine_eq]
  omega
theorem line_le {n : Nat} (h : n ≤ 4000000) : n ≤ sizeLine := Nat.le_of_lt (line_lt h)
/-! ### comprehensions by what they have put out -/
section
variable {K : PySem.W.Frag} {a : Addr} {xs : List V} {g : TG} {tt : TT} {te : TE} {vs : List Nat} {σ : L2.St} {H1 : Hp} {D : Addr} {Qd : Hp → Prop} {β : Type}
/-- the turn's goal, N behind it -/
abbrev LcT (g : TG) (tt : TT) (te : TE) (vs : List Nat) (σ : L2.St) (D : Addr) (x : V) (H : Hp) (N : Hp → Prop) : Prop :=
  g x (wipe σ vs) H fun σ2 H2 => wipe σ2 vs = wipe σ vs ∧ tt σ2 H2 fun b H3 => if b = true then te σ2 H3 fun y H4 => ∃ acc, H4 D = some (.lst acc) ∧ acc.length < sizeLine ∧ N (upd H4 D (.lst (acc ++ [y]))) else N H3
/-- what may be said at a turn's end -/
structure LcN (R : Hp → V → β → Prop) (o o' : List β) (D : Addr) (H : Hp) (N : Hp → Prop) : Prop where
  yes : ∀ H4 y z, Same H H4 → R H4 y z → o' = o ++ [z] → ∃ acc, H4 D = some (.lst acc) ∧ acc.length < sizeLine ∧ N (upd H4 D (.lst (acc ++ [y])))
  no : ∀ H3, Same H H3 → o' = o → N H3
def LcP (R : Hp → V → β → Prop) (out : Nat → List β) (H1 : Hp) (D : Addr) (i : Nat) (H : Hp) : Prop := Same H1 H ∧ ∃ acc, H D = some (.lst acc) ∧ All2 (R H) acc (out i)
theorem lcP_turn {R : Hp → V → β → Prop} (hR : ∀ H H' v b, Kt H H' → R H v b → R H' v b) {out : Nat → List β} (hD : H1 D = none) (hz : ∀ i, (out i).length < 4000000) {i : Nat} {H : Hp} (p : LcP R out H1 D i H) : LcN R (out i) (out (i + 1)) D H (LcP R out H1 D (i + 1)) := by
  obtain ⟨s, acc, hacc, r⟩ := p
  refine ⟨fun H4 y z s4 ry e => ?_, fun H3 s3 e => ⟨s.trans s3, acc, s3 _ _ hacc, ?_⟩⟩
  · have h4 := s4 _ _ hacc
    refine ⟨acc, h4, line_lt (by rw [r.len]; exact Nat.le_of_lt (hz i)), (s.trans s4).mut hD, acc ++ [y], upd_same, ?_⟩
    rw [e]
    have k : Kt H4 (upd H4 D (.lst (acc ++ [y]))) := Kt.lst h4
    exact (r.imp fun v b q => hR _ _ v b ((Kt.same s4).trans k) q).snoc (hR _ _ _ _ k ry)
  · rw [e]
    exact r.imp fun v b q => hR _ _ v b (Kt.same s3) q
theorem lcT {R : Hp → V → β → Prop} (hR : ∀ H H' v b, Kt H H' → R H v b → R H' v b) (out : Nat → List β) (hD : H1 D = none) (ha : H1 a = some (.tup xs)) (h0 : out 0 = []) (hz : ∀ i, (out i).length < 4000000)
    (hs : ∀ i x H (N : Hp → Prop), xs[i]? = some x → Same H1 H → LcN R (out i) (out (i + 1)) D H N → LcT g tt te vs σ D x H N)
    (hd : ∀ H xs', Same H1 H → H D = some (.lst xs') → All2 (R H) xs' (out xs.length) → Qd H) :
    ∃ W : Nat → Nat → Hp → Prop, (∃ m, W 0 m (upd H1 D (.lst []))) ∧ ∀ i m H, W i m H →
      ((Itt K a).stop i H ∧ Qd H) ∨ ((Itt K a).go i H ∧ ∃ Nx : Hp → Prop, (∀ H', Nx H' → ∃ m', m' < m ∧ W (i + 1) m' H') ∧ ∀ x H', (Itt K a).yld i H x H' → g x (wipe σ vs) H' fun σ2 H2 => wipe σ2 vs = wipe σ vs ∧ tt σ2 H2 fun b H3 =>
        if b = true then te σ2 H3 fun y H4 => ∃ acc, H4 D = some (.lst acc) ∧ acc.length < sizeLine ∧ Nx (upd H4 D (.lst (acc ++ [y]))) else Nx H3) :=
  lc_tup (K := K) (a := a) (xs := xs) (LcP R out H1 D) ⟨Same.new hD, [], upd_same, by rw [h0]; exact .nil⟩ (fun i H _ p => SqT.of (p.1 _ _ ha)) (fun i x H hi p => hs i x H _ hi p.1 (lcP_turn hR hD hz p))
    (fun H p => let ⟨s, acc, h1, h2⟩ := p; hd H acc s h1 h2)
theorem lcL {R : Hp → V → β → Prop} (hR : ∀ H H' v b, Kt H H' → R H v b → R H' v b) (out : Nat → List β) (hD : H1 D = none) (ha : SqL K H1 a xs) (h0 : out 0 = []) (hz : ∀ i, (out i).length < 4000000)
    (hs : ∀ i x H (N : Hp → Prop), xs[i]? = some x → Same H1 H → LcN R (out i) (out (i + 1)) D H N → LcT g tt te vs σ D x H N)
    (hd : ∀ H xs', Same H1 H → H D = some (.lst xs') → All2 (R H) xs' (out xs.length) → Qd H) :
    ∃ W : Nat → Nat → Hp → Prop, (∃ m, W 0 m (upd H1 D (.lst []))) ∧ ∀ i m H, W i m H →
      ((Itl K a).stop i H ∧ Qd H) ∨ ((Itl K a).go i H ∧ ∃ Nx : Hp → Prop, (∀ H', Nx H' → ∃ m', m' < m ∧ W (i + 1) m' H') ∧ ∀ x H', (Itl K a).yld i H x H' → g x (wipe σ vs) H' fun σ2 H2 => wipe σ2 vs = wipe σ vs ∧ tt σ2 H2 fun b H3 =>
        if b = true then te σ2 H3 fun y H4 => ∃ acc, H4 D = some (.lst acc) ∧ acc.length < sizeLine ∧ Nx (upd H4 D (.lst (acc ++ [y]))) else Nx H3) :=
  lc_list (K := K) (a := a) (xs := xs) (LcP R out H1 D) ⟨Same.new hD, [], upd_same, by rw [h0]; exact .nil⟩ (fun i H _ p => p.1.seq ha) (fun i x H hi p => hs i x H _ hi p.1 (lcP_turn hR hD hz p))
    (fun H p => let ⟨s, acc, h1, h2⟩ := p; hd H acc s h1 h2)
theorem lcR {lo : Int} {n : Nat} {R : Hp → V → β → Prop} (hR : ∀ H H' v b, Kt H H' → R H v b → R H' v b) (out : Nat → List β) (hD : H1 D = none) (h0 : out 0 = []) (hz : ∀ i, (out i).length < 4000000)
    (hs : ∀ i H (N : Hp → Prop), i < n → Same H1 H → LcN R (out i) (out (i + 1)) D H N → LcT g tt te vs σ D (.int (lo + i)) H N)
    (hd : ∀ H xs', Same H1 H → H D = some (.lst xs') → All2 (R H) xs' (out n) → Qd H) :
    ∃ W : Nat → Nat → Hp → Prop, (∃ m, W 0 m (upd H1 D (.lst []))) ∧ ∀ i m H, W i m H →
      ((Itr lo n).stop i H ∧ Qd H) ∨ ((Itr lo n).go i H ∧ ∃ Nx : Hp → Prop, (∀ H', Nx H' → ∃ m', m' < m ∧ W (i + 1) m' H') ∧ ∀ x H', (Itr lo n).yld i H x H' → g x (wipe σ vs) H' fun σ2 H2 => wipe σ2 vs = wipe σ vs ∧ tt σ2 H2 fun b H3 =>
        if b = true then te σ2 H3 fun y H4 => ∃ acc, H4 D = some (.lst acc) ∧ acc.length < sizeLine ∧ Nx (upd H4 D (.lst (acc ++ [y]))) else Nx H3) :=
  lc_range (lo := lo) (n := n) (LcP R out H1 D) ⟨Same.new hD, [], upd_same, by rw [h0]; exact .nil⟩ (fun i H hi p => hs i H _ hi p.1 (lcP_turn hR hD hz p))
    (fun H p => let ⟨s, acc, h1, h2⟩ := p; hd H acc s h1 h2)
end
theorem yesGo {σ : L2.St} {H : Hp} {A B : Hp → Prop} (h : A H) : tYes σ H (fun b H3 => if b = true then A H3 else B H3) := by
  show (if true = true then A H else B H)
  rw [if_pos rfl]
  exact h
/-- put out so far: what of the first i items passes, by f -/
def outF {α β : Type} (l : List α) (p : α → Bool) (f : α → β) (i : Nat) : List β := ((l.take i).filter p).map f
theorem outF_0 {α β : Type} (l : List α) (p : α → Bool) (f : α → β) : outF l p f 0 = [] := rfl
theorem outF_yes {α β : Type} {l : List α} {p : α → Bool} {f : α → β} {i : Nat} {x : α} (h : l[i]? = some x) (hp : p x = true) : outF l p f (i + 1) = outF l p f i ++ [f x] := by
  unfold outF
  rw [List.take_add_one, h, List.filter_append, List.map_append]
  show _ ++ List.map f (List.filter p [x]) = _
  rw [List.filter_cons_of_pos hp]
  rfl
theorem outF_no {α β : Type} {l : List α} {p : α → Bool} {f : α → β} {i : Nat} {x : α} (h : l[i]? = some x) (hp : p x = false) : outF l p f (i + 1) = outF l p f i := by
  unfold outF
  rw [List.take_add_one, h, List.filter_append, List.map_append]
  show _ ++ List.map f (List.filter p [x]) = _
  rw [List.filter_cons_of_neg (by simp [hp])]
  show _ ++ [] = _
  rw [List.append_nil]
theorem outF_all {α β : Type} {l : List α} {p : α → Bool} {f : α → β} {n : Nat} (h : l.length ≤ n) : outF l p f n = (l.filter p).map f := by
  unfold outF
  rw [List.take_of_length_le h]
theorem outF_len {α β : Type} (l : List α) (p : α → Bool) (f : α → β) (i : Nat) : (outF l p f i).length ≤ l.length := by
  unfold outF
  rw [List.length_map]
  refine Nat.le_trans (List.length_filter_le _ _) ?_
  rw [List.length_take]
  omega
/-- truth values -/
def BV (_ : Hp) (v : V) (b : Bool) : Prop := v = .bl b
theorem BV.kt (H H' : Hp) (v : V) (b : Bool) (_ : Kt H H') (h : BV H v b) : BV H' v b := h
theorem bv_map {H : Hp} : ∀ {xs : List V} {bs : List Bool}, All2 (BV H) xs bs → xs = bs.map V.bl
  | _, _, .nil => rfl
  | _, _, .cons r t => by
    rw [bv_map t]
    cases r
    rfl
/-- numbers -/
def NV (_ : Hp) (v : V) (n : Nat) : Prop := v = .int (n : Int)
theorem NV.kt (H H' : Hp) (v : V) (b : Nat) (_ : Kt H H') (h : NV H v b) : NV H' v b := h
theorem nv_map {H : Hp} : ∀ {xs : List V} {ns : List Nat}, All2 (NV H) xs ns → xs = iVs ns
  | _, _, .nil => rfl
  | _, _, .cons r t => by
    rw [nv_map t]
    cases r
    rfl
theorem TN.kt' (H H' : Hp) (v : V) (b : List Nat) (k : Kt H H') (h : TN H v b) : TN H' v b := h.kt k
/-- part + (item,) -/
theorem cat_one {K : PySem.W.Frag} {H : Hp} {a : Addr} {ns : List Nat} {n : Nat} {Q : VK} (ha : H a = some (.tup (iVs ns))) (hz : ns.length ≤ 1000) (q : ∀ v H', Same H H' → TN H' v (ns ++ [n]) → Q v H') :
    ([V.int (n : Int)] : List V).length ≤ sizeLine ∧ ∀ t, H t = none → rCatA K (.ref a) (.ref t) (upd H t (.tup [.int (n : Int)])) Q := by
  refine ⟨line_le (by show 1 ≤ 4000000; omega), fun t ht => ?_⟩
  have s1 : Same H (upd H t (.tup [.int (n : Int)])) := Same.new ht
  refine ⟨a, t, iVs ns, [.int (n : Int)], rfl, rfl, SqT.of (s1 _ _ ha), SqT.of upd_same, line_le (by rw [iVs_len]; show ns.length + 1 ≤ _; omega), fun e => ?_, fun _ e => absurd e (by simp), fun _ _ p hp => ?_⟩
  · have e' : ns = [] := iVs_inj (ms := []) e
    subst e'
    exact q _ _ s1 ⟨t, rfl, upd_same⟩
  · refine q _ _ (s1.trans (Same.new hp)) ⟨p, rfl, ?_⟩
    rw [upd_same, iVs_app]
    rfl
/-- len of a tuple of numbers is 0 -/
theorem len0 {ns : List Nat} : decide (V.int ((iVs ns).length : Int) = V.int 0) = (ns.length == 0) := by
  rw [iVs_len]
  cases ns with
  | nil => rfl
  | cons a r =>
    have h : ¬ V.int (((a :: r).length : Nat) : Int) = V.int 0 := fun e => by
      have := V.int.inj e
      rw [List.length_cons] at this
      omega
    rw [decide_eq_false h]
    rfl
end Ut
/-! checks.py -/
namespace Ut
open PySem PySem.Spec PyProof.Rows L2
section
variable {P : Program} {w : World} {K : PySem.W.Frag} {mg : Str → Option Value} {base : Heap}
def sp_is_integer : Sp := fun vs H Q _ => ∃ n : Int, vs = [.int n] ∧ ∀ H', Same H H' → Q (.bl true) H'
theorem cd_is_integer (T : Tx K mg) : Cd P w K mg base CX0 "is_integer" 1 ["thing"] sp_is_integer := by
  refine Cd.of T.d_is_integer (fun _ _ _ _ _ _ us hl => match us, hl with | [_], _ => rfl) fun f fd F => ?_
  refine F.ok sc_is_integer (fun vs H Q E h => ?_) (fun cdv A outer s H vs Q E hr h => ?_)
  · obtain ⟨n, rfl, _⟩ := h
    rfl
  · obtain ⟨n, rfl, q⟩ := h
    refine ⟨_, (pss_one (ps_ret (pe_and (pe_callB call_isi (by rfl) T.b_isinstance (by decide +kernel) (pa_cons (pv 0) (pa_cons (pe_bltn (v := .ty "int") (by rfl) T.b_int (by decide +kernel) rfl) pa_nil))) (pe_one (pe_not (pe_callB call_isi (by rfl) T.b_isinstance (by decide +kernel) (pa_cons (pv 0) (pa_cons (pe_bltn (v := .ty "bool") (by rfl) T.b_bool (by decide +kernel) rfl) pa_nil)))))))), ?_⟩
    refine ⟨_, rfl, _, _, _, _, true, rfl, .ty "int", kitInt, kit_ty (by decide +kernel), true, rfl, iteT ?_⟩
    refine ⟨_, rfl, _, _, _, _, false, rfl, .ty "bool", kitInt, kit_ty (by decide +kernel), false, rfl, ?_⟩
    exact q H (Same.refl H)
def sp_is_between : Sp := fun vs H Q _ => ∃ a l m : Int, vs = [.int a, .int l, .int m] ∧ ∀ H', Same H H' → Q (.bl (decide (l ≤ a) && decide (a ≤ m))) H'
theorem cd_is_between (T : Tx K mg) : Cd P w K mg base CX0 "is_between" 2 ["thing", "least", "most"] sp_is_between := by
  have G_is_integer : Cd P w K mg base CX0 "is_integer" 1 ["thing"] sp_is_integer := cd_is_integer T
  refine Cd.of T.d_is_between (fun _ _ _ _ _ _ us hl => match us, hl with | [_, _, _], _ => rfl) fun f fd F => ?_
  refine F.ok sc_is_between (fun vs H Q E h => ?_) (fun cdv A outer s H vs Q E hr h => ?_)
  · obtain ⟨a, l, m, rfl, _⟩ := h
    rfl
  · obtain ⟨a, l, m, rfl, q⟩ := h
    refine ⟨_, (pss_one (ps_ret (pe_and (pe_callD G_is_integer (hr.mono (by decide)) pass0 (pa_cons (pv 0) pa_nil)) (pe_one (pe_chain op_le op_le (pv 1) (pv 0) (pv 2)))))), ?_⟩
    refine ⟨_, rfl, a, rfl, fun H1 s1 => ⟨true, rfl, iteT ?_⟩⟩
    refine ⟨_, rfl, _, rfl, l, a, rfl, rfl, _, rfl, ?_⟩
    by_cases h1 : l ≤ a
    · rw [decide_eq_true h1]
      refine iteT ⟨_, rfl, a, m, rfl, rfl, ?_⟩
      have := q H1 s1
      rw [decide_eq_true h1, Bool.true_and] at this
      exact this
    · rw [decide_eq_false h1]
      refine iteF ?_
      have := q H1 s1
      rw [decide_eq_false h1, Bool.false_and] at this
      exact this
def sp_is_index : Sp := fun vs H Q _ => ∃ a m : Int, vs = [.int a, .int m] ∧ ∀ H', Same H H' → Q (.bl (decide (0 ≤ a) && decide (a ≤ m - 1))) H'
theorem cd_is_index (T : Tx K mg) : Cd P w K mg base CX0 "is_index" 3 ["thing", "many"] sp_is_index := by
  have G_is_between : Cd P w K mg base CX0 "is_between" 2 ["thing", "least", "most"] sp_is_between := cd_is_between T
  refine Cd.of T.d_is_index (fun _ _ _ _ _ _ us hl => match us, hl with | [_, _], _ => rfl) fun f fd F => ?_
  refine F.ok sc_is_index (fun vs H Q E h => ?_) (fun cdv A outer s H vs Q E hr h => ?_)
  · obtain ⟨a, m, rfl, _⟩ := h
    rfl
  · obtain ⟨a, m, rfl, q⟩ := h
    refine ⟨_, (pss_one (ps_ret (pe_callD G_is_between (hr.mono (by decide)) pass0 (pa_cons (pv 0) (pa_cons pe_int (pa_cons (pe_op op_sub (pv 1) pe_int) pa_nil)))))), ?_⟩
    exact ⟨_, rfl, _, rfl, _, _, rfl, rfl, a, 0, m - 1, rfl, q⟩
def sp_check_number : Sp := fun vs H Q _ => ∃ a l m : Int, vs = [.int a, .int l, .int m] ∧ l ≤ a ∧ a ≤ m ∧ ∀ H', Same H H' → Q .non H'
theorem cd_check_number (T : Tx K mg) : Cd P w K mg base CX0 "check_number" 3 ["thing", "least", "most"] sp_check_number := by
  have G_is_between : Cd P w K mg base CX0 "is_between" 2 ["thing", "least", "most"] sp_is_between := cd_is_between T
  refine Cd.of T.d_check_number (fun _ _ _ _ _ _ us hl => match us, hl with | [_, _, _], _ => rfl) fun f fd F => ?_
  refine F.ok sc_check_number (fun vs H Q E h => ?_) (fun cdv A outer s H vs Q E hr h => ?_)
  · obtain ⟨a, l, m, rfl, _⟩ := h
    rfl
  · obtain ⟨a, l, m, rfl, h1, h2, q⟩ := h
    refine ⟨_, (pss_one (ps_if (pt_not (pt_val (pe_callD G_is_between (hr.mono (by decide)) pass0 (pa_cons (pv 0) (pa_cons (pv 1) (pa_cons (pv 2) pa_nil)))))) (pss_one ps_never) pss_nil)), ?_⟩
    refine ⟨_, rfl, _, rfl, _, rfl, a, l, m, rfl, fun H1 s1 => ⟨_, rfl, ?_⟩⟩
    rw [decide_eq_true h1, decide_eq_true h2]
    exact iteF (q H1 s1)
end
end Ut
/-! chosen, twice. -/
namespace Ut
open PySem PySem.Spec PyProof.Rows L2
/-- a list at p of these lots, new since H -/
def NewLN (H H' : Hp) (v : V) (L : List (List Nat)) : Prop := ∃ p, v = .ref p ∧ Same H H' ∧ H p = none ∧ LN H' p L
theorem take_flat {α β : Type} {l : List α} {f : α → List β} {i : Nat} {x : α} (h : l[i]? = some x) : (l.take (i + 1)).flatMap f = (l.take i).flatMap f ++ f x := by
  rw [List.take_add_one, h, List.flatMap_append]
  show _ ++ List.flatMap f [x] = _
  rw [List.flatMap_cons, List.flatMap_nil, List.append_nil]
theorem flat_take_len {α β : Type} (l : List α) (f : α → List β) (i : Nat) : ((l.take i).flatMap f).length ≤ (l.flatMap f).length := by
  have e : l.flatMap f = (l.take i).flatMap f ++ (l.drop i).flatMap f := by rw [← List.flatMap_append, List.take_append_drop]
  rw [e, List.length_append]
  omega
section
variable {P : Program} {w : World} {K : PySem.W.Frag} {mg : Str → Option Value} {base : Heap}
def sp_chosen : Sp := fun vs H Q _ => ∃ (a : Addr) (ns : List Nat) (k : Nat), vs = [.ref a, .int (k : Int)] ∧ H a = some (.tup (iVs ns)) ∧ Asc ns ∧ ns.length ≤ 20 ∧ k ≤ 1000 ∧
  ∀ H' v, NewLN H H' v (chosenF ns k) → Q v H'
theorem cd_chosen (T : Tx K mg) : Cd P w K mg base CX0 "chosen" 1 ["lot", "many"] sp_chosen := by
  refine Cd.of T.d_chosen (fun _ _ _ _ _ _ us hl => match us, hl with | [_, _], _ => rfl) fun f fd F => ?_
  refine F.ok sc_chosen (fun vs H Q E h => ?_) (fun cdv A outer s H vs Q E hr h => ?_)
  · obtain ⟨a, ns, k, rfl, _⟩ := h
    rfl
  · obtain ⟨a, ns, k, rfl, ha, hA, hl, hk, q⟩ := h
    have hlen : ∀ j, (chosenF ns j).length ≤ 1048576 := fun j => Nat.le_trans (chosen_len hA j) (Nat.pow_le_pow_right (by decide) hl)
    refine ⟨_, (pss_cons (ps_set (i := 2) sc_chosen.nd rfl (by first | exact Or.inl rfl | exact Or.inr rfl) (pe_lst (pa_cons (pe_tup pa_nil) pa_nil)))
      (pss_cons (ps_for PassesOwn.never rfl (pi_range1 (by rfl) T.b_range (pa_cons (pv 1) pa_nil)) (pg_name (i := 3) sc_chosen.nd rfl (by first | exact Or.inl rfl | exact Or.inr rfl))
      (pss_cons (ps_set (i := 4) sc_chosen.nd rfl (by first | exact Or.inl rfl | exact Or.inr rfl) (pe_lst pa_nil))
      (pss_cons (ps_for PassesOwn.never rfl (pi_list (pv 2)) (pg_name (i := 5) sc_chosen.nd rfl (by first | exact Or.inl rfl | exact Or.inr rfl))
      (pss_one (ps_expr (pe_bm PySem.F.plainAttrs_list PySem.F.slot_list_extend PySem.F.type_list_extend mt_extend (pv 4) (pa_cons (pe_lc (own := [("item", 6)]) (g := (gName 6)) (tt := (tOr (tTest (tOp rEq (tCB (rLenU K) (tCons (tVar 5) tNil)) (tC (.int 0)))) (tTest (tOp (rI0 fun i j => .bl (decide (j < i))) (tVar 6) (tOp (rIxT K) (tVar 5) (tUn (rU fun i => .int (-i)) (tC (.int 1)))))))) (te := (tOp (rCatA K) (tVar 5) (tTup (tCons (tVar 6) tNil)))) (by rfl) sc_chosen.nd (pi_tup (pv 0)) (blkOk_by (own := [("item", 6)]) (N := ["lot", "many", "found", "turn", "longer", "part", "item"]) (sc := defScope s_chosen) (by decide +kernel)) (fun _ _ _ _ _ => (pg_name (i := 6) sc_chosen.nd rfl (by first | exact Or.inl rfl | exact Or.inr rfl))) (fun _ _ _ _ _ => (pts_one (PW.pt (pw_or (pt_cmpR op_eq (pe_callB (id := "len") call_lenU (by rfl) T.b_len (by decide +kernel) (pa_cons (pv 5) pa_nil)) pe_int (nomark _)) (pw_or1 (pt_cmpR op_gt (pv 6) (pe_ix ix_tup (pv 5) (pe_un un_neg pe_int) (fun _ _ => rfl)) (nomark _))))))) (fun _ _ _ _ _ => (pe_op op_catA (pv 5) (pe_tup (pa_cons (pv 6) pa_nil))))) pa_nil)))))
      (pss_one (ps_set (i := 2) sc_chosen.nd rfl (by first | exact Or.inl rfl | exact Or.inr rfl) (pv 4))))))
      (pss_one (ps_ret (pv 2))))), ?_⟩
    -- found = [()]
    refine ⟨line_le (by show 0 ≤ _; omega), fun p0 hp0 => ⟨line_le (by show 1 ≤ _; omega), fun l0 hl0 => ?_⟩⟩
    have s0 : Same H (upd (upd H p0 (.tup [])) l0 (.lst [.ref p0])) := (Same.new hp0).trans (Same.new hl0)
    have hl0' : H l0 = none := (Same.new hp0).free hl0
    have n0 : p0 ≠ l0 := ne_of_none (upd_same (H := H) (o := .tup [])) hl0
    -- for turn in range(many)
    refine ⟨_, rfl, (k : Int), rfl, by omega, by omega, for_range (lo := 0) (n := k) (fun i σ H2 => ∃ (p : Addr) (y3 y4 y5 : Option V), σ = [some (.ref a), some (.int (k : Int)), some (.ref p), y3, y4, y5, none] ∧ Same H H2 ∧ H p = none ∧ LN H2 p (chosenF ns i))
      ⟨l0, none, none, none, rfl, s0, hl0', [.ref p0], upd_same, .cons ⟨p0, rfl, by rw [upd_ne n0, upd_same]; rfl⟩ .nil⟩ ?_ ?_⟩
    · rintro i σ H2 hi ⟨p, y3, y4, y5, rfl, s2, hp, xs, hx, hX⟩
      -- longer = []
      refine ⟨line_le (by show 0 ≤ _; omega), fun g hg => ?_⟩
      have s3 : Same H2 (upd H2 g (.lst [])) := Same.new hg
      have hg0 : H g = none := s2.free hg
      have npg : p ≠ g := ne_of_none hx hg
      have hxl : xs.length = (chosenF ns i).length := hX.len
      -- for part in found
      refine ⟨_, rfl, p, rfl, ⟨xs, SqL.of (s3 _ _ hx)⟩, for_list (K := K) (a := p) (xs := xs) (fun j σ H4 => ∃ y5, σ = [some (.ref a), some (.int (k : Int)), some (.ref p), some (.int (0 + (i : Nat))), some (.ref g), y5, none] ∧
        Same H H4 ∧ H4 p = some (.lst xs) ∧ TNs H4 xs (chosenF ns i) ∧ LN H4 g (((chosenF ns i).take j).flatMap (moreF ns)))
        ⟨y5, rfl, s2.trans s3, s3 _ _ hx, hX.kt (Kt.same s3), [], upd_same, .nil⟩ (fun j σ H4 _ ⟨_, _, _, h, _⟩ => SqL.of h) ?_ ?_⟩
      · rintro j x σ H4 hj ⟨y5, rfl, s4, h4, t4, gs, hgs, tgs⟩
        obtain ⟨part, hpart, b, rfl, hb⟩ := t4.get hj
        have hpl : part.length = i := (mem_chosen.mp (List.mem_of_getElem? hpart)).2.1
        -- longer.extend([..])
        refine ⟨_, rfl, .inl ⟨rfl, _, SqL.of hgs⟩, _, rfl, a, rfl, ⟨_, SqT.of (s4 _ _ ha)⟩, fun D hD => lcT (R := TN) TN.kt' (outF ns (okMore part) fun n => part ++ [n]) hD (s4 _ _ ha) (outF_0 _ _ _) (fun i => Nat.lt_of_le_of_lt (outF_len _ _ _ _) (by omega)) ?_ ?_⟩
        · intro m y H5 N hm s5 Nx
          rw [iVs_get] at hm
          obtain ⟨n, hn, rfl⟩ := Option.map_eq_some_iff.mp hm
          have hb5 := s5 _ _ hb
          refine ⟨rfl, _, rfl, b, _, rfl, .inr (SqT.of hb5), rfl, _, rfl, ?_⟩
          rw [len0]
          have yes : okMore part n = true → tOp (rCatA K) (tVar 5) (tTup (tCons (tVar 6) tNil)) [some (.ref a), some (.int (k : Int)), some (.ref p), some (.int (0 + (i : Nat))), some (.ref g), some (.ref b), some (.int (n : Int))] H5 (fun y H4 => ∃ acc, H4 D = some (.lst acc) ∧ acc.length < sizeLine ∧ N (upd H4 D (.lst (acc ++ [y])))) := fun ok =>
            ⟨_, rfl, _, rfl, cat_one hb5 (by omega) fun v H6 s6 t6 => Nx.yes H6 v _ s6 t6 (outF_yes hn ok)⟩
          cases hp0 : part.getLast? with
          | none =>
            have e0 : part = [] := List.getLast?_eq_none_iff.mp hp0
            have ok : okMore part n = true := by
              unfold okMore
              rw [hp0]
            have e1 : (part.length == 0) = true := by
              rw [e0]
              rfl
            rw [e1]
            exact iteT (iteT (yes ok))
          | some z =>
            have e0 : (part.length == 0) = false := by
              cases part with
              | nil => cases hp0
              | cons _ _ => rfl
            rw [e0]
            refine iteF ⟨_, rfl, _, rfl, _, rfl, b, _, -1, .int (z : Int), rfl, rfl, SqT.of hb5, at_neg (iVs_last hp0), _, _, rfl, rfl, _, rfl, ?_⟩
            have e1 : decide ((z : Int) < (n : Int)) = okMore part n := by
              unfold okMore
              rw [hp0]
              exact decide_eq_decide.mpr (by omega)
            rw [e1]
            cases ok : okMore part n with
            | true => exact iteT (yes ok)
            | false => exact iteF (Nx.no H5 (Same.refl _) (outF_no hn ok))
        · intro H5 ys s5 hD5 r5
          rw [iVs_len, outF_all (Nat.le_refl _)] at r5
          have e : (ns.filter (okMore part)).map (fun n => part ++ [n]) = moreF ns part := rfl
          rw [e] at r5
          have hgs5 := s5 _ _ hgs
          have hlen2 : (((chosenF ns i).take j).flatMap (moreF ns)).length + (moreF ns part).length ≤ 1048576 := by
            rw [← List.length_append, ← take_flat hpart]
            exact Nat.le_trans (flat_take_len _ _ _) (hlen (i + 1))
          refine ⟨g, D, gs, ys, rfl, rfl, hgs5, hD5, line_le (by rw [tgs.len, r5.len]; omega), ?_⟩
          have k6 : Kt H5 (upd H5 g (.lst (gs ++ ys))) := Kt.lst hgs5
          refine ⟨_, rfl, (s4.trans s5).mut hg0, ?_, (t4.kt (Kt.same s5)).kt k6, gs ++ ys, upd_same, ?_⟩
          · rw [upd_ne npg]
            exact s5 _ _ h4
          · rw [take_flat hpart]
            exact ((tgs.kt (Kt.same s5)).kt k6).app (r5.imp fun v b q => q.kt k6)
      · rintro σ H4 ⟨y5, rfl, s4, h4, t4, hg4⟩
        -- found = longer
        rw [hxl, List.take_length] at hg4
        exact ⟨_, rfl, g, _, _, _, rfl, s4, hg0, hg4⟩
    · rintro σ H2 ⟨p, y3, y4, y5, rfl, s2, hp, hx⟩
      exact ⟨_, rfl, q H2 _ ⟨p, rfl, s2, hp, hx⟩⟩
def sp_Lchosen : Sp := fun vs H Q _ => ∃ (m k : Nat), vs = [.int (m : Int), .int (k : Int)] ∧ m ≤ 20 ∧ k ≤ 1000 ∧
  ∀ H' v, NewLN H H' v (chosenF (List.range m) k) → Q v H'
theorem cd_Lchosen (T : Tx K mg) : Cd P w K mg base CX0 "_law_chosen" 1 ["_law_many", "_law_size"] sp_Lchosen := by
  refine Cd.of T.d_Lchosen (fun _ _ _ _ _ _ us hl => match us, hl with | [_, _], _ => rfl) fun f fd F => ?_
  refine F.ok sc_Lchosen (fun vs H Q E h => ?_) (fun cdv A outer s H vs Q E hr h => ?_)
  · obtain ⟨m, k, rfl, _⟩ := h
    rfl
  · obtain ⟨m, k, rfl, hl, hk, q⟩ := h
    have hA : Asc (List.range m) := asc_range m
    have hlen : ∀ j, (chosenF (List.range m) j).length ≤ 1048576 := fun j => Nat.le_trans (chosen_len hA j) (Nat.pow_le_pow_right (n := 2) (by decide) (by simpa using hl : (List.range m).length ≤ 20))
    refine ⟨_, (pss_cons (ps_set (i := 2) sc_Lchosen.nd rfl (by first | exact Or.inl rfl | exact Or.inr rfl) (pe_lst (pa_cons (pe_tup pa_nil) pa_nil)))
      (pss_cons (ps_for PassesOwn.never rfl (pi_range1 (by rfl) T.b_range (pa_cons (pv 1) pa_nil)) (pg_name (i := 3) sc_Lchosen.nd rfl (by first | exact Or.inl rfl | exact Or.inr rfl))
      (pss_cons (ps_set (i := 4) sc_Lchosen.nd rfl (by first | exact Or.inl rfl | exact Or.inr rfl) (pe_lst pa_nil))
      (pss_cons (ps_for PassesOwn.never rfl (pi_list (pv 2)) (pg_name (i := 5) sc_Lchosen.nd rfl (by first | exact Or.inl rfl | exact Or.inr rfl))
      (pss_one (ps_expr (pe_bm PySem.F.plainAttrs_list PySem.F.slot_list_extend PySem.F.type_list_extend mt_extend (pv 4) (pa_cons (pe_lc (own := [("_law_k", 6)]) (g := (gName 6)) (tt := (tOr (tTest (tOp rEq (tCB (rLenU K) (tCons (tVar 5) tNil)) (tC (.int 0)))) (tTest (tOp (rI0 fun i j => .bl (decide (j < i))) (tVar 6) (tOp (rIxT K) (tVar 5) (tUn (rU fun i => .int (-i)) (tC (.int 1)))))))) (te := (tOp (rCatA K) (tVar 5) (tTup (tCons (tVar 6) tNil)))) (by rfl) sc_Lchosen.nd (pi_range1 (by rfl) T.b_range (pa_cons (pv 0) pa_nil)) (blkOk_by (own := [("_law_k", 6)]) (N := ["_law_many", "_law_size", "_law_found", "_law_turn", "_law_longer", "_law_lot", "_law_k"]) (sc := defScope s_Lchosen) (by decide +kernel)) (fun _ _ _ _ _ => (pg_name (i := 6) sc_Lchosen.nd rfl (by first | exact Or.inl rfl | exact Or.inr rfl))) (fun _ _ _ _ _ => (pts_one (PW.pt (pw_or (pt_cmpR op_eq (pe_callB (id := "len") call_lenU (by rfl) T.b_len (by decide +kernel) (pa_cons (pv 5) pa_nil)) pe_int (nomark _)) (pw_or1 (pt_cmpR op_gt (pv 6) (pe_ix ix_tup (pv 5) (pe_un un_neg pe_int) (fun _ _ => rfl)) (nomark _))))))) (fun _ _ _ _ _ => (pe_op op_catA (pv 5) (pe_tup (pa_cons (pv 6) pa_nil))))) pa_nil)))))
      (pss_one (ps_set (i := 2) sc_Lchosen.nd rfl (by first | exact Or.inl rfl | exact Or.inr rfl) (pv 4))))))
      (pss_one (ps_ret (pv 2))))), ?_⟩
    -- found = [()]
    refine ⟨line_le (by show 0 ≤ _; omega), fun p0 hp0 => ⟨line_le (by show 1 ≤ _; omega), fun l0 hl0 => ?_⟩⟩
    have s0 : Same H (upd (upd H p0 (.tup [])) l0 (.lst [.ref p0])) := (Same.new hp0).trans (Same.new hl0)
    have hl0' : H l0 = none := (Same.new hp0).free hl0
    have n0 : p0 ≠ l0 := ne_of_none (upd_same (H := H) (o := .tup [])) hl0
    -- for turn in range(many)
    refine ⟨_, rfl, (k : Int), rfl, by omega, by omega, for_range (lo := 0) (n := k) (fun i σ H2 => ∃ (p : Addr) (y3 y4 y5 : Option V), σ = [some (.int (m : Int)), some (.int (k : Int)), some (.ref p), y3, y4, y5, none] ∧ Same H H2 ∧ H p = none ∧ LN H2 p (chosenF (List.range m) i))
      ⟨l0, none, none, none, rfl, s0, hl0', [.ref p0], upd_same, .cons ⟨p0, rfl, by rw [upd_ne n0, upd_same]; rfl⟩ .nil⟩ ?_ ?_⟩
    · rintro i σ H2 hi ⟨p, y3, y4, y5, rfl, s2, hp, xs, hx, hX⟩
      -- longer = []
      refine ⟨line_le (by show 0 ≤ _; omega), fun g hg => ?_⟩
      have s3 : Same H2 (upd H2 g (.lst [])) := Same.new hg
      have hg0 : H g = none := s2.free hg
      have npg : p ≠ g := ne_of_none hx hg
      have hxl : xs.length = (chosenF (List.range m) i).length := hX.len
      -- for part in found
      refine ⟨_, rfl, p, rfl, ⟨xs, SqL.of (s3 _ _ hx)⟩, for_list (K := K) (a := p) (xs := xs) (fun j σ H4 => ∃ y5, σ = [some (.int (m : Int)), some (.int (k : Int)), some (.ref p), some (.int (0 + (i : Nat))), some (.ref g), y5, none] ∧
        Same H H4 ∧ H4 p = some (.lst xs) ∧ TNs H4 xs (chosenF (List.range m) i) ∧ LN H4 g (((chosenF (List.range m) i).take j).flatMap (moreF (List.range m))))
        ⟨y5, rfl, s2.trans s3, s3 _ _ hx, hX.kt (Kt.same s3), [], upd_same, .nil⟩ (fun j σ H4 _ ⟨_, _, _, h, _⟩ => SqL.of h) ?_ ?_⟩
      · rintro j x σ H4 hj ⟨y5, rfl, s4, h4, t4, gs, hgs, tgs⟩
        obtain ⟨part, hpart, b, rfl, hb⟩ := t4.get hj
        have hpl : part.length = i := (mem_chosen.mp (List.mem_of_getElem? hpart)).2.1
        -- longer.extend([..])
        refine ⟨_, rfl, .inl ⟨rfl, _, SqL.of hgs⟩, _, rfl, (m : Int), rfl, by omega, by omega, fun D hD => lcR (lo := 0) (n := m) (R := TN) TN.kt' (outF (List.range m) (okMore part) fun n => part ++ [n]) hD (outF_0 _ _ _) (fun i => Nat.lt_of_le_of_lt (outF_len _ _ _ _) (by rw [List.length_range]; omega)) ?_ ?_⟩
        · intro n H5 N hm s5 Nx
          rw [show ((0 : Int) + (n : Int)) = (n : Int) from Int.zero_add _]
          have hn : (List.range m)[n]? = some n := List.getElem?_range hm
          have hb5 := s5 _ _ hb
          refine ⟨rfl, _, rfl, b, _, rfl, .inr (SqT.of hb5), rfl, _, rfl, ?_⟩
          rw [len0]
          have yes : okMore part n = true → tOp (rCatA K) (tVar 5) (tTup (tCons (tVar 6) tNil)) [some (.int (m : Int)), some (.int (k : Int)), some (.ref p), some (.int (0 + (i : Nat))), some (.ref g), some (.ref b), some (.int (n : Int))] H5 (fun y H4 => ∃ acc, H4 D = some (.lst acc) ∧ acc.length < sizeLine ∧ N (upd H4 D (.lst (acc ++ [y])))) := fun ok =>
            ⟨_, rfl, _, rfl, cat_one hb5 (by omega) fun v H6 s6 t6 => Nx.yes H6 v _ s6 t6 (outF_yes hn ok)⟩
          cases hp0 : part.getLast? with
          | none =>
            have e0 : part = [] := List.getLast?_eq_none_iff.mp hp0
            have ok : okMore part n = true := by
              unfold okMore
              rw [hp0]
            have e1 : (part.length == 0) = true := by
              rw [e0]
              rfl
            rw [e1]
            exact iteT (iteT (yes ok))
          | some z =>
            have e0 : (part.length == 0) = false := by
              cases part with
              | nil => cases hp0
              | cons _ _ => rfl
            rw [e0]
            refine iteF ⟨_, rfl, _, rfl, _, rfl, b, _, -1, .int (z : Int), rfl, rfl, SqT.of hb5, at_neg (iVs_last hp0), _, _, rfl, rfl, _, rfl, ?_⟩
            have e1 : decide ((z : Int) < (n : Int)) = okMore part n := by
              unfold okMore
              rw [hp0]
              exact decide_eq_decide.mpr (by omega)
            rw [e1]
            cases ok : okMore part n with
            | true => exact iteT (yes ok)
            | false => exact iteF (Nx.no H5 (Same.refl _) (outF_no hn ok))
        · intro H5 ys s5 hD5 r5
          rw [outF_all (by simp)] at r5
          have e : ((List.range m).filter (okMore part)).map (fun n => part ++ [n]) = moreF (List.range m) part := rfl
          rw [e] at r5
          have hgs5 := s5 _ _ hgs
          have hlen2 : (((chosenF (List.range m) i).take j).flatMap (moreF (List.range m))).length + (moreF (List.range m) part).length ≤ 1048576 := by
            rw [← List.length_append, ← take_flat hpart]
            exact Nat.le_trans (flat_take_len _ _ _) (hlen (i + 1))
          refine ⟨g, D, gs, ys, rfl, rfl, hgs5, hD5, line_le (by rw [tgs.len, r5.len]; omega), ?_⟩
          have k6 : Kt H5 (upd H5 g (.lst (gs ++ ys))) := Kt.lst hgs5
          refine ⟨_, rfl, (s4.trans s5).mut hg0, ?_, (t4.kt (Kt.same s5)).kt k6, gs ++ ys, upd_same, ?_⟩
          · rw [upd_ne npg]
            exact s5 _ _ h4
          · rw [take_flat hpart]
            exact ((tgs.kt (Kt.same s5)).kt k6).app (r5.imp fun v b q => q.kt k6)
      · rintro σ H4 ⟨y5, rfl, s4, h4, t4, hg4⟩
        -- found = longer
        rw [hxl, List.take_length] at hg4
        exact ⟨_, rfl, g, _, _, _, rfl, s4, hg0, hg4⟩
    · rintro σ H2 ⟨p, y3, y4, y5, rfl, s2, hp, hx⟩
      exact ⟨_, rfl, q H2 _ ⟨p, rfl, s2, hp, hx⟩⟩
end
end Ut
/-! meeting, twice. -/
namespace Ut
open PySem PySem.Spec PyProof.Rows L2
def outM {α β : Type} (l : List α) (f : α → β) (i : Nat) : List β := (l.take i).map f
theorem outM_0 {α β : Type} (l : List α) (f : α → β) : outM l f 0 = [] := rfl
theorem outM_1 {α β : Type} {l : List α} {f : α → β} {i : Nat} {x : α} (h : l[i]? = some x) : outM l f (i + 1) = outM l f i ++ [f x] := by
  unfold outM
  rw [List.take_add_one, h, List.map_append]
  rfl
theorem outM_all {α β : Type} {l : List α} {f : α → β} {n : Nat} (h : l.length ≤ n) : outM l f n = l.map f := by
  unfold outM
  rw [List.take_of_length_le h]
theorem outM_len {α β : Type} (l : List α) (f : α → β) (i : Nat) : (outM l f i).length ≤ l.length := by
  unfold outM
  rw [List.length_map, List.length_take]
  omega
/-- None, or a tuple of these -/
def OptTN (H : Hp) (v : V) : Option (List Nat) → Prop
  | none => v = .non
  | some l => TN H v l
theorem find_none {α : Type} {l : List α} {p : α → Bool} {j : Nat} {x : α} (h : (l.take j).find? p = none) (hx : l[j]? = some x) (hp : p x = false) : (l.take (j + 1)).find? p = none := by
  rw [List.take_add_one, hx, List.find?_append, h]
  show List.find? p [x] = none
  rw [List.find?_cons_of_neg (by simp [hp])]
  rfl
theorem find_some {α : Type} {l : List α} {p : α → Bool} {j : Nat} {x : α} (h : (l.take j).find? p = none) (hx : l[j]? = some x) (hp : p x = true) : l.find? p = some x := by
  obtain ⟨hj, e⟩ := List.getElem?_eq_some_iff.mp hx
  have e2 : l = l.take j ++ x :: l.drop (j + 1) := by
    rw [← e, ← List.drop_eq_getElem_cons hj, List.take_append_drop]
  rw [e2, List.find?_append, h]
  show List.find? p (x :: _) = some x
  exact List.find?_cons_of_pos hp
theorem flat_none {α β : Type} {l : List α} {f : α → List β} {p : β → Bool} {i : Nat} {x : α} (h : ((l.take i).flatMap f).find? p = none) (hx : l[i]? = some x) (hf : (f x).find? p = none) : ((l.take (i + 1)).flatMap f).find? p = none := by
  rw [take_flat hx, List.find?_append, h, hf]
  rfl
theorem flat_some {α β : Type} {l : List α} {f : α → List β} {p : β → Bool} {i : Nat} {x : α} {y : β} (h : ((l.take i).flatMap f).find? p = none) (hx : l[i]? = some x) (hf : (f x).find? p = some y) : (l.flatMap f).find? p = some y := by
  obtain ⟨hj, e⟩ := List.getElem?_eq_some_iff.mp hx
  have e2 : l = l.take i ++ x :: l.drop (i + 1) := by
    rw [← e, ← List.drop_eq_getElem_cons hj, List.take_append_drop]
  rw [e2, List.flatMap_append, List.find?_append, h, List.flatMap_cons, List.find?_append, hf]
  rfl
/-! ### the dict of the arrows -/
def KeysN (kvs : List (Key × V)) (ks : List Nat) : Prop := kvs.map (·.1) = ks.map fun (k : Nat) => (Sum.inl (k : Int) : Key)
theorem keysN_len {kvs : List (Key × V)} {ks : List Nat} (h : KeysN kvs ks) : kvs.length = ks.length := by
  have := congrArg List.length h
  simpa using this
theorem key_inj {a b : Nat} (h : (Sum.inl (a : Int) : Key) = Sum.inl (b : Int)) : a = b := by
  have := Sum.inl.inj h
  omega
theorem keysN_mem {kvs : List (Key × V)} {ks : List Nat} (h : KeysN kvs ks) {k : Nat} : (Sum.inl (k : Int) : Key) ∈ kvs.map (·.1) ↔ k ∈ ks := by
  rw [h, List.mem_map]
  constructor
  · rintro ⟨j, hj, e⟩
    exact key_inj e ▸ hj
  · intro hk
    exact ⟨k, hk, rfl⟩
def addN (ks : List Nat) (k : Nat) : List Nat := if k ∈ ks then ks else ks ++ [k]
theorem keysN_put {kvs : List (Key × V)} {ks : List Nat} (h : KeysN kvs ks) (k : Nat) (v : V) : KeysN (putK kvs (Sum.inl (k : Int)) v) (addN ks k) := by
  unfold addN
  cases e : valV kvs (Sum.inl (k : Int) : Key) with
  | none =>
    rw [if_neg (fun hk => valV_not e ((keysN_mem h).mpr hk)), putK_new _ e]
    unfold KeysN at h ⊢
    rw [List.map_append, List.map_append, h]
    rfl
  | some u =>
    have hm := valV_in e
    rw [if_pos ((keysN_mem h).mp hm)]
    unfold KeysN putK
    have ha : (kvs.any fun kv => decide (kv.1 = (Sum.inl (k : Int) : Key))) = true := by
      obtain ⟨p, hp, e2⟩ := List.mem_map.mp hm
      rw [List.any_eq_true]
      exact ⟨p, hp, decide_eq_true e2⟩
    rw [if_pos ha, List.map_map, ← h]
    apply List.map_congr_left
    intro p _
    show (if p.1 = _ then (p.1, v) else p).1 = p.1
    split <;> rfl
theorem mem_addN {ks : List Nat} {k j : Nat} : j ∈ addN ks k ↔ j ∈ ks ∨ j = k := by
  unfold addN
  split
  · rename_i h
    constructor
    · exact .inl
    · rintro (h' | rfl)
      · exact h'
      · exact h
  · simp
theorem nd_addN {ks : List Nat} {k : Nat} (h : ks.Nodup) : (addN ks k).Nodup := by
  unfold addN
  split
  · exact h
  · rename_i hk
    rw [List.nodup_append]
    refine ⟨h, by simp, ?_⟩
    intro a ha b hb e
    have : b = k := by simpa using hb
    exact hk (this ▸ e ▸ ha)
/-- two rising lists of the same numbers -/
theorem asc_uniq : ∀ {l m : List Nat}, Asc l → Asc m → (∀ x, x ∈ l ↔ x ∈ m) → l = m
  | [], [], _, _, _ => rfl
  | [], b :: m, _, _, h => absurd ((h b).mpr List.mem_cons_self) (by simp)
  | a :: l, [], _, _, h => absurd ((h a).mp List.mem_cons_self) (by simp)
  | a :: l, b :: m, hl, hm, h => by
    obtain ⟨l1, l2⟩ := List.pairwise_cons.mp hl
    obtain ⟨m1, m2⟩ := List.pairwise_cons.mp hm
    have e : a = b := by
      rcases List.mem_cons.mp ((h a).mp List.mem_cons_self) with e | ha
      · exact e
      · rcases List.mem_cons.mp ((h b).mpr List.mem_cons_self) with e | hb
        · exact e.symm
        · have := m1 a ha
          have := l1 b hb
          omega
    subst e
    rw [asc_uniq l2 m2 fun x => ?_]
    constructor
    · intro hx
      rcases List.mem_cons.mp ((h x).mp (List.mem_cons_of_mem _ hx)) with e | q
      · have := l1 x hx
        omega
      · exact q
    · intro hx
      rcases List.mem_cons.mp ((h x).mpr (List.mem_cons_of_mem _ hx)) with e | q
      · have := m1 x hx
        omega
      · exact q
/-- the sorted keys -/
theorem sorted_keys {m : Nat} {W : List (List Nat)} {ks : List Nat} {ys : List Int} (hm : ∀ w ∈ W, ∀ k ∈ w, k < m) (hn : ks.Nodup) (hk : ∀ k, k ∈ ks ↔ ∃ w ∈ W, k ∈ w) (hp : ys.Perm (ks.map fun (k : Nat) => (k : Int))) (hs : ys.Pairwise (· ≤ ·)) :
    ys.map V.int = iVs (usedOf m W) := by
  have hy : ∀ y ∈ ys, 0 ≤ y := fun y h => by
    obtain ⟨k, _, rfl⟩ := List.mem_map.mp (hp.mem_iff.mp h)
    omega
  have e : (ys.map Int.toNat).map (fun (k : Nat) => (k : Int)) = ys := by
    rw [List.map_map]
    conv => rhs; rw [← List.map_id ys]
    apply List.map_congr_left
    intro y h
    show ((y.toNat : Nat) : Int) = y
    exact Int.toNat_of_nonneg (hy y h)
  have nd : ys.Nodup := hp.nodup_iff.mpr (by
    rw [List.nodup_iff_pairwise_ne, List.pairwise_map]
    exact hn.imp fun hne e => hne (by omega))
  have e2 : ys.map Int.toNat = usedOf m W := by
    refine asc_uniq ?_ (asc_used m W) fun x => ?_
    · rw [Asc, List.pairwise_map]
      refine List.Pairwise.imp_of_mem (fun {a b} ha hb q => ?_) (List.Pairwise.and hs nd)
      have := hy a ha
      have := hy b hb
      obtain ⟨q1, q2⟩ := q
      omega
    · unfold usedOf
      rw [List.mem_filter, List.mem_range, List.any_eq_true]
      have h1 : x ∈ ys.map Int.toNat ↔ x ∈ ks := by
        constructor
        · intro h
          obtain ⟨y, hy1, rfl⟩ := List.mem_map.mp h
          obtain ⟨k, hk1, rfl⟩ := List.mem_map.mp (hp.mem_iff.mp hy1)
          simpa using hk1
        · intro h
          exact List.mem_map.mpr ⟨(x : Int), hp.mem_iff.mpr (List.mem_map.mpr ⟨x, h, rfl⟩), by simp⟩
      rw [h1, hk]
      constructor
      · rintro ⟨w, hw, hx⟩
        exact ⟨hm w hw x hx, w, hw, by simpa using hx⟩
      · rintro ⟨_, w, hw, hx⟩
        exact ⟨w, hw, by simpa using hx⟩
  rw [← e2, iVs_ints, e]
section
variable {P : Program} {w : World} {K : PySem.W.Frag} {mg : Str → Option Value} {base : Heap}
def sp_meeting : Sp := fun vs H Q _ => ∃ (l : Addr) (xs : List V) (W : List (List Nat)) (m most : Nat), vs = [.ref l, .int (most : Int)] ∧ H l = some (.lst xs) ∧ TNs H xs W ∧ (∀ w ∈ W, ∀ k ∈ w, k < m) ∧ (∀ w ∈ W, w.length ≤ 1000) ∧ W.length ≤ 1000000 ∧ m ≤ 20 ∧ most ≤ 10 ∧
  ∀ H' v, Same H H' → OptTN H' v (meetF (usedOf m W) W most) → Q v H'
theorem cd_meeting (T : Tx K mg) : Cd P w K mg base CX0 "meeting" 2 ["lot", "most"] sp_meeting := by
  have G_chosen : Cd P w K mg base CX0 "chosen" 1 ["lot", "many"] sp_chosen := cd_chosen T
  refine Cd.of T.d_meeting (fun _ _ _ _ _ _ us hl => match us, hl with | [_, _], _ => rfl) fun f fd F => ?_
  refine F.ok sc_meeting (fun vs H Q E h => ?_) (fun cdv A outer s H vs Q E hr h => ?_)
  · obtain ⟨l, xs, W, m, most, rfl, _⟩ := h
    rfl
  · obtain ⟨l, xs, W, m, most, rfl, hl, hX, hm, hw, hW, hm20, hmost, q⟩ := h
    have hu := hu_of hr
    have hlenX := hX.len
    refine ⟨_, (pss_cons (ps_set (i := 2) sc_meeting.nd rfl (by first | exact Or.inl rfl | exact Or.inr rfl) pe_dnewK)
      (pss_cons (ps_for PassesOwn.never rfl (pi_list (pv 0)) (pg_name (i := 3) sc_meeting.nd rfl (by first | exact Or.inl rfl | exact Or.inr rfl))
      (pss_one (ps_for PassesOwn.never rfl (pi_tup (pv 3)) (pg_name (i := 4) sc_meeting.nd rfl (by first | exact Or.inl rfl | exact Or.inr rfl))
      (pss_one (ps_dput hu (pv 2) (pv 4) pe_bl rfl)))))
      (pss_cons (ps_for PassesOwn.never rfl (pi_range1 (by rfl) T.b_range (pa_cons (pe_op op_add (pv 1) pe_int) pa_nil)) (pg_name (i := 5) sc_meeting.nd rfl (by first | exact Or.inl rfl | exact Or.inr rfl))
      (pss_one (ps_for PassesOwn.never rfl (pi_list (pe_callD G_chosen (hr.mono (by decide)) pass0 (pa_cons (pe_callTy (T := "tuple") call_tuple_of (by rfl) T.b_tuple (by decide +kernel) (pa_cons (pe_callB (id := "sorted") (call_sortedDI (by rfl)) (by rfl) T.b_sorted (by decide +kernel) (pa_cons (pv 2) pa_nil)) pa_nil)) (pa_cons (pv 5) pa_nil)))) (pg_name (i := 6) sc_meeting.nd rfl (by first | exact Or.inl rfl | exact Or.inr rfl))
      (pss_one (ps_if (pt_val (pe_callB (id := "all") (cr_all (by rfl)) (by rfl) T.b_all (by decide +kernel) (pa_cons (pe_lc (own := [("way", 3)]) (g := (gName 3)) (tt := tYes) (te := (tCB (rAny K) (tCons (tLc (iTup K (tVar 6)) (gName 4) tYes (tOp (rIn K false) (tVar 4) (tVar 3)) [4]) tNil))) (by rfl) sc_meeting.nd (pi_list (pv 0)) (blkOk_by (own := [("way", 3)]) (N := ["lot", "most", "every", "way", "arrow", "size", "arrows"]) (sc := defScope s_meeting) (by decide +kernel)) (fun _ _ _ _ _ => (pg_name (i := 3) sc_meeting.nd rfl (by first | exact Or.inl rfl | exact Or.inr rfl))) (fun _ _ _ _ _ => pts_nil) (fun _ _ _ _ _ => (pe_callB (id := "any") (cr_any (by rfl)) (by rfl) T.b_any (by decide +kernel) (pa_cons (pe_lc (own := [("arrow", 4)]) (g := (gName 4)) (tt := tYes) (te := (tOp (rIn K false) (tVar 4) (tVar 3))) (by rfl) sc_meeting.nd (pi_tup (pv 6)) (blkOk_by (own := [("arrow", 4)]) (N := ["lot", "most", "every", "way", "arrow", "size", "arrows"]) (sc := relS scB_meeting (defScope s_meeting)) (by decide +kernel)) (fun _ _ _ _ _ => (pg_name (i := 4) sc_meeting.nd rfl (by first | exact Or.inl rfl | exact Or.inr rfl))) (fun _ _ _ _ _ => pts_nil) (fun _ _ _ _ _ => (pe_cmpR op_in_seq (pv 4) (pv 3) rfl))) pa_nil)))) pa_nil))) (pss_one (ps_ret (pv 6))) pss_nil)))))
      (pss_one (ps_ret pe_non))))), ?_⟩
    -- every = {}
    refine fun d hd => ?_
    have s0 : Same H (upd H d (.dK [])) := Same.new hd
    -- for way in lot: for arrow in way: every[arrow] = True
    refine ⟨_, rfl, l, rfl, ⟨xs, SqL.of (s0 _ _ hl)⟩, for_list (K := K) (a := l) (xs := xs) (fun i σ H2 => ∃ (y3 y4 : Option V) (kvs : List (Key × V)) (ks : List Nat), σ = [some (.ref l), some (.int (most : Int)), some (.ref d), y3, y4, none, none] ∧ Same H H2 ∧
        H2 d = some (.dK kvs) ∧ KeysN kvs ks ∧ ks.Nodup ∧ (∀ k ∈ ks, k < m) ∧ ∀ k, k ∈ ks ↔ ∃ w ∈ W.take i, k ∈ w)
      ⟨none, none, [], [], rfl, s0, upd_same, rfl, List.nodup_nil, by simp, by simp⟩ (fun i σ H2 _ ⟨_, _, _, _, _, s2, _⟩ => SqL.of (s2 _ _ hl)) ?_ ?_⟩
    · rintro i x σ H2 hi ⟨y3, y4, kvs, ks, rfl, s2, hd2, hK, hN, hlt, hM⟩
      obtain ⟨way, hway, b, rfl, hb⟩ := (hX.kt (Kt.same s2)).get hi
      have hwm : way ∈ W := List.mem_of_getElem? hway
      refine ⟨_, rfl, b, rfl, ⟨_, SqT.of hb⟩, for_tup (K := K) (a := b) (xs := iVs way) (fun j σ H3 => ∃ (y4 : Option V) (kvs : List (Key × V)) (ks : List Nat), σ = [some (.ref l), some (.int (most : Int)), some (.ref d), some (.ref b), y4, none, none] ∧ Same H H3 ∧ H3 b = some (.tup (iVs way)) ∧
          H3 d = some (.dK kvs) ∧ KeysN kvs ks ∧ ks.Nodup ∧ (∀ k ∈ ks, k < m) ∧ ∀ k, k ∈ ks ↔ (∃ w ∈ W.take i, k ∈ w) ∨ k ∈ way.take j)
        ⟨y4, kvs, ks, rfl, s2, hb, hd2, hK, hN, hlt, fun k => by rw [hM]; simp⟩ (fun j σ H3 _ ⟨_, _, _, _, _, h, _⟩ => SqT.of h) ?_ ?_⟩
      · rintro j y σ H3 hj ⟨y4, kvs, ks, rfl, s3, hb3, hd3, hK, hN, hlt, hM⟩
        rw [iVs_get] at hj
        obtain ⟨k, hk, rfl⟩ := Option.map_eq_some_iff.mp hj
        have hkw : k ∈ way := List.mem_of_getElem? hk
        have hlen : ks.length ≤ m := by
          have := nodup_len hN (l' := List.range m) fun x hx => List.mem_range.mpr (hlt x hx)
          simpa using this
        refine ⟨_, rfl, _, rfl, d, _, rfl, DPut.k (k := Sum.inl (k : Int)) hd3 (line_lt (by rw [keysN_len hK]; omega)), ?_⟩
        refine ⟨_, putK kvs (Sum.inl (k : Int)) (.bl true), addN ks k, rfl, s3.mut hd, ?_, upd_same, keysN_put hK k _, nd_addN hN, ?_, ?_⟩
        · rw [upd_ne (ne_of hb3 hd3 (by intro z; cases z))]
          exact hb3
        · intro x hx
          rcases mem_addN.mp hx with h | h
          · exact hlt x h
          · rw [h]
            exact hm way hwm k hkw
        · intro x
          rw [mem_addN, hM, List.take_add_one, hk]
          simp only [Option.toList_some, List.mem_append, List.mem_singleton]
          rw [or_assoc]
      · rintro σ H3 ⟨y4, kvs, ks, rfl, s3, hb3, hd3, hK, hN, hlt, hM⟩
        refine ⟨_, _, kvs, ks, rfl, s3, hd3, hK, hN, hlt, fun k => ?_⟩
        rw [hM, List.take_add_one, hway, iVs_len, List.take_length]
        simp only [Option.toList_some, List.mem_append, List.mem_singleton]
        constructor
        · rintro (⟨v, h1, h2⟩ | h)
          · exact ⟨v, .inl h1, h2⟩
          · exact ⟨way, .inr rfl, h⟩
        · rintro ⟨v, h1 | h1, h2⟩
          · exact .inl ⟨v, h1, h2⟩
          · exact .inr (h1 ▸ h2)
    · rintro σ H2 ⟨y3, y4, kvs, ks, rfl, s2, hd2, hK, hN, hlt, hM⟩
      rw [hlenX, List.take_length] at hM
      have hlen : ks.length ≤ m := by
        have := nodup_len hN (l' := List.range m) fun x hx => List.mem_range.mpr (hlt x hx)
        simpa using this
      -- for size in range(most + 1)
      refine ⟨_, rfl, (most : Int), 1, rfl, rfl, ((most + 1 : Nat) : Int), rfl, by omega, by omega, for_range (lo := 0) (n := most + 1) (fun i σ H3 => ∃ (y5 y6 : Option V), σ = [some (.ref l), some (.int (most : Int)), some (.ref d), y3, y4, y5, y6] ∧ Same H2 H3 ∧
          (((List.range (most + 1)).take i).flatMap (chosenF (usedOf m W))).find? (hits W) = none)
        ⟨none, none, rfl, Same.refl _, by simp⟩ ?_ ?_⟩
      · rintro i σ H3 hi ⟨y5, y6, rfl, s3, hnone⟩
        rw [show ((0 : Int) + (i : Int)) = (i : Int) from Int.zero_add _]
        have hir : (List.range (most + 1))[i]? = some i := List.getElem?_range hi
        -- chosen(tuple(sorted(every)), size)
        refine ⟨_, rfl, d, kvs, ks.map (fun (k : Nat) => (k : Int)), rfl, Rd.of (s3 _ _ hd2), ?_, by rw [List.length_map]; omega, fun ys p hp hs hpn => ⟨p, _, rfl, .inl ⟨SqL.of upd_same, fun t ht => ⟨_, rfl, t, usedOf m W, i, rfl, ?_, asc_used m W, Nat.le_trans (used_len m W) hm20, by omega, ?_⟩⟩⟩⟩
        · rw [List.map_map]
          exact hK
        · rw [upd_same, sorted_keys hm hN hM hp hs]
        · rintro H5 v ⟨g, rfl, s5, hg, zs, hz, hZ⟩
          have s35 : Same H3 H5 := ((Same.new hpn).trans (Same.new ht)).trans s5
          refine ⟨g, rfl, ⟨zs, SqL.of hz⟩, for_list (K := K) (a := g) (xs := zs) (fun j σ H6 => ∃ (y6 : Option V), σ = [some (.ref l), some (.int (most : Int)), some (.ref d), y3, y4, some (.int (i : Int)), y6] ∧ Same H5 H6 ∧
              ((chosenF (usedOf m W) i).take j).find? (hits W) = none)
            ⟨y6, rfl, Same.refl _, by simp⟩ (fun j σ H6 _ ⟨_, _, s6, _⟩ => SqL.of (s6 _ _ hz)) ?_ ?_⟩
          · rintro j x σ H6 hj ⟨y6, rfl, s6, hnone6⟩
            obtain ⟨lot, hlot, b, rfl, hb⟩ := (hZ.kt (Kt.same s6)).get hj
            have hll : lot.length = i := (mem_chosen.mp (List.mem_of_getElem? hlot)).2.1
            have s26 : Same H2 H6 := (s3.trans s35).trans s6
            have hl6 : H6 l = some (.lst xs) := s26 _ _ (s2 _ _ hl)
            have hX6 : TNs H6 xs W := (hX.kt (Kt.same s2)).kt (Kt.same s26)
            -- all([any([arrow in way for arrow in arrows]) for way in lot])
            refine ⟨_, rfl, l, rfl, ⟨xs, SqL.of hl6⟩, fun D hD => lcL (R := BV) BV.kt (outM W fun way => lot.any fun k => way.contains k) hD (SqL.of hl6) (outM_0 _ _) (fun i => Nat.lt_of_le_of_lt (outM_len _ _ _) (by omega)) ?_ ?_⟩
            · intro u x H7 N hu7 s7 Nx
              obtain ⟨way, hway, c, rfl, hc⟩ := (hX6.kt (Kt.same s7)).get hu7
              refine ⟨rfl, yesGo ?_⟩
              refine ⟨_, rfl, b, rfl, ⟨_, SqT.of (s7 _ _ hb)⟩, fun D2 hD2 => lcT (R := BV) BV.kt (outM lot fun k => way.contains k) hD2 (s7 _ _ hb) (outM_0 _ _) (fun i => Nat.lt_of_le_of_lt (outM_len _ _ _) (by omega)) ?_ ?_⟩
              · intro u2 x H8 N2 hu8 s8 Nx2
                rw [iVs_get] at hu8
                obtain ⟨k, hk, rfl⟩ := Option.map_eq_some_iff.mp hu8
                refine ⟨rfl, yesGo ?_⟩
                refine ⟨_, rfl, _, rfl, c, iVs way, rfl, .inr (SqT.of (s8 _ _ hc)), rfl, iVs_flat way, ?_⟩
                refine Nx2.yes H8 _ _ (Same.refl _) ?_ (outM_1 hk)
                show V.bl (if false = true then _ else _) = _
                rw [if_neg Bool.false_ne_true, inV_iff]
              · intro H8 bs s8 hD8 r8
                have e8 := bv_map r8
                rw [iVs_len, outM_all (Nat.le_refl _)] at e8
                refine ⟨D2, lot.map (fun k => way.contains k), rfl, SqL.of (by rw [hD8, e8]), ?_⟩
                refine Nx.yes H8 _ _ s8 ?_ (outM_1 hway)
                show V.bl _ = V.bl _
                rw [List.any_map]
                rfl
            · intro H7 bs s7 hD7 r7
              have e7 := bv_map r7
              rw [hlenX, outM_all (Nat.le_refl _)] at e7
              refine ⟨D, W.map (fun way => lot.any fun k => way.contains k), rfl, SqL.of (by rw [hD7, e7]), _, rfl, ?_⟩
              have eh : ((W.map fun way => lot.any fun k => way.contains k).all id) = hits W lot := by
                unfold hits
                rw [List.all_map]
                rfl
              rw [eh]
              cases hh : hits W lot with
              | true =>
                refine iteT ⟨_, rfl, q H7 _ ((s2.trans s26).trans s7) ?_⟩
                have e : meetF (usedOf m W) W most = some lot := flat_some hnone hir (find_some hnone6 hlot hh)
                rw [e]
                exact ⟨b, rfl, s7 _ _ hb⟩
              | false =>
                exact iteF ⟨_, rfl, s6.trans s7, find_none hnone6 hlot hh⟩
          · rintro σ H6 ⟨y6, rfl, s6, hnone6⟩
            rw [hZ.len, List.take_length] at hnone6
            exact ⟨_, _, rfl, (s3.trans s35).trans s6, flat_none hnone hir hnone6⟩
      · rintro σ H3 ⟨y5, y6, rfl, s3, hnone⟩
        have e : meetF (usedOf m W) W most = none := by
          rw [List.take_of_length_le (by simp)] at hnone
          exact hnone
        refine q H3 _ (s2.trans s3) ?_
        rw [e]
        rfl
end
end Ut
/-! _law_meeting. -/
namespace Ut
open PySem PySem.Spec PyProof.Rows L2
section
variable {P : Program} {w : World} {K : PySem.W.Frag} {mg : Str → Option Value} {base : Heap}
def sp_Lmeeting : Sp := fun vs H Q _ => ∃ (l : Addr) (xs : List V) (W : List (List Nat)) (m most : Nat), vs = [.ref l, .int (m : Int), .int (most : Int)] ∧ H l = some (.lst xs) ∧ TNs H xs W ∧ W.length ≤ 1000000 ∧ m ≤ 20 ∧ most ≤ 10 ∧
  ∀ H' v, Same H H' → OptTN H' v (meetF (List.range m) W most) → Q v H'
theorem cd_Lmeeting (T : Tx K mg) : Cd P w K mg base CX0 "_law_meeting" 2 ["_law_every", "_law_many", "_law_most"] sp_Lmeeting := by
  have G_Lchosen : Cd P w K mg base CX0 "_law_chosen" 1 ["_law_many", "_law_size"] sp_Lchosen := cd_Lchosen T
  refine Cd.of T.d_Lmeeting (fun _ _ _ _ _ _ us hl => match us, hl with | [_, _, _], _ => rfl) fun f fd F => ?_
  refine F.ok sc_Lmeeting (fun vs H Q E h => ?_) (fun cdv A outer s H vs Q E hr h => ?_)
  · obtain ⟨l, xs, W, m, most, rfl, _⟩ := h
    rfl
  · obtain ⟨l, xs, W, m, most, rfl, hl, hX, hW, hm20, hmost, q⟩ := h
    have hlenX := hX.len
    refine ⟨_, (pss_cons (ps_for PassesOwn.never rfl (pi_range1 (by rfl) T.b_range (pa_cons (pe_op op_add (pv 2) pe_int) pa_nil)) (pg_name (i := 3) sc_Lmeeting.nd rfl (by first | exact Or.inl rfl | exact Or.inr rfl))
      (pss_one (ps_for PassesOwn.never rfl (pi_list (pe_callD G_Lchosen (hr.mono (by decide)) pass0 (pa_cons (pv 1) (pa_cons (pv 3) pa_nil)))) (pg_name (i := 4) sc_Lmeeting.nd rfl (by first | exact Or.inl rfl | exact Or.inr rfl))
      (pss_one (ps_if (pt_val (pe_callB (id := "all") (cr_all (by rfl)) (by rfl) T.b_all (by decide +kernel) (pa_cons (pe_lc (own := [("_law_way", 6)]) (g := (gName 6)) (tt := tYes) (te := (tCB (rAny K) (tCons (tLc (iTup K (tVar 4)) (gName 5) tYes (tOp (rIn K false) (tVar 5) (tVar 6)) [5]) tNil))) (by rfl) sc_Lmeeting.nd (pi_list (pv 0)) (blkOk_by (own := [("_law_way", 6)]) (N := ["_law_every", "_law_many", "_law_most", "_law_size", "_law_lot", "_law_k", "_law_way"]) (sc := defScope s_Lmeeting) (by decide +kernel)) (fun _ _ _ _ _ => (pg_name (i := 6) sc_Lmeeting.nd rfl (by first | exact Or.inl rfl | exact Or.inr rfl))) (fun _ _ _ _ _ => pts_nil) (fun _ _ _ _ _ => (pe_callB (id := "any") (cr_any (by rfl)) (by rfl) T.b_any (by decide +kernel) (pa_cons (pe_lc (own := [("_law_k", 5)]) (g := (gName 5)) (tt := tYes) (te := (tOp (rIn K false) (tVar 5) (tVar 6))) (by rfl) sc_Lmeeting.nd (pi_tup (pv 4)) (blkOk_by (own := [("_law_k", 5)]) (N := ["_law_every", "_law_many", "_law_most", "_law_size", "_law_lot", "_law_k", "_law_way"]) (sc := relS scB_Lmeeting (defScope s_Lmeeting)) (by decide +kernel)) (fun _ _ _ _ _ => (pg_name (i := 5) sc_Lmeeting.nd rfl (by first | exact Or.inl rfl | exact Or.inr rfl))) (fun _ _ _ _ _ => pts_nil) (fun _ _ _ _ _ => (pe_cmpR op_in_seq (pv 5) (pv 6) rfl))) pa_nil)))) pa_nil))) (pss_one (ps_ret (pv 4))) pss_nil)))))
      (pss_one (ps_ret pe_non))), ?_⟩
    refine ⟨_, rfl, (most : Int), 1, rfl, rfl, ((most + 1 : Nat) : Int), rfl, by omega, by omega, for_range (lo := 0) (n := most + 1) (fun i σ H3 => ∃ (y3 y4 : Option V), σ = [some (.ref l), some (.int (m : Int)), some (.int (most : Int)), y3, y4, none, none] ∧ Same H H3 ∧
        (((List.range (most + 1)).take i).flatMap (chosenF (List.range m))).find? (hits W) = none)
      ⟨none, none, rfl, Same.refl _, by simp⟩ ?_ ?_⟩
    · rintro i σ H3 hi ⟨y3, y4, rfl, s3, hnone⟩
      rw [show ((0 : Int) + (i : Int)) = (i : Int) from Int.zero_add _]
      have hir : (List.range (most + 1))[i]? = some i := List.getElem?_range hi
      refine ⟨_, rfl, _, rfl, m, i, rfl, hm20, by omega, ?_⟩
      rintro H5 v ⟨g, rfl, s35, hg, zs, hz, hZ⟩
      refine ⟨g, rfl, ⟨zs, SqL.of hz⟩, for_list (K := K) (a := g) (xs := zs) (fun j σ H6 => ∃ (y4 : Option V), σ = [some (.ref l), some (.int (m : Int)), some (.int (most : Int)), some (.int (i : Int)), y4, none, none] ∧ Same H5 H6 ∧
          ((chosenF (List.range m) i).take j).find? (hits W) = none)
        ⟨y4, rfl, Same.refl _, by simp⟩ (fun j σ H6 _ ⟨_, _, s6, _⟩ => SqL.of (s6 _ _ hz)) ?_ ?_⟩
      · rintro j x σ H6 hj ⟨y4, rfl, s6, hnone6⟩
        obtain ⟨lot, hlot, b, rfl, hb⟩ := (hZ.kt (Kt.same s6)).get hj
        have hll : lot.length = i := (mem_chosen.mp (List.mem_of_getElem? hlot)).2.1
        have s26 : Same H H6 := (s3.trans s35).trans s6
        have hl6 : H6 l = some (.lst xs) := s26 _ _ hl
        have hX6 : TNs H6 xs W := hX.kt (Kt.same s26)
        refine ⟨_, rfl, l, rfl, ⟨xs, SqL.of hl6⟩, fun D hD => lcL (R := BV) BV.kt (outM W fun way => lot.any fun k => way.contains k) hD (SqL.of hl6) (outM_0 _ _) (fun i => Nat.lt_of_le_of_lt (outM_len _ _ _) (by omega)) ?_ ?_⟩
        · intro u x H7 N hu7 s7 Nx
          obtain ⟨way, hway, c, rfl, hc⟩ := (hX6.kt (Kt.same s7)).get hu7
          refine ⟨rfl, yesGo ?_⟩
          refine ⟨_, rfl, b, rfl, ⟨_, SqT.of (s7 _ _ hb)⟩, fun D2 hD2 => lcT (R := BV) BV.kt (outM lot fun k => way.contains k) hD2 (s7 _ _ hb) (outM_0 _ _) (fun i => Nat.lt_of_le_of_lt (outM_len _ _ _) (by omega)) ?_ ?_⟩
          · intro u2 x H8 N2 hu8 s8 Nx2
            rw [iVs_get] at hu8
            obtain ⟨k, hk, rfl⟩ := Option.map_eq_some_iff.mp hu8
            refine ⟨rfl, yesGo ?_⟩
            refine ⟨_, rfl, _, rfl, c, iVs way, rfl, .inr (SqT.of (s8 _ _ hc)), rfl, iVs_flat way, ?_⟩
            refine Nx2.yes H8 _ _ (Same.refl _) ?_ (outM_1 hk)
            show V.bl (if false = true then _ else _) = _
            rw [if_neg Bool.false_ne_true, inV_iff]
          · intro H8 bs s8 hD8 r8
            have e8 := bv_map r8
            rw [iVs_len, outM_all (Nat.le_refl _)] at e8
            refine ⟨D2, lot.map (fun k => way.contains k), rfl, SqL.of (by rw [hD8, e8]), ?_⟩
            refine Nx.yes H8 _ _ s8 ?_ (outM_1 hway)
            show V.bl _ = V.bl _
            rw [List.any_map]
            rfl
        · intro H7 bs s7 hD7 r7
          have e7 := bv_map r7
          rw [hlenX, outM_all (Nat.le_refl _)] at e7
          refine ⟨D, W.map (fun way => lot.any fun k => way.contains k), rfl, SqL.of (by rw [hD7, e7]), _, rfl, ?_⟩
          have eh : ((W.map fun way => lot.any fun k => way.contains k).all id) = hits W lot := by
            unfold hits
            rw [List.all_map]
            rfl
          rw [eh]
          cases hh : hits W lot with
          | true =>
            refine iteT ⟨_, rfl, q H7 _ (s26.trans s7) ?_⟩
            have e : meetF (List.range m) W most = some lot := flat_some hnone hir (find_some hnone6 hlot hh)
            rw [e]
            exact ⟨b, rfl, s7 _ _ hb⟩
          | false =>
            exact iteF ⟨_, rfl, s6.trans s7, find_none hnone6 hlot hh⟩
      · rintro σ H6 ⟨y4, rfl, s6, hnone6⟩
        rw [hZ.len, List.take_length] at hnone6
        exact ⟨_, _, rfl, (s3.trans s35).trans s6, flat_none hnone hir hnone6⟩
    · rintro σ H3 ⟨y3, y4, rfl, s3, hnone⟩
      have e : meetF (List.range m) W most = none := by
        rw [List.take_of_length_le (by simp)] at hnone
        exact hnone
      refine q H3 _ s3 ?_
      rw [e]
      rfl
end
end Ut
/-! Rules of our own: sorted of ways. -/
namespace Ut
open PySem PySem.Spec PyProof.Rows L2
/-! ### the order of ways -/
def encW (w : List Nat) : PyData := .tuple ((w.map fun (n : Nat) => (n : Int)).map .int)
def leW (p q : List Nat) : Bool := PySem.W.dataLe false encW p q
def sortW (W : List (List Nat)) : List (List Nat) := W.mergeSort leW
theorem leW_eq (p q : List Nat) : leW p q = decide ((p.map fun (n : Nat) => (n : Int)) ≤ q.map fun (n : Nat) => (n : Int)) := by
  show (!PySem.W.dataLt (encW q) (encW p)) = _
  unfold encW
  rw [PySem.W.dataLt_tuple]
  show (!PySem.W.rowLt _ _) = _
  rw [PySem.W.dataLt_ints]
  by_cases h : (q.map fun (n : Nat) => (n : Int)) < p.map fun (n : Nat) => (n : Int)
  · have h' : ¬ (p.map fun (n : Nat) => (n : Int)) ≤ q.map fun (n : Nat) => (n : Int) := fun r => List.not_lt.mpr r h
    rw [decide_eq_true h, decide_eq_false h']
    rfl
  · have h' : (p.map fun (n : Nat) => (n : Int)) ≤ q.map fun (n : Nat) => (n : Int) := List.not_lt.mp h
    rw [decide_eq_false h, decide_eq_true h']
    rfl
theorem cast_inj : ∀ {p q : List Nat}, (p.map fun (n : Nat) => (n : Int)) = q.map (fun (n : Nat) => (n : Int)) → p = q
  | [], [], _ => rfl
  | [], _ :: _, h => by simp at h
  | _ :: _, [], h => by simp at h
  | a :: p, b :: q, h => by
    rw [List.map_cons, List.map_cons] at h
    obtain ⟨h1, h2⟩ := List.cons.inj h
    rw [cast_inj h2, show a = b by omega]
theorem leW_trans (a b c : List Nat) (h1 : leW a b = true) (h2 : leW b c = true) : leW a c = true := by
  rw [leW_eq] at h1 h2 ⊢
  exact decide_eq_true (List.le_trans (of_decide_eq_true h1) (of_decide_eq_true h2))
theorem leW_total (a b : List Nat) : (leW a b || leW b a) = true := by
  rw [leW_eq, leW_eq, Bool.or_eq_true]
  rcases List.le_total (a.map fun (n : Nat) => (n : Int)) (b.map fun (n : Nat) => (n : Int)) with h | h
  · exact .inl (decide_eq_true h)
  · exact .inr (decide_eq_true h)
theorem leW_anti (a b : List Nat) (h1 : leW a b = true) (h2 : leW b a = true) : a = b := by
  rw [leW_eq] at h1 h2
  exact cast_inj (List.le_antisymm (of_decide_eq_true h1) (of_decide_eq_true h2))
theorem sortW_perm (W : List (List Nat)) : (sortW W).Perm W := List.mergeSort_perm _ _
theorem sortW_eq {W W' : List (List Nat)} (h : W.Perm W') : sortW W = sortW W' := by
  refine List.Perm.eq_of_pairwise (le := fun a b => leW a b = true) (fun a b _ _ h1 h2 => leW_anti a b h1 h2) ?_ ?_ (((sortW_perm W).trans h).trans (sortW_perm W').symm)
  · exact List.pairwise_mergeSort leW_trans leW_total W
  · exact List.pairwise_mergeSort leW_trans leW_total W'

/-! ### ways as data -/
theorem dp_ints {K : PySem.W.Frag} {H : Hp} : ∀ ns : List Nat, DpAll K H (iVs ns) ((ns.map fun (n : Nat) => (n : Int)).map .int)
  | [] => .nil
  | n :: ns => .cons (.int _) (dp_ints ns)
theorem TN.dp {K : PySem.W.Frag} {H : Hp} {v : V} {ns : List Nat} (h : TN H v ns) : Dp K H v (encW ns) := by
  obtain ⟨a, rfl, ha⟩ := h
  exact .tup (SqT.of ha) (dp_ints ns)
theorem TNs.dp {K : PySem.W.Frag} {H : Hp} : ∀ {xs : List V} {L : List (List Nat)}, TNs H xs L → DpAll K H xs (L.map encW)
  | _, _, .nil => .nil
  | _, _, .cons r t => .cons r.dp (TNs.dp t)
theorem encW_depth (w : List Nat) : (encW w).depth ≤ 1 := by
  unfold encW
  have := PySem.W.depth_ints (w.map fun (n : Nat) => (n : Int))
  simp only [PyData.depth]
  omega
theorem encW_alike (p q : List Nat) : PySem.W.alike (encW p) (encW q) = true := by
  unfold encW
  rw [PySem.W.alike]
  exact PySem.W.alike_ints _ _
/-- sorted(xs), xs a list of ways -/
def rSortedW (K : PySem.W.Frag) : List V → Hp → VK → Prop := fun vs H Q => ∃ (a : Addr) (xs : List V) (W : List (List Nat)), vs = [V.ref a] ∧ SqL K H a xs ∧ TNs H xs W ∧ (∀ w ∈ W, w ≠ []) ∧ W.length ≤ 4000000 ∧
  ∀ ys p, H p = none → TNs H ys (sortW W) → Q (.ref p) (upd H p (.lst ys))
/-- a tuple's value -/
def RvT (H : Hp) (u : Value) (w : List Nat) : Prop := ∃ a, u = Value.ref a ∧ H a = some (.tup (iVs w))
theorem each_of {X : Cx} {pins : List (Addr × Obj)} {σ : L2.St} {H : Hp} {s : Shared} (I : Inv X pins σ H s) : ∀ {xs : List V} {us : List Value} {W : List (List Nat)}, TNs H xs W → Vals xs us →
    PySem.W.EachIs (RvT H) us W ∧ PySem.W.EachIs (fun u w => ∃ as, Reads s.heap u (encW w) as) us W
  | _, _, _, .nil, .nil => ⟨.nil, .nil⟩
  | _, _, _, .cons r t, .cons rv tv => by
    obtain ⟨h1, h2⟩ := each_of I t tv
    refine ⟨.cons ?_ h1, .cons (Dp.reads I _ _ _ r.dp rv) h2⟩
    obtain ⟨a, rfl, ha⟩ := r
    exact ⟨a, rv, ha⟩
theorem of_each {H : Hp} : ∀ {us : List Value} {W : List (List Nat)}, PySem.W.EachIs (RvT H) us W → ∃ ys, Vals ys us ∧ TNs H ys W
  | _, _, .nil => ⟨[], .nil, .nil⟩
  | _, _, .cons r t => by
    obtain ⟨ys, h1, h2⟩ := of_each t
    obtain ⟨a, rfl, ha⟩ := r
    exact ⟨.ref a :: ys, .cons rfl h1, .cons ⟨a, rfl, ha⟩ h2⟩
theorem cr_sortedW {X : Cx} (hu : X.A.units + 64 < cLine) : CallR X (.builtin "sorted") (rSortedW X.K) := by
  intro pins s σ H vs us Q I r h
  obtain ⟨a, xs, W, rfl, hs, hX, hne, hz, q⟩ := h
  obtain ⟨its, rv, pl, hl⟩ := I.list hs
  obtain ⟨u, rfl, ru⟩ := vals1 r
  obtain rfl : u = Value.ref a := ru
  obtain ⟨e1, e2⟩ := each_of I hX rv
  refine PySem.W.sorted_data (enc := encW) pl.isList e1 e2 (PySem.W.AllAlike.of encW_alike) (.inl fun d hd => ?_) (line_le hz) (fun w _ => ?_) fun out ho eo => ?_
  · obtain ⟨w, hw, rfl⟩ := List.mem_map.mp hd
    cases w with
    | nil => exact absurd rfl (hne _ hw)
    | cons n r => exact ⟨_, _, rfl⟩
  · have := encW_depth w
    omega
  · have eo' : PySem.W.EachIs (RvT H) out (sortW W) := eo
    obtain ⟨ys, hv, hy⟩ := of_each eo'
    obtain ⟨e, he⟩ := sortedAll_at s.heap its out.toArray
    have hn : H (s.heap.objs.size + 1) = none := I.hok.fresh (Nat.le_succ _)
    have new : ObjOk X.prog X.w (upd H (s.heap.objs.size + 1) (.lst ys)) (sortedAll s.heap its out.toArray) (s.heap.objs.size + 1) (.lst ys) := by
      refine ⟨?_, out, e, hv, he⟩
      rw [hv.length, ho]
      exact line_le hz
    exact ⟨.ref (s.heap.objs.size + 1), _, I.laid (t' := s.toks) (fun b o z => sortedAll_old z) (Nat.le_succ _) new, rfl, q ys _ hn hy⟩
end Ut
/-! Rules of our own: enumerate of a tuple. -/
namespace Ut
open PySem PySem.Spec PyProof.Rows L2
open AutoSeq1 (wpAny_loadPart')
/-- enumerate(t), t a tuple: made -/
theorem meets_enumT (l : Addr) (items : Array Value) (n : Nat) (dct : Option Addr) (sl : Array (Option Value)) :
    Meets (Builtin.«enumerate.__new__» ⟨[.type "enumerate", .ref l], []⟩) (fun _ R s =>
      s.heap.get? l = some { cls := .type "tuple", dict := dct, data := .seq items n, slots := sl } ∧
      R (.ok (.ret (.ref (s.heap.push { cls := .type "tuple_iterator", data := .fields #[.ref l, .int 0 0] }).objs.size)))
        { s with heap := (s.heap.push { cls := .type "tuple_iterator", data := .fields #[.ref l, .int 0 0] }).push { cls := .type "enumerate", data := .fields #[.none, .bool false, .ref s.heap.objs.size, rawInt 0, .none, .none] } }) :=
  .of_wp fun prog w A R s h => by
    obtain ⟨hp, g, d, tk, os⟩ := s
    obtain ⟨hl, h⟩ := h
    have sub := sub_enumerate
    have isT : Heap.IsTuple (Shared.heap ⟨hp, g, d, tk, os⟩) l items := ⟨_, hl, rfl, n, rfl⟩
    wp_walk using wpAny_loadPart' hl
    refine wpAny_stack_any fun st => wpAny_pure ?_
    split
    · rename_i c _ _ _ _ _
      cases (c == Value.type "enumerate") <;>
        (wp_walk using wpAny_loadPart' hl, wpAny_pyIter_tuple isT
         exact ⟨_, rfl, h⟩)
    · wp_walk using wpAny_loadPart' hl, wpAny_pyIter_tuple isT
      exact ⟨_, rfl, h⟩
theorem call_enumT {prog : Program} {w : World} {A : Around} {E : Value → Shared → Prop} {s : Shared} {l : Addr} {items : Array Value} {Q : Value → Shared → Prop} (hL : s.heap.IsTuple l items)
    (h : ∀ h', IsEnum h' (s.heap.objs.size + 1) s.heap.objs.size 0 .none → h'.IsTupleIter s.heap.objs.size l 0 →
      (∀ b o, s.heap.get? b = some o → h'.get? b = some o) → Q (.ref (s.heap.objs.size + 1)) { s with heap := h' }) :
    wpAny (model prog w) A (call (.type "enumerate") [.ref l]) Q E s := by
  obtain ⟨⟨c, dct, dt, sl⟩, hl, hc, n, hd⟩ := hL
  have hc' : c = .type "tuple" := hc
  have hd' : dt = .seq items n := hd
  subst hc'
  subst hd'
  refine callType_new F.called_enumerate (by decide) (F.typeCall_enumerate_1 _) (F.newCall_enumerate_1 _)
    (fun obj => F.args_object_init_2 obj _) F.entry_enumerate_new (meets_enumT l items n dct sl) ⟨hl, ?_⟩
  have sz : (s.heap.push { cls := .type "tuple_iterator", data := .fields #[.ref l, .int 0 0] }).objs.size = s.heap.objs.size + 1 := Heap.size_push ..
  show _ ∧ _
  rw [sz]
  have new := Heap.get?_push_size (s.heap.push { cls := .type "tuple_iterator", data := .fields #[.ref l, .int 0 0] })
    (o := { cls := .type "enumerate", data := .fields #[.none, .bool false, .ref s.heap.objs.size, rawInt 0, .none, .none] }) rfl
  rw [sz] at new
  have he : IsEnum ((s.heap.push { cls := .type "tuple_iterator", data := .fields #[.ref l, .int 0 0] }).push
      { cls := .type "enumerate", data := .fields #[.none, .bool false, .ref s.heap.objs.size, rawInt 0, .none, .none] }) (s.heap.objs.size + 1) s.heap.objs.size 0 .none := new
  have old : ((s.heap.push { cls := .type "tuple_iterator", data := .fields #[.ref l, .int 0 0] }).push { cls := .type "enumerate", data := .fields #[.none, .bool false, .ref s.heap.objs.size, rawInt 0, .none, .none] }).get? s.heap.objs.size = some { cls := .type "tuple_iterator", data := .fields #[.ref l, .int 0 0] } :=
    Heap.get?_push_of_some _ (Heap.get?_push_size _ rfl)
  refine ⟨⟨_, he, rfl⟩, h _ he ⟨_, old, rfl, rfl⟩ fun b o x => ?_⟩
  exact Heap.get?_push_of_some _ (Heap.get?_push_of_some _ x)

/-- the tuple at a, each item in a new pair -/
def Iet (K : PySem.W.Frag) (a : Addr) : It :=
  ⟨fun i H => ∃ (xs : List V) (x : V), SqT K H a xs ∧ xs[i]? = some x,
    fun i H v H' => ∃ T x, v = .ref T ∧ H T = none ∧ H' = upd H T (.tup [.int (i : Nat), x]) ∧ ∀ xs, SqT K H a xs → xs[i]? = some x,
    fun i H => ∃ xs : List V, SqT K H a xs ∧ xs.length = i⟩
theorem iter_ne {h : Heap} {t it : Addr} {i : Nat} {items : Array Value} (h1 : h.IsTuple t items) (h2 : h.IsTupleIter it t i) : t ≠ it := by
  rintro rfl
  obtain ⟨o, e1, c1, _⟩ := h1
  obtain ⟨o', e2, c2, _⟩ := h2
  rw [e1] at e2
  cases e2
  rw [c1] at c2
  exact absurd c2 (by decide +kernel)
theorem turn_enumT {P : Program} {w : World} {K : PySem.W.Frag} {elts : List Expr} {kk : Nat} {tpos : Pos} (a e it : Addr) :
    Turn P w K (.Tuple elts kk tpos) (Iet K a) [e, it] e (fun i h => (∃ old, IsEnum h e it ((i : Nat) : Int) old) ∧ h.IsTupleIter it a i ∧ e ≠ it) where
  mem := by simp
  obj := fun i h st b hb => by
    obtain ⟨⟨old, he⟩, ⟨o, ho, _, hd⟩, _⟩ := st
    rcases (show b = e ∨ b = it by simpa using hb) with z | z
    · subst z
      exact ⟨_, he, fun v q => nomatch q⟩
    · subst z
      exact ⟨o, ho, fun v q => by rw [hd] at q; cases q⟩
  keep := fun i h h' st k => by
    obtain ⟨⟨old, he⟩, hi, hne⟩ := st
    exact ⟨⟨old, k e (by simp) _ he⟩, hi.at fun o q => k it (by simp) o q, hne⟩
  item := by
    intro X hP hw hK hc i pins s σ H E I hf st hg
    subst hP
    subst hw
    subst hK
    obtain ⟨⟨old, he⟩, hit, hne⟩ := st
    obtain ⟨xs, x, hq, hx⟩ := hg
    obtain ⟨its, rv, p, _⟩ := I.tuple hq
    have p' : s.heap.IsTuple a its.toArray := p
    have nai : a ≠ it := iter_ne p' hit
    obtain ⟨u, hu, ru⟩ := rv.get hx
    have hlt : i < its.toArray.size := by
      have := (List.getElem?_eq_some_iff.mp hu).1
      simpa using this
    have el : e < s.heap.objs.size := Heap.lt_size he
    have il : it < s.heap.objs.size := by
      obtain ⟨_, q, _⟩ := hit
      exact Heap.lt_size q
    have nae : e ∉ [it, a] := by
      intro hm
      rcases (show e = it ∨ e = a by simpa using hm) with z | z
      · exact hne z
      · obtain ⟨o, e1, c1, _⟩ := p'
        have he' : s.heap.get? e = some _ := he
        rw [z, e1] at he'
        cases he'
        have c2 : Value.type "enumerate" = Value.type "tuple" := c1
        exact absurd c2 (by decide +kernel)
    refine wpAny_pyNext_enum_itemD (Draws.tuple (A := X.A.in1) (I.ok.hd hc) it a nai its.toArray) he ⟨hit, p'⟩ hlt hne nae fun u' h' tk hu' ho hit' hT hsz hk => ?_
    have eu : u' = u := by
      have h1 : its.toArray[i]? = some u := by simpa using hu
      rw [h1] at hu'
      exact (Option.some.inj hu').symm
    subst eu
    refine ⟨_, rfl, wpAny_letOwnedTupleGo_enum (s := { s with heap := h', toks := tk + 1 }) ho fun h2 he2 sb => ?_⟩
    have hT2 := (sb.2 _ (Nat.ne_of_gt el)).trans hT
    have new : ObjOk X.prog X.w (upd H s.heap.objs.size (.tup [.int (i : Nat), x])) h2 s.heap.objs.size (.tup [.int (i : Nat), x]) :=
      ⟨line_le (by show 2 ≤ _; omega), [.int i tk, u'], .cons ⟨_, rfl⟩ (.cons ru .nil), ⟨_, hT2, rfl, _, rfl⟩⟩
    have I1 : Inv X pins σ (upd H s.heap.objs.size (.tup [.int (i : Nat), x])) { s with heap := h2, toks := tk + 1 } :=
      I.turnedNew (ch := [e, it]) (fun b ob hb q => by
        have be : b ≠ e := fun z => hb (by simp [z])
        have bi : b ≠ it := fun z => hb (by simp [z])
        exact (sb.2 b be).trans (hk b ob be bi q)) hf (Nat.le_refl _) new
    refine ⟨.ref s.heap.objs.size, _, I1, rfl, ⟨_, x, rfl, I.hok.fresh (Nat.le_refl _), rfl, fun ys hy => ?_⟩, ⟨⟨u', ?_⟩, hit'.1.at fun o q => (sb.2 it (Ne.symm hne)).trans q, hne⟩, fun b hb => ?_⟩
    · rw [I.tuple_inj hy hq]
      exact hx
    · have e1 : ((i + 1 : Nat) : Int) = (i : Int) + 1 := by omega
      rw [e1]
      exact he2
    · have hb' : b < s.heap.objs.size := by
        rcases (show b = e ∨ b = it by simpa using hb) with z | z
        · exact z ▸ el
        · exact z ▸ il
      rw [upd_ne (Nat.ne_of_lt hb')]
      exact (hf b hb).1
  done := by
    intro X hP hw hK hc i pins s σ H E I hf st hg
    subst hP
    subst hw
    subst hK
    obtain ⟨⟨old, he⟩, hit, hne⟩ := st
    obtain ⟨xs, hq, hx⟩ := hg
    obtain ⟨its, rv, p, _⟩ := I.tuple hq
    have p' : s.heap.IsTuple a its.toArray := p
    have nai : a ≠ it := iter_ne p' hit
    obtain ⟨f0, f1, f2, f3, f4, f5⟩ := hf it (by simp)
    have hl := rv.length
    have hi : i = its.toArray.size := by
      rw [List.size_toArray]
      omega
    exact wpAny_pyNext_enum_endD (Draws.tuple (A := X.A.in1) (I.ok.hd hc) it a nai its.toArray) he ⟨hi ▸ hit, p'⟩ fun h' eb => ⟨rfl, I.turned (t' := s.toks) (fun b o hb q => eb b o hb q) f0 f1 f3 f4 f5⟩
  self := fun A i s Q E st h => by
    obtain ⟨⟨_, he⟩, _⟩ := st
    exact wpAny_pyIter_enum he h
def iEnumT (K : PySem.W.Frag) (ta : TA) : TI := fun σ H R => ta σ H fun vs H1 => ∃ a xs, vs = [.ref a] ∧ SqT K H1 a xs ∧ R (Iet K a) H1
theorem pi_enumT {X : Cx} {e : Expr} {ta : TA} {p pos tpos : Pos} {elts : List Expr} {kk : Nat} (hg : Gl X "enumerate") (hm : X.mg "enumerate" = none) (ha : PA X [e] ta) (hs : starEach [e] X.env = [(false, eval e X.env)] := by rfl) :
    PI X (.Tuple elts kk tpos) (.Call (.Name "enumerate" p) [e] [] pos) (iEnumT X.K ta) := by
  refine ⟨fun pins s σ H R I h => ?_⟩
  refine Call_ (ld_blt I hg hm boot_enumerate (PyProof.Rows.callWith_type1 (thn (ha.run pos pins s σ H _ I h) fun us s1 hh => ?_) hs rfl))
  obtain ⟨vs, H1, I1, r1, a, xs, ex, hq, q⟩ := hh
  subst ex
  obtain ⟨u, rfl, ru⟩ := vals1 r1
  obtain rfl : u = Value.ref a := ru
  obtain ⟨its, rv, p', _⟩ := I1.tuple hq
  refine call_enumT (show s1.heap.IsTuple a its.toArray from p') fun h' he hit hk => wpAny_pyIter_enum he ?_
  have I2 : Inv X pins σ H1 { s1 with heap := h' } := I1.kept (t' := s1.toks) hk
  refine ⟨s1.heap.objs.size + 1, [s1.heap.objs.size + 1, s1.heap.objs.size], _, _, H1, rfl, I2, turn_enumT a (s1.heap.objs.size + 1) s1.heap.objs.size, ⟨⟨.none, he⟩, hit, Nat.succ_ne_self _⟩, fun b hb => ?_, q⟩
  have hle : s1.heap.objs.size ≤ b := by
    rcases (show b = s1.heap.objs.size + 1 ∨ b = s1.heap.objs.size by simpa using hb) with z | z
    · rw [z]
      exact Nat.le_add_right _ _
    · rw [z]
      exact Nat.le_refl _
  exact I1.fpOk hle (I1.hok.fresh hle)
/-- for i, x in enumerate(t) -/
theorem for_enumT {K : PySem.W.Frag} {a : Addr} {xs : List V} {g : TG} {tb : TS} {D : Ends} {σ : L2.St} {H : Hp} (Pv : Nat → L2.St → Hp → Prop) (h0 : Pv 0 σ H) (hl : ∀ i σ H, i ≤ xs.length → Pv i σ H → SqT K H a xs)
    (hs : ∀ i x T σ H, xs[i]? = some x → Pv i σ H → H T = none → g (.ref T) σ (upd H T (.tup [.int (i : Nat), x])) fun σ2 H2 => tb { D with nx := Pv (i + 1), ct := Pv (i + 1), bk := D.nx } σ2 H2)
    (hd : ∀ σ H, Pv xs.length σ H → D.nx σ H) :
    ∃ W : Nat → Nat → L2.St → Hp → Prop, (∃ m, W 0 m σ H) ∧ ∀ i m σ H, W i m σ H →
      ((Iet K a).stop i H ∧ D.nx σ H) ∨ ((Iet K a).go i H ∧ ∃ N : L2.St → Hp → Prop, (∀ σ' H', N σ' H' → ∃ m', m' < m ∧ W (i + 1) m' σ' H') ∧
        ∀ x H', (Iet K a).yld i H x H' → g x σ H' fun σ2 H2 => tb { D with nx := N, ct := N, bk := D.nx } σ2 H2) := by
  refine ⟨fun i m σ H => m = xs.length - i ∧ i ≤ xs.length ∧ Pv i σ H, ⟨xs.length, by simp, Nat.zero_le _, h0⟩, ?_⟩
  rintro i m σ H ⟨rfl, hi, p⟩
  have q := hl i σ H hi p
  by_cases hlt : i < xs.length
  · refine .inr ⟨⟨xs, xs[i], q, by simp [hlt]⟩, Pv (i + 1), fun σ' H' p' => ⟨xs.length - (i + 1), by omega, rfl, hlt, p'⟩, ?_⟩
    rintro x H' ⟨T, y, rfl, hT, rfl, hy⟩
    exact hs i y T σ H (hy xs q) p hT
  · have e : i = xs.length := by omega
    subst e
    exact .inl ⟨⟨xs, q, rfl⟩, hd σ H p⟩
end Ut
/-! checks.py, maps.py: lots and arrows. -/
namespace Ut
open PySem PySem.Spec PyProof.Rows L2
/-! ### bits -/
theorem bit_and (a b : Nat) : Builtin.bitAnd (a : Int) (b : Int) = ((a &&& b : Nat) : Int) := by
  unfold Builtin.bitAnd
  have n1 : decide ((0 : Int) ≤ (a : Int)) = true := decide_eq_true (Int.natCast_nonneg a)
  have n2 : decide ((0 : Int) ≤ (b : Int)) = true := decide_eq_true (Int.natCast_nonneg b)
  rw [n1, n2]
  show (((a : Int).toNat &&& (b : Int).toNat : Nat) : Int) = _
  rw [Int.toNat_natCast, Int.toNat_natCast]
theorem bit_and1 (r h : Nat) : Builtin.bitAnd ((r : Int) / 2 ^ ((h : Int)).toNat) 1 = if r.testBit h = true then 1 else 0 := by
  have e : ((r : Int) / 2 ^ ((h : Int)).toNat) = ((r / 2 ^ h : Nat) : Int) := by
    rw [Int.toNat_natCast]
    push_cast
    rfl
  rw [e, show (1 : Int) = ((1 : Nat) : Int) from rfl, bit_and, Nat.and_one_is_mod]
  by_cases hb : r.testBit h = true
  · rw [if_pos hb]
    rw [Nat.testBit_eq_decide_div_mod_eq] at hb
    have := of_decide_eq_true hb
    omega
  · rw [if_neg hb]
    rw [Nat.testBit_eq_decide_div_mod_eq] at hb
    have : ¬ (r / 2 ^ h % 2 = 1) := fun z => hb (decide_eq_true z)
    omega
theorem bit_or (a b : Nat) : Builtin.bitOr (a : Int) (b : Int) = ((a ||| b : Nat) : Int) := by
  unfold Builtin.bitOr Builtin.bitAnd
  have n1 : decide (0 ≤ Builtin.bitNot (a : Int)) = false := decide_eq_false (by unfold Builtin.bitNot; omega)
  have n2 : decide (0 ≤ Builtin.bitNot (b : Int)) = false := decide_eq_false (by unfold Builtin.bitNot; omega)
  rw [n1, n2]
  have e1 : Builtin.bitNot (Builtin.bitNot (a : Int)) = a := by unfold Builtin.bitNot; omega
  have e2 : Builtin.bitNot (Builtin.bitNot (b : Int)) = b := by unfold Builtin.bitNot; omega
  show Builtin.bitNot (Builtin.bitNot (((Builtin.bitNot (Builtin.bitNot (a : Int))).toNat ||| (Builtin.bitNot (Builtin.bitNot (b : Int))).toNat : Nat) : Int)) = _
  rw [e1, e2, Int.toNat_natCast, Int.toNat_natCast]
  unfold Builtin.bitNot
  omega
theorem bit_in (g r : Nat) (h : r.testBit g = true) : Builtin.bitAnd ((2 ^ g : Nat) : Int) (Builtin.bitNot (r : Int)) = 0 := by
  unfold Builtin.bitAnd
  have n1 : decide ((0 : Int) ≤ ((2 ^ g : Nat) : Int)) = true := decide_eq_true (Int.natCast_nonneg _)
  have n2 : decide (0 ≤ Builtin.bitNot (r : Int)) = false := decide_eq_false (by unfold Builtin.bitNot; omega)
  rw [n1, n2]
  have e2 : Builtin.bitNot (Builtin.bitNot (r : Int)) = r := by unfold Builtin.bitNot; omega
  show ((2 ^ g : Nat) : Int) - (((((2 ^ g : Nat) : Int)).toNat &&& (Builtin.bitNot (Builtin.bitNot (r : Int))).toNat : Nat) : Int) = 0
  have e3 : 2 ^ g &&& r = 2 ^ g := by
    apply Nat.eq_of_testBit_eq
    intro i
    rw [Nat.testBit_and, Nat.testBit_two_pow]
    by_cases z : g = i
    · rw [← z, h]
      simp
    · simp [z]
  rw [e2, Int.toNat_natCast, Int.toNat_natCast, e3, Int.sub_self]
theorem pow_cast (h : Nat) : (1 : Int) * 2 ^ ((h : Int)).toNat = ((2 ^ h : Nat) : Int) := by
  rw [Int.toNat_natCast, Int.one_mul]
  push_cast
  rfl
section
variable {P : Program} {w : World} {K : PySem.W.Frag} {mg : Str → Option Value} {base : Heap}
def sp_mask_of : Sp := fun vs H Q _ => ∃ (a : Addr) (g : Nat), vs = [.ref a] ∧ H a = some (.tup (iVs [g])) ∧ g ≤ 1000 ∧ ∀ H', Same H H' → Q (.int ((2 ^ g : Nat) : Int)) H'
theorem cd_mask_of (T : Tx K mg) : Cd P w K mg base CX0 "mask_of" 1 ["lot"] sp_mask_of := by
  refine Cd.of T.d_mask_of (fun _ _ _ _ _ _ us hl => match us, hl with | [_], _ => rfl) fun f fd F => ?_
  refine F.ok sc_mask_of (fun vs H Q E h => ?_) (fun cdv A outer s H vs Q E hr h => ?_)
  · obtain ⟨a, g, rfl, _⟩ := h
    rfl
  · obtain ⟨a, g, rfl, ha, hg, q⟩ := h
    refine ⟨_, (pss_cons (ps_set (i := 1) sc_mask_of.nd rfl (by first | exact Or.inl rfl | exact Or.inr rfl) pe_int)
      (pss_cons (ps_for PassesOwn.never rfl (pi_tup (pv 0)) (pg_name (i := 2) sc_mask_of.nd rfl (by first | exact Or.inl rfl | exact Or.inr rfl))
      (pss_one (ps_set (i := 1) sc_mask_of.nd rfl (by first | exact Or.inl rfl | exact Or.inr rfl) (pe_op op_or (pv 1) (pe_op op_shl pe_int (pv 2))))))
      (pss_one (ps_ret (pv 1))))), ?_⟩
    refine ⟨_, rfl, a, rfl, ⟨_, SqT.of ha⟩, for_tup (K := K) (a := a) (xs := iVs [g]) (fun i σ H2 => ∃ (m : Int) (y : Option V), σ = [some (.ref a), some (.int m), y] ∧ H2 = H ∧ m = if i = 0 then 0 else ((2 ^ g : Nat) : Int))
      ⟨0, none, rfl, rfl, rfl⟩ (fun i σ H2 _ ⟨_, _, _, h, _⟩ => h ▸ SqT.of ha) ?_ ?_⟩
    · rintro i x σ H2 hi ⟨m, y, rfl, rfl, em⟩
      have hi0 : i = 0 ∧ x = .int (g : Int) := by
        match i, hi with
        | 0, hi => exact ⟨rfl, (Option.some.inj hi).symm⟩
        | n + 1, hi => exact absurd hi (by simp [iVs])
      obtain ⟨rfl, rfl⟩ := hi0
      rw [if_pos rfl] at em
      subst em
      refine ⟨_, rfl, _, rfl, 1, _, rfl, rfl, ⟨by omega, by omega, by decide⟩, 0, _, rfl, rfl, ?_⟩
      refine ⟨_, _, rfl, rfl, ?_⟩
      rw [if_neg (by omega), pow_cast, show (0 : Int) = ((0 : Nat) : Int) from rfl, bit_or, Nat.zero_or]
    · rintro σ H2 ⟨m, y, rfl, rfl, em⟩
      have em : m = ((2 ^ g : Nat) : Int) := em
      subst em
      exact ⟨_, rfl, q _ (Same.refl _)⟩
def sp_lot_of : Sp := fun vs H Q _ => vs = [.int 1] ∧ ∀ H' a, Same H H' → H a = none → H' a = some (.tup [.int 0]) → Q (.ref a) H'
theorem cd_lot_of (T : Tx K mg) : Cd P w K mg base CX0 "lot_of" 1 ["mask"] sp_lot_of := by
  refine Cd.of T.d_lot_of (fun _ _ _ _ _ _ us hl => match us, hl with | [_], _ => rfl) fun f fd F => ?_
  refine F.ok sc_lot_of (fun vs H Q E h => ?_) (fun cdv A outer s H vs Q E hr h => ?_)
  · obtain ⟨rfl, _⟩ := h
    rfl
  · obtain ⟨rfl, q⟩ := h
    refine ⟨_, (pss_cons (ps_set (i := 1) sc_lot_of.nd rfl (by first | exact Or.inl rfl | exact Or.inr rfl) (pe_lst pa_nil))
      (pss_cons (ps_set (i := 2) sc_lot_of.nd rfl (by first | exact Or.inl rfl | exact Or.inr rfl) pe_int)
      (pss_cons (ps_while PassesOwn.never (pt_cmpR op_gt (pv 0) pe_int (nomark _))
      (pss_cons (ps_if (pt_truth (pe_op op_and (pv 0) pe_int) (by intro _; rfl)) (pss_one (ps_expr (pe_bm PySem.F.plainAttrs_list PySem.F.slot_list_append PySem.F.type_list_append mt_append (pv 1) (pa_cons (pv 2) pa_nil)))) pss_nil)
      (pss_cons (ps_set (i := 0) sc_lot_of.nd rfl (by first | exact Or.inl rfl | exact Or.inr rfl) (pe_op op_shr (pv 0) pe_int))
      (pss_one (ps_aug (i := 2) sc_lot_of.nd rfl (by first | exact Or.inl rfl | exact Or.inr rfl) pe_int ip_add)))))
      (pss_one (ps_ret (pe_callTy (T := "tuple") call_tuple_of (by rfl) T.b_tuple (by decide +kernel) (pa_cons (pv 1) pa_nil))))))), ?_⟩
    refine ⟨line_le (by show 0 ≤ _; omega), fun l hl => ?_⟩
    refine ⟨fun m σ H2 => ∃ (ms it : Int) (xs : List V), σ = [some (.int ms), some (.ref l), some (.int it)] ∧ Same H H2 ∧ H2 l = some (.lst xs) ∧ ((m = 1 ∧ ms = 1 ∧ it = 0 ∧ xs = []) ∨ (m = 0 ∧ ms = 0 ∧ xs = [.int 0])),
      ⟨1, 1, 0, [], rfl, Same.new hl, upd_same, .inl ⟨rfl, rfl, rfl, rfl⟩⟩, ?_⟩
    rintro m σ H2 ⟨ms, it, xs, rfl, s2, h2, hh⟩
    refine ⟨_, rfl, _, _, rfl, rfl, _, rfl, ?_⟩
    rcases hh with ⟨rfl, rfl, rfl, rfl⟩ | ⟨rfl, rfl, rfl⟩
    · refine iteT ⟨fun σ' H' => ∃ m', m' < 1 ∧ _, fun σ' H' h => h, ?_⟩
      refine ⟨_, rfl, 1, 1, rfl, rfl, true, (show true = (Builtin.bitAnd 1 1 != 0) from by decide), iteT ?_⟩
      refine ⟨_, rfl, .inl ⟨rfl, _, SqL.of h2⟩, _, rfl, _, _, _, rfl, rfl, h2, line_lt (by show 0 ≤ _; omega), ?_⟩
      refine ⟨_, rfl, _, _, rfl, rfl, by decide, ?_⟩
      refine ⟨_, rfl, _, _, rfl, rfl, ?_⟩
      exact ⟨0, Nat.zero_lt_one, _, _, _, rfl, s2.mut hl, upd_same, .inr ⟨rfl, by decide, rfl⟩⟩
    · refine iteF ?_
      refine ⟨_, rfl, _, _, rfl, .inl ⟨SqL.of h2, fun t ht => ?_⟩⟩
      exact q _ _ (s2.trans (Same.new ht)) (s2.free ht) upd_same
def sp_is_lot : Sp := fun vs H Q _ => ∃ (a : Addr) (g many : Nat), vs = [.ref a, .int (many : Int)] ∧ H a = some (.tup (iVs [g])) ∧ g < many ∧ ∀ H', Same H H' → Q (.bl true) H'
theorem cd_is_lot (T : Tx K mg) : Cd P w K mg base CX0 "is_lot" 4 ["thing", "many"] sp_is_lot := by
  have G_is_index : Cd P w K mg base CX0 "is_index" 3 ["thing", "many"] sp_is_index := cd_is_index T
  refine Cd.of T.d_is_lot (fun _ _ _ _ _ _ us hl => match us, hl with | [_, _], _ => rfl) fun f fd F => ?_
  refine F.ok sc_is_lot (fun vs H Q E h => ?_) (fun cdv A outer s H vs Q E hr h => ?_)
  · obtain ⟨a, g, many, rfl, _⟩ := h
    rfl
  · obtain ⟨a, g, many, rfl, ha, hg, q⟩ := h
    refine ⟨_, (pss_cons (ps_if (pt_not (pt_val (pe_callB (id := "isinstance") call_isi (by rfl) T.b_isinstance (by decide +kernel) (pa_cons (pv 0) (pa_cons (pe_bltn (v := .ty "tuple") (by rfl) T.b_tuple (by decide +kernel) rfl) pa_nil))))) (pss_one (ps_ret pe_bl)) pss_nil)
      (pss_cons (ps_set (i := 2) sc_is_lot.nd rfl (by first | exact Or.inl rfl | exact Or.inr rfl) (pe_un un_neg pe_int))
      (pss_cons (ps_for PassesOwn.never rfl (pi_tup (pv 0)) (pg_name (i := 3) sc_is_lot.nd rfl (by first | exact Or.inl rfl | exact Or.inr rfl))
      (pss_cons (ps_if (PW.pt (pw_or (pt_not (pt_val (pe_callD G_is_index (hr.mono (by decide)) pass0 (pa_cons (pv 3) (pa_cons (pv 1) pa_nil))))) (pw_or1 (pt_cmpR op_le (pv 3) (pv 2) (nomark _))))) (pss_one (ps_ret pe_bl)) pss_nil)
      (pss_one (ps_set (i := 2) sc_is_lot.nd rfl (by first | exact Or.inl rfl | exact Or.inr rfl) (pv 3)))))
      (pss_one (ps_ret pe_bl))))), ?_⟩
    refine ⟨_, rfl, _, _, _, _, true, rfl, .ty "tuple", .base (.tup ha), kit_ty (by decide +kernel), _, rfl, iteF ?_⟩
    refine ⟨1, rfl, ?_⟩
    refine ⟨_, rfl, a, rfl, ⟨_, SqT.of ha⟩, for_tup (K := K) (a := a) (xs := iVs [g]) (fun i σ H2 => ∃ (m : Int) (y : Option V), σ = [some (.ref a), some (.int (many : Int)), some (.int m), y] ∧ Same H H2 ∧ (i = 0 → m = -1))
      ⟨_, none, rfl, Same.refl _, fun _ => rfl⟩ (fun i σ H2 _ ⟨_, _, _, h, _⟩ => SqT.of (h _ _ ha)) ?_ ?_⟩
    · rintro i x σ H2 hi ⟨m, y, rfl, s2, em⟩
      have hi0 : i = 0 ∧ x = .int (g : Int) := by
        match i, hi with
        | 0, hi => exact ⟨rfl, (Option.some.inj hi).symm⟩
        | n + 1, hi => exact absurd hi (by simp [iVs])
      obtain ⟨rfl, rfl⟩ := hi0
      obtain rfl := em rfl
      refine ⟨_, rfl, _, rfl, _, _, rfl, fun H3 s3 => ⟨_, rfl, ?_⟩⟩
      rw [decide_eq_true (by omega : (0 : Int) ≤ (g : Int)), decide_eq_true (by omega : (g : Int) ≤ (many : Int) - 1)]
      refine iteF ⟨_, rfl, _, rfl, _, _, rfl, rfl, _, rfl, ?_⟩
      rw [decide_eq_false (by omega)]
      refine iteF ⟨_, rfl, _, _, rfl, s2.trans s3, fun z => absurd z (by omega)⟩
    · rintro σ H2 ⟨m, y, rfl, s2, em⟩
      exact q _ s2
/-- the arrows' ends are places -/
def sp_are_arrows : Sp := fun vs H Q _ => ∃ (v : V) (es : Arr) (n : Nat), vs = [.int (n : Int), v] ∧ ArrAt H v es ∧ Good n es ∧ ∀ H', Same H H' → Q (.bl true) H'
theorem cd_are_arrows (T : Tx K mg) : Cd P w K mg base CX0 "are_arrows" 4 ["many", "thing"] sp_are_arrows := by
  have G_is_index : Cd P w K mg base CX0 "is_index" 3 ["thing", "many"] sp_is_index := cd_is_index T
  refine Cd.of T.d_are_arrows (fun _ _ _ _ _ _ us hl => match us, hl with | [_, _], _ => rfl) fun f fd F => ?_
  refine F.ok sc_are_arrows (fun vs H Q E h => ?_) (fun cdv A outer s H vs Q E hr h => ?_)
  · obtain ⟨v, es, n, rfl, _⟩ := h
    rfl
  · obtain ⟨v, es, n, rfl, ⟨a, xs, rfl, ha, hX⟩, G, q⟩ := h
    refine ⟨_, (pss_cons (ps_if (pt_not (pt_val (pe_callB (id := "isinstance") call_isi (by rfl) T.b_isinstance (by decide +kernel) (pa_cons (pv 1) (pa_cons (pe_bltn (v := .ty "tuple") (by rfl) T.b_tuple (by decide +kernel) rfl) pa_nil))))) (pss_one (ps_ret pe_bl)) pss_nil)
      (pss_cons (ps_for PassesOwn.never rfl (pi_tup (pv 1)) (pg_name (i := 2) sc_are_arrows.nd rfl (by first | exact Or.inl rfl | exact Or.inr rfl))
      (pss_cons (ps_if (PW.pt (pw_or (pt_not (pt_val (pe_callB (id := "isinstance") call_isi (by rfl) T.b_isinstance (by decide +kernel) (pa_cons (pv 2) (pa_cons (pe_bltn (v := .ty "tuple") (by rfl) T.b_tuple (by decide +kernel) rfl) pa_nil))))) (pw_or (pt_cmpR op_ne (pe_callB (id := "len") call_lenU (by rfl) T.b_len (by decide +kernel) (pa_cons (pv 2) pa_nil)) pe_int (nomark _)) (pw_or1 (pt_not (pt_val (pe_callB (id := "all") (cr_all (by rfl)) (by rfl) T.b_all (by decide +kernel) (pa_cons (pe_lc (own := [("place", 3)]) (g := (gName 3)) (tt := tYes) (te := (tCall sp_is_index [] E0 (tCons (tVar 3) (tCons (tVar 0) tNil)))) (by rfl) sc_are_arrows.nd (pi_tup (pv 2)) (blkOk_by (own := [("place", 3)]) (N := ["many", "thing", "pair", "place"]) (sc := defScope s_are_arrows) (by decide +kernel)) (fun _ _ _ _ _ => (pg_name (i := 3) sc_are_arrows.nd rfl (by first | exact Or.inl rfl | exact Or.inr rfl))) (fun _ _ _ _ _ => pts_nil) (fun _ _ _ _ _ => (pe_callD G_is_index (hr.mono (by decide)) pass0 (pa_cons (pv 3) (pa_cons (pv 0) pa_nil))))) pa_nil)))))))) (pss_one (ps_ret pe_bl)) pss_nil)
      (pss_one (ps_if (pt_cmpR op_eq (pe_ix ix_tup (pv 2) pe_int (fun _ _ => rfl)) (pe_ix ix_tup (pv 2) pe_int (fun _ _ => rfl)) (nomark _)) (pss_one (ps_ret pe_bl)) pss_nil))))
      (pss_one (ps_ret pe_bl)))), ?_⟩
    refine ⟨_, rfl, _, _, _, _, true, rfl, .ty "tuple", .base (.tup ha), kit_ty (by decide +kernel), _, rfl, iteF ?_⟩
    refine ⟨_, rfl, a, rfl, ⟨_, SqT.of ha⟩, for_tup (K := K) (a := a) (xs := xs) (fun i σ H2 => ∃ (y z : Option V), σ = [some (.int (n : Int)), some (.ref a), y, z] ∧ Same H H2)
      ⟨none, none, rfl, Same.refl _⟩ (fun i σ H2 _ ⟨_, _, _, h⟩ => SqT.of (h _ _ ha)) ?_ ?_⟩
    · rintro i x σ H2 hi ⟨y, z, rfl, s2⟩
      obtain ⟨e, he, b, rfl, hb⟩ := (hX.kt (Kt.same s2)).get hi
      have hm : e ∈ es := List.mem_of_getElem? he
      obtain ⟨k, hk, ek⟩ := List.getElem_of_mem hm
      have e1 : tl es k = e.1 ∧ hd es k = e.2 := by
        have := es_get (es := es) hk
        rw [List.getElem?_eq_getElem hk, ek] at this
        have := Option.some.inj this
        rw [this]
        exact ⟨rfl, rfl⟩
      have g1 := G.lt k hk
      have g2 := G.ne k hk
      rw [e1.1, e1.2] at g1 g2
      refine ⟨_, rfl, _, _, _, _, true, rfl, .ty "tuple", .base (.tup hb), kit_ty (by decide +kernel), _, rfl, iteF ?_⟩
      refine ⟨_, rfl, b, _, rfl, .inr (SqT.of hb), rfl, _, rfl, iteF ?_⟩
      refine ⟨_, rfl, b, rfl, ⟨_, SqT.of hb⟩, fun D hD => lcT (R := BV) BV.kt (outM [e.1, e.2] fun _ => true) hD hb (outM_0 _ _) (fun i => Nat.lt_of_le_of_lt (outM_len _ _ _) (by show 2 < _; omega)) ?_ ?_⟩
      · intro u x H7 N hu7 s7 Nx
        rw [iVs_get] at hu7
        obtain ⟨p, hp, rfl⟩ := Option.map_eq_some_iff.mp hu7
        have hpn : p < n := by
          have := List.mem_of_getElem? hp
          rcases (show p = e.1 ∨ p = e.2 by simpa using this) with z | z <;> omega
        refine ⟨rfl, yesGo ?_⟩
        refine ⟨_, rfl, _, rfl, _, _, rfl, fun H3 s3 => ?_⟩
        refine Nx.yes H3 _ _ s3 ?_ (outM_1 hp)
        rw [decide_eq_true (by omega : (0 : Int) ≤ (p : Int)), decide_eq_true (by omega : (p : Int) ≤ (n : Int) - 1)]
        rfl
      · intro H7 bs s7 hD7 r7
        have e7 := bv_map r7
        rw [outM_all (by rw [iVs_len]; exact Nat.le_refl _)] at e7
        refine ⟨D, [true, true], rfl, SqL.of (by rw [hD7, e7]; rfl), _, rfl, iteF ?_⟩
        have hb7 := s7 _ _ hb
        refine ⟨_, rfl, b, _, 0, .int (e.1 : Int), rfl, rfl, SqT.of hb7, rfl, _, rfl, b, _, 1, .int (e.2 : Int), rfl, rfl, SqT.of hb7, rfl, rfl, _, rfl, ?_⟩
        rw [decide_eq_false (by simp; omega)]
        exact iteF ⟨_, _, rfl, s2.trans s7⟩
    · rintro σ H2 ⟨y, z, rfl, s2⟩
      exact q _ s2
end
end Ut
/-! led_to, are_goals. -/
namespace Ut
open PySem PySem.Spec PyProof.Rows L2
theorem tru_bit {K : PySem.W.Frag} {H : Hp} {r h : Nat} : TruV K (.int (Builtin.bitAnd ((r : Int) / 2 ^ ((h : Int)).toNat) 1)) H (r.testBit h) := by
  show r.testBit h = (Builtin.bitAnd ((r : Int) / 2 ^ ((h : Int)).toNat) 1 != 0)
  rw [bit_and1]
  cases r.testBit h <;> rfl
/-- the places not reached yet -/
def unr (n r : Nat) : Nat := ((List.range n).filter fun p => !r.testBit p).length
theorem bit_set {r h p : Nat} : (r ||| 2 ^ h).testBit p = (r.testBit p || decide (h = p)) := by
  rw [Nat.testBit_or, Nat.testBit_two_pow]
theorem unr_set {n r h : Nat} (hn : h < n) (hb : r.testBit h = false) : unr n (r ||| 2 ^ h) + 1 ≤ unr n r := by
  unfold unr
  have e : ((List.range n).filter fun p => !r.testBit p).length = (h :: ((List.range n).filter fun p => !(r ||| 2 ^ h).testBit p)).length := by
    refine Nat.le_antisymm (nodup_len (asc_nodup (asc_filter _ (asc_range n))) fun x hx => ?_) (nodup_len (List.nodup_cons.mpr ⟨fun z => ?_, asc_nodup (asc_filter _ (asc_range n))⟩) fun x hx => ?_)
    · obtain ⟨h1, h2⟩ := List.mem_filter.mp hx
      by_cases e : x = h
      · exact e ▸ List.mem_cons_self
      · refine List.mem_cons_of_mem _ (List.mem_filter.mpr ⟨h1, ?_⟩)
        rw [bit_set, decide_eq_false (fun z => e z.symm), Bool.or_false]
        exact h2
    · have := (List.mem_filter.mp z).2
      rw [bit_set] at this
      simp at this
    · rcases List.mem_cons.mp hx with e | hx
      · rw [e]
        exact List.mem_filter.mpr ⟨List.mem_range.mpr hn, by rw [hb]; rfl⟩
      · obtain ⟨h1, h2⟩ := List.mem_filter.mp hx
        refine List.mem_filter.mpr ⟨h1, ?_⟩
        rw [bit_set] at h2
        cases q : r.testBit x with
        | false => rfl
        | true =>
          rw [q] at h2
          simp at h2
  rw [e, List.length_cons]
  exact Nat.le_refl _
theorem unr_le (n r : Nat) : unr n r ≤ n := by
  unfold unr
  refine Nat.le_trans (List.length_filter_le _ _) ?_
  simp
/-- the dict of heads behind the first i arrows; its lists are new since H -/
structure Heads (H H2 : Hp) (es : Arr) (n i : Nat) (kvs : List (Key × V)) : Prop where
  has : ∀ k, k < i → ∃ l ns, valV kvs (Sum.inl (tl es k : Int)) = some (.ref l) ∧ H2 l = some (.lst (iVs ns)) ∧ hd es k ∈ ns
  val : ∀ y v, valV kvs y = some v → ∃ l ns, v = .ref l ∧ H2 l = some (.lst (iVs ns)) ∧ (∀ p ∈ ns, p < n) ∧ H l = none ∧ ns.length ≤ i
theorem Heads.same {H H2 H3 : Hp} {es : Arr} {n i : Nat} {kvs : List (Key × V)} (h : Heads H H2 es n i kvs) (s : Same H2 H3) : Heads H H3 es n i kvs :=
  ⟨fun k hk => let ⟨l, ns, a, b, c⟩ := h.has k hk; ⟨l, ns, a, s _ _ b, c⟩, fun y v hy => let ⟨l, ns, a, b, c⟩ := h.val y v hy; ⟨l, ns, a, s _ _ b, c⟩⟩
theorem Heads.add {H H3 : Hp} {es : Arr} {n i : Nat} {kvs : List (Key × V)} {l : Addr} {ns : List Nat} (h : Heads H H3 es n i kvs) (hv : valV kvs (Sum.inl (tl es i : Int)) = some (.ref l)) (hl : H3 l = some (.lst (iVs ns))) (hlt : ∀ p ∈ ns, p < n) (hn : hd es i < n) (hz : ns.length ≤ i) :
    Heads H (upd H3 l (.lst (iVs (ns ++ [hd es i])))) es n (i + 1) kvs := by
  refine ⟨fun k hk => ?_, fun y v hy => ?_⟩
  · by_cases e : k = i
    · subst e
      exact ⟨l, _, hv, upd_same, by simp⟩
    · obtain ⟨l', ns', a, b, c⟩ := h.has k (by omega)
      by_cases e : l' = l
      · subst e
        rw [hl] at b
        have : ns = ns' := iVs_inj (HO.lst.inj (Option.some.inj b))
        subst this
        exact ⟨_, _, a, upd_same, List.mem_append_left _ c⟩
      · exact ⟨l', ns', a, by rw [upd_ne e]; exact b, c⟩
  · obtain ⟨l', ns', a, b, c, z, u⟩ := h.val y v hy
    by_cases e : l' = l
    · subst e
      refine ⟨l', ns ++ [hd es i], a, upd_same, fun p hp => ?_, z, by rw [List.length_append]; show ns.length + 1 ≤ _; omega⟩
      rcases List.mem_append.mp hp with q | q
      · exact hlt p q
      · rw [List.mem_singleton.mp q]
        exact hn
    · exact ⟨l', ns', a, by rw [upd_ne e]; exact b, c, z, by omega⟩
theorem Heads.new {H H4 : Hp} {es : Arr} {n i : Nat} {kvs : List (Key × V)} {g d : Addr} {y : Key} {u : List (Key × V)} (h : Heads H H4 es n i kvs) (hv : valV kvs y = none) (hg : H4 g = some (.lst (iVs []))) (hg0 : H g = none) (hd' : H4 d = some (.dK u)) :
    Heads H (upd H4 d (.dK (putK kvs y (.ref g)))) es n i (putK kvs y (.ref g)) := by
  refine ⟨fun k hk => ?_, fun y' v hy => ?_⟩
  · obtain ⟨l', ns', a, b, c⟩ := h.has k hk
    refine ⟨l', ns', ?_, ?_, c⟩
    · rw [valV_put, if_neg]
      · exact a
      · intro e
        rw [e, hv] at a
        cases a
    · rw [upd_ne (ne_of b hd' (by intro z; cases z))]
      exact b
  · rw [valV_put] at hy
    split at hy
    · cases hy
      refine ⟨g, [], rfl, ?_, by simp, hg0, Nat.zero_le _⟩
      rw [upd_ne (ne_of hg hd' (by intro z; cases z))]
      exact hg
    · obtain ⟨l', ns', a, b, c⟩ := h.val y' v hy
      refine ⟨l', ns', a, ?_, c⟩
      rw [upd_ne (ne_of b hd' (by intro z; cases z))]
      exact b
theorem or_step {Q : VK} {H : Hp} {r h : Nat} (q : Q (.int ((r ||| 2 ^ h : Nat) : Int)) H) : Q (.int (Builtin.bitOr (r : Int) (1 * 2 ^ ((h : Int)).toNat))) H := by
  rw [pow_cast, bit_or]
  exact q
section
variable {P : Program} {w : World} {K : PySem.W.Frag} {mg : Str → Option Value} {base : Heap}
def sp_led_to : Sp := fun vs H Q _ => ∃ (v : V) (es : Arr) (n : Nat), vs = [v, .int 1, .int ((2 ^ n - 1 : Nat) : Int), .int 0] ∧ ArrAt H v es ∧ Good n es ∧ n ≤ 40 ∧ 0 < n ∧ es.length ≤ 1000 ∧
  ∀ H' (r : Nat), Same H H' → r.testBit 0 = true → (∀ k, k < es.length → r.testBit (tl es k) = true → r.testBit (hd es k) = true) → Q (.int (r : Int)) H'
theorem cd_led_to (T : Tx K mg) : Cd P w K mg base CX0 "led_to" 2 ["arrows", "begin", "let", "barred"] sp_led_to := by
  have G_lot_of : Cd P w K mg base CX0 "lot_of" 1 ["mask"] sp_lot_of := cd_lot_of T
  refine Cd.of T.d_led_to (fun _ _ _ _ _ _ us hl => match us, hl with | [_, _, _, _], _ => rfl) fun f fd F => ?_
  refine F.ok sc_led_to (fun vs H Q E h => ?_) (fun cdv A outer s H vs Q E hr h => ?_)
  · obtain ⟨v, es, n, rfl, _⟩ := h
    rfl
  · obtain ⟨v, es, n, rfl, ⟨a, xs, rfl, ha, hX⟩, G, hn, hn0, hes, q⟩ := h
    have hu := hu_of hr
    have hlenX := hX.len
    refine ⟨_, (pss_cons (ps_set (i := 4) sc_led_to.nd rfl (by first | exact Or.inl rfl | exact Or.inr rfl) pe_dnewK)
      (pss_cons (ps_for PassesOwn.never rfl (pi_enumT (by rfl) T.b_enumerate (pa_cons (pv 0) pa_nil)) (pg_tup (by rfl) (pgs_cons (pg_name (i := 5) sc_led_to.nd rfl (by first | exact Or.inl rfl | exact Or.inr rfl)) (pgs_cons (pg_tup (by rfl) (pgs_cons (pg_name (i := 6) sc_led_to.nd rfl (by first | exact Or.inl rfl | exact Or.inr rfl)) (pgs_cons (pg_name (i := 7) sc_led_to.nd rfl (by first | exact Or.inl rfl | exact Or.inr rfl)) pgs_nil))) pgs_nil)))
      (pss_one (ps_if (PW.pt (pw_and (pt_truth (pe_op op_and (pe_op op_shr (pv 2) (pv 7)) pe_int) (by intro _; rfl)) (pw_and1 (pt_not (pt_truth (pe_op op_and (pe_op op_shr (pv 3) (pv 5)) pe_int) (by intro _; rfl)))))) (pss_one (ps_expr (pe_bm PySem.F.plainAttrs_list PySem.F.slot_list_append PySem.F.type_list_append mt_append (pe_dsetd (pv 4) (pv 6) (pe_lst pa_nil) ⟨by rfl, by rfl, by rfl, by rfl⟩) (pa_cons (pv 7) pa_nil)))) pss_nil)))
      (pss_cons (ps_set (i := 8) sc_led_to.nd rfl (by first | exact Or.inl rfl | exact Or.inr rfl) (pv 1))
      (pss_cons (ps_set (i := 9) sc_led_to.nd rfl (by first | exact Or.inl rfl | exact Or.inr rfl) (pe_callTy (T := "list") call_list_of (by rfl) T.b_list (by decide +kernel) (pa_cons (pe_callD G_lot_of (hr.mono (by decide)) pass0 (pa_cons (pv 1) pa_nil)) pa_nil)))
      (pss_cons (ps_while PassesOwn.never (pt_cmpR op_gt (pe_callB (id := "len") call_lenU (by rfl) T.b_len (by decide +kernel) (pa_cons (pv 9) pa_nil)) pe_int (nomark _))
      (pss_one (ps_for PassesOwn.never rfl (pi_list (pe_dget2 hu (pv 4) (pe_bm0 PySem.F.plainAttrs_list PySem.F.slot_list_pop PySem.F.type_list_pop mt_pop (pv 9)) (pe_lst pa_nil) ⟨by rfl, by rfl, by rfl, by rfl⟩)) (pg_name (i := 7) sc_led_to.nd rfl (by first | exact Or.inl rfl | exact Or.inr rfl))
      (pss_one (ps_if (pt_not (pt_truth (pe_op op_and (pe_op op_shr (pv 8) (pv 7)) pe_int) (by intro _; rfl))) (pss_cons (ps_set (i := 8) sc_led_to.nd rfl (by first | exact Or.inl rfl | exact Or.inr rfl) (pe_op op_or (pv 8) (pe_op op_shl pe_int (pv 7))))
      (pss_one (ps_expr (pe_bm PySem.F.plainAttrs_list PySem.F.slot_list_append PySem.F.type_list_append mt_append (pv 9) (pa_cons (pv 7) pa_nil))))) pss_nil)))))
      (pss_one (ps_ret (pv 8)))))))), ?_⟩
    -- heads = {}
    refine fun d hd0 => ?_
    have s0 : Same H (upd H d (.dK [])) := Same.new hd0
    refine ⟨_, rfl, a, xs, rfl, SqT.of (s0 _ _ ha), for_enumT (K := K) (a := a) (xs := xs) (fun i σ H2 => ∃ (y5 y6 y7 : Option V) (kvs : List (Key × V)), σ = [some (.ref a), some (.int 1), some (.int ((2 ^ n - 1 : Nat) : Int)), some (.int 0), some (.ref d), y5, y6, y7, none, none] ∧ Same H H2 ∧
        H2 d = some (.dK kvs) ∧ Heads H H2 es n i kvs ∧ kvs.length ≤ i)
      ⟨none, none, none, [], rfl, s0, upd_same, ⟨fun k hk => absurd hk (Nat.not_lt_zero _), fun y v hy => (by cases hy)⟩, Nat.le_refl _⟩ (fun i σ H2 _ ⟨_, _, _, _, _, s2, _⟩ => SqT.of (s2 _ _ ha)) ?_ ?_⟩
    · rintro i x T0 σ H2 hi ⟨y5, y6, y7, kvs, rfl, s2, hd2, hh, hlen⟩ hT
      have hiL : i < es.length := by
        rw [← hlenX]
        exact (List.getElem?_eq_some_iff.mp hi).1
      obtain ⟨e, he, b, rfl, hb⟩ := (hX.kt (Kt.same s2)).get hi
      have he' : e = (tl es i, hd es i) := by
        rw [es_get hiL] at he
        exact (Option.some.inj he).symm
      subst he'
      have sT : Same H2 (upd H2 T0 (.tup [.int (i : Nat), .ref b])) := Same.new hT
      refine ⟨T0, _, rfl, SqT.of upd_same, rfl, _, _, rfl, _, _, rfl, ⟨b, _, rfl, SqT.of (sT _ _ hb), rfl, _, _, rfl, _, _, rfl, rfl, ?_⟩⟩
      refine ⟨rfl, ?_⟩
      refine ⟨_, rfl, _, rfl, _, _, rfl, rfl, by omega, _, _, rfl, rfl, _, tru_bit, ?_⟩
      have hb1 : (2 ^ n - 1).testBit (hd es i) = true := by
        rw [Nat.testBit_two_pow_sub_one]
        exact decide_eq_true (G.lt i hiL).2
      rw [hb1]
      refine iteT ?_
      refine ⟨_, rfl, _, rfl, 0, _, rfl, rfl, by omega, _, _, rfl, rfl, _, tru_bit (r := 0) (h := i), ?_⟩
      rw [Nat.zero_testBit]
      refine iteT ?_
      have hd3 := sT _ _ hd2
      -- heads.setdefault(tail, []).append(head)
      refine ⟨_, rfl, d, rfl, .inl ⟨kvs, .inl hd3⟩, _, rfl, line_le (by show 0 ≤ _; omega), fun g hg => ?_⟩
      have sg : Same (upd H2 T0 (.tup [.int (i : Nat), .ref b])) (upd (upd H2 T0 (.tup [.int (i : Nat), .ref b])) g (.lst [])) := Same.new hg
      have hdg : H2 g = none := sT.free hg
      have hg0 : H g = none := s2.free hdg
      have hh3 := (hh.same sT).same sg
      refine ⟨kvs, Sum.inl (tl es i : Int), sg _ _ hd3, rfl, line_lt (by omega), fun v hv => ?_, fun hv => ?_⟩
      · obtain ⟨l, ns, rfl, hl, hlt, hl0, hlen2⟩ := hh3.val _ v hv
        refine ⟨.inl ⟨rfl, _, SqL.of hl⟩, _, rfl, l, _, _, rfl, rfl, hl, line_lt (by rw [iVs_len]; omega), ?_⟩
        have e : iVs ns ++ [V.int (hd es i : Int)] = iVs (ns ++ [hd es i]) := by rw [iVs_app]; rfl
        rw [e]
        refine ⟨_, _, _, kvs, rfl, ((s2.trans sT).trans sg).mut hl0, ?_, hh3.add hv hl hlt (G.lt i hiL).2 hlen2, by omega⟩
        rw [upd_ne (ne_of (sg _ _ hd3) hl (by intro z; cases z))]
        exact sg _ _ hd3
      · have hh4 := hh3.new (d := d) (g := g) hv upd_same hg0 (sg _ _ hd3)
        have hgd : g ≠ d := fun z => by
          rw [z, hd3] at hg
          cases hg
        have hg4 : (upd (upd (upd H2 T0 (.tup [.int (i : Nat), .ref b])) g (.lst [])) d (.dK (putK kvs (Sum.inl (tl es i : Int)) (.ref g)))) g = some (.lst (iVs [])) := by
          rw [upd_ne hgd, upd_same]
          rfl
        refine ⟨.inl ⟨rfl, _, SqL.of hg4⟩, _, rfl, g, _, _, rfl, rfl, hg4, line_lt (by show 0 ≤ _; omega), ?_⟩
        have e : iVs [] ++ [V.int (hd es i : Int)] = iVs ([] ++ [hd es i]) := by rw [iVs_app]; rfl
        rw [e]
        refine ⟨_, _, _, _, rfl, (((s2.trans sT).trans sg).mut hd0).mut hg0, ?_, hh4.add ?_ hg4 (by simp) (G.lt i hiL).2 (Nat.zero_le _), ?_⟩
        · rw [upd_ne (fun z => hgd z.symm), upd_same]
        · rw [valV_put, if_pos rfl]
        · have := length_putK kvs (Sum.inl (tl es i : Int) : Key) (.ref g)
          omega
    · rintro σ H2 ⟨y5, y6, y7, kvs, rfl, s2, hd2, hh, hlen⟩
      rw [hlenX] at hh
      -- reached = begin; waiting = list(lot_of(begin))
      refine ⟨_, rfl, ?_⟩
      refine ⟨_, rfl, rfl, fun H3 t s3 ht0 ht => ⟨t, [.int 0], rfl, .inr (SqT.of ht), fun wl hwl => ?_⟩⟩
      have h2wl : H2 wl = none := s3.free hwl
      have s4 : Same H2 (upd H3 wl (.lst [.int 0])) := s3.trans (Same.new hwl)
      refine ⟨fun m σ H5 => ∃ (y7 : Option V) (r : Nat) (ws : List Nat), σ = [some (.ref a), some (.int 1), some (.int ((2 ^ n - 1 : Nat) : Int)), some (.int 0), some (.ref d), y5, y6, y7, some (.int (r : Int)), some (.ref wl)] ∧ Same H2 H5 ∧
          H5 wl = some (.lst (iVs ws)) ∧ (∀ p ∈ ws, p < n) ∧ r.testBit 0 = true ∧ (∀ p, r.testBit p = true → p ∈ ws ∨ ∀ k, k < es.length → tl es k = p → r.testBit (hd es k) = true) ∧ m = 2 * unr n r + ws.length ∧ 2 * unr n r + ws.length ≤ 100,
        ⟨_, y7, 1, [0], rfl, s4, upd_same, by simpa using hn0, by decide, fun p hp => .inl ?_, rfl, by have := unr_le n 1; show 2 * unr n 1 + 1 ≤ _; omega⟩, ?_⟩
      · have : (2 ^ 0).testBit p = true := hp
        rw [Nat.testBit_two_pow] at this
        have := of_decide_eq_true this
        simp [← this]
      · rintro m σ H5 ⟨y7, r, ws, rfl, s5, hw, hwn, h0, hcl, rfl, hm100⟩
        refine ⟨_, rfl, _, _, rfl, .inl (SqL.of hw), _, _, rfl, rfl, _, rfl, ?_⟩
        rw [iVs_len]
        rcases List.eq_nil_or_concat ws with e | ⟨ws', p, e⟩
        · subst e
          rw [show decide ((0 : Int) < ((([] : List Nat).length : Nat) : Int)) = false from rfl]
          refine iteF ⟨_, rfl, q H5 r (s2.trans s5) h0 fun k hk hb => ?_⟩
          rcases hcl _ hb with z | z
          · cases z
          · exact z k hk rfl
        · have e : ws = ws' ++ [p] := by rw [e, List.concat_eq_append]
          subst e
          have hpos : decide ((0 : Int) < (((ws' ++ [p]).length : Nat) : Int)) = true := decide_eq_true (by rw [List.length_append]; show (0 : Int) < ((ws'.length + 1 : Nat) : Int); omega)
          rw [hpos]
          refine iteT ⟨_, fun σ' H' h => h, ?_⟩
          have hpn : p < n := hwn p (by simp)
          have hd5 := s5 _ _ hd2
          have hwV : iVs (ws' ++ [p]) = iVs ws' ++ [V.int (p : Int)] := by rw [iVs_app]; rfl
          have hget : (iVs (ws' ++ [p]))[(iVs (ws' ++ [p])).length - 1]? = some (V.int (p : Int)) := by
            rw [hwV, List.length_append, List.getElem?_append_right (by simp)]
            simp
          have hdl : (iVs (ws' ++ [p])).dropLast = iVs ws' := by
            rw [hwV, List.dropLast_concat]
          -- heads.get(waiting.pop(), [])
          refine ⟨_, rfl, d, rfl, .inl ⟨kvs, .inl hd5⟩, _, rfl, .inl ⟨rfl, _, SqL.of hw⟩, wl, _, V.int (p : Int), rfl, rfl, hw, hget, ?_⟩
          rw [hdl]
          generalize hH6 : upd H5 wl (.lst (iVs ws')) = H6
          have s6 : Same H2 H6 := hH6 ▸ s5.mut h2wl
          have hw6 : H6 wl = some (.lst (iVs ws')) := by rw [← hH6, upd_same]
          refine ⟨line_le (by show 0 ≤ _; omega), fun g hg => ⟨_, DGet.k (k := (Sum.inl (p : Int) : Key)) (by rw [upd_ne (ne_of_none (s6 _ _ hd2) hg)]; exact s6 _ _ hd2), ?_⟩⟩
          have s7 : Same H6 (upd H6 g (.lst [])) := Same.new hg
          have hsel : ∃ L ns, (valV kvs (Sum.inl (p : Int) : Key)).getD (.ref g) = .ref L ∧ (upd H6 g (.lst [])) L = some (.lst (iVs ns)) ∧ L ≠ wl ∧ (∀ z ∈ ns, z < n) ∧ ∀ k, k < es.length → tl es k = p → hd es k ∈ ns := by
            cases hv : valV kvs (Sum.inl (p : Int) : Key) with
            | none =>
              refine ⟨g, [], rfl, upd_same, fun z => ?_, by simp, fun k hk e => ?_⟩
              · rw [z, hw6] at hg
                cases hg
              · obtain ⟨l, ns, a1, _⟩ := hh.has k hk
                rw [e, hv] at a1
                cases a1
            | some v =>
              obtain ⟨l, ns, rfl, hl, hlt, _, _⟩ := hh.val _ v hv
              refine ⟨l, ns, rfl, s7 _ _ (s6 _ _ hl), ne_of_none hl h2wl, hlt, fun k hk e => ?_⟩
              obtain ⟨l', ns', a1, a2, a3⟩ := hh.has k hk
              rw [e, hv] at a1
              have : l = l' := V.ref.inj (Option.some.inj a1)
              subst this
              rw [hl] at a2
              have : ns = ns' := iVs_inj (HO.lst.inj (Option.some.inj a2))
              exact this ▸ a3
          obtain ⟨L, ns, eL, hL, hLw, hnsn, hall⟩ := hsel
          rw [eL]
          have hw7 := s7 _ _ hw6
          have s27 := s6.trans s7
          generalize hH7 : upd H6 g (.lst []) = H7 at hL hw7 s27
          refine ⟨L, rfl, ⟨_, SqL.of hL⟩, for_list (K := K) (a := L) (xs := iVs ns) (fun j σ H8 => ∃ (y7 : Option V) (r' : Nat) (us : List Nat), σ = [some (.ref a), some (.int 1), some (.int ((2 ^ n - 1 : Nat) : Int)), some (.int 0), some (.ref d), y5, y6, y7, some (.int (r' : Int)), some (.ref wl)] ∧ SameB wl H7 H8 ∧
              H8 wl = some (.lst (iVs us)) ∧ (∀ z ∈ us, z < n) ∧ r'.testBit 0 = true ∧ (∀ z ∈ ns.take j, r'.testBit z = true) ∧ (∀ z, r'.testBit z = true → z ∈ us ∨ z = p ∨ ∀ k, k < es.length → tl es k = z → r'.testBit (hd es k) = true) ∧ 2 * unr n r' + us.length ≤ 2 * unr n r + ws'.length ∧ us.length ≤ ws'.length + j)
            ⟨y7, r, ws', rfl, SameB.refl _, hw7, fun z hz => hwn z (by simp [hz]), h0, by simp, fun z hz => ?_, Nat.le_refl _, Nat.le_refl _⟩ (fun j σ H8 _ ⟨_, _, _, _, h, _⟩ => SqL.of (h _ _ hL hLw)) ?_ ?_⟩
          · rcases hcl z hz with h | h
            · rcases List.mem_append.mp h with h | h
              · exact .inl h
              · exact .inr (.inl (List.mem_singleton.mp h))
            · exact .inr (.inr h)
          · rintro j x σ H8 hj ⟨y7, r', us, rfl, s8, hw8, husn, h08, hdone, hcl8, hm8, hul⟩
            rw [iVs_get] at hj
            obtain ⟨h, hh8, rfl⟩ := Option.map_eq_some_iff.mp hj
            have hhn : h < n := hnsn h (List.mem_of_getElem? hh8)
            refine ⟨_, rfl, _, rfl, _, _, rfl, rfl, by omega, _, _, rfl, rfl, _, tru_bit, ?_⟩
            have htk : ∀ z ∈ ns.take (j + 1), z ∈ ns.take j ∨ z = h := fun z hz => by
              rw [List.take_add_one, hh8] at hz
              simpa using hz
            cases hb : r'.testBit h with
            | true =>
              refine iteF ⟨_, _, _, rfl, s8, hw8, husn, h08, fun z hz => ?_, hcl8, hm8, by omega⟩
              rcases htk z hz with q1 | q1
              · exact hdone z q1
              · exact q1 ▸ hb
            | false =>
              refine iteT ?_
              refine ⟨_, rfl, _, rfl, 1, _, rfl, rfl, ⟨by omega, by omega, by decide⟩, _, _, rfl, rfl, ?_⟩
              simp only [pow_cast, bit_or]
              have eus : iVs us ++ [V.int (h : Int)] = iVs (us ++ [h]) := by rw [iVs_app]; rfl
              have hsz : us.length < 4000000 := by
                have : us.length ≤ 2 * unr n r + ws'.length := by omega
                rw [List.length_append] at hm100
                omega
              refine ⟨_, rfl, .inl ⟨rfl, _, SqL.of hw8⟩, _, rfl, wl, _, _, rfl, rfl, hw8, line_lt (by rw [iVs_len]; omega), ?_⟩
              rw [eus]
              have mono : ∀ z, r'.testBit z = true → (r' ||| 2 ^ h).testBit z = true := fun z hz => by rw [bit_set, hz, Bool.true_or]
              refine ⟨_, r' ||| 2 ^ h, us ++ [h], rfl, s8.put, upd_same, fun z hz => ?_, mono 0 h08, fun z hz => ?_, fun z hz => ?_, ?_, ?_⟩
              · rcases List.mem_append.mp hz with q1 | q1
                · exact husn z q1
                · rw [List.mem_singleton.mp q1]
                  exact hhn
              · rcases htk z hz with q1 | q1
                · exact mono z (hdone z q1)
                · rw [bit_set, q1]
                  simp
              · rw [bit_set] at hz
                cases hz' : r'.testBit z with
                | true =>
                  rcases hcl8 z hz' with q1 | q1 | q1
                  · exact .inl (List.mem_append_left _ q1)
                  · exact .inr (.inl q1)
                  · exact .inr (.inr fun k hk e => mono _ (q1 k hk e))
                | false =>
                  rw [hz', Bool.false_or] at hz
                  have := of_decide_eq_true hz
                  exact .inl (by simp [this])
              · have := unr_set hhn hb
                rw [List.length_append]
                show 2 * unr n (r' ||| 2 ^ h) + (us.length + 1) ≤ _
                omega
              · rw [List.length_append]
                show us.length + 1 ≤ _
                omega
          · rintro σ H8 ⟨y7, r', us, rfl, s8, hw8, husn, h08, hdone, hcl8, hm8, hul⟩
            rw [iVs_len, List.take_length] at hdone
            refine ⟨_, ?_, _, r', us, rfl, ?_, hw8, husn, h08, fun z hz => ?_, rfl, ?_⟩
            · rw [List.length_append]
              show _ < 2 * unr n r + (ws'.length + 1)
              omega
            · intro b o hb
              exact s8 b o (s27 b o hb) (ne_of_none hb h2wl)
            · rcases hcl8 z hz with q1 | q1 | q1
              · exact .inl q1
              · exact .inr fun k hk e => hdone _ (hall k hk (e.trans q1))
              · exact .inr q1
            · rw [List.length_append] at hm100
              omega
def sp_are_goals : Sp := fun vs H Q _ => ∃ (v : V) (es : Arr) (n g : Nat) (c : Addr), vs = [.int (n : Int), v, .ref c] ∧ ArrAt H v es ∧ H c = some (.tup (iVs [g])) ∧ Good n es ∧ n ≤ 40 ∧ 0 < n ∧ es.length ≤ 1000 ∧ g ≠ 0 ∧ g < n ∧ Leads es g ∧
  ∀ H', Same H H' → Q (.bl true) H'
theorem cd_are_goals (T : Tx K mg) : Cd P w K mg base CX0 "are_goals" 5 ["many", "arrows", "thing"] sp_are_goals := by
  have G_is_lot : Cd P w K mg base CX0 "is_lot" 4 ["thing", "many"] sp_is_lot := cd_is_lot T
  have G_led_to : Cd P w K mg base CX0 "led_to" 2 ["arrows", "begin", "let", "barred"] sp_led_to := cd_led_to T
  have G_mask_of : Cd P w K mg base CX0 "mask_of" 1 ["lot"] sp_mask_of := cd_mask_of T
  refine Cd.of T.d_are_goals (fun _ _ _ _ _ _ us hl => match us, hl with | [_, _, _], _ => rfl) fun f fd F => ?_
  refine F.ok sc_are_goals (fun vs H Q E h => ?_) (fun cdv A outer s H vs Q E hr h => ?_)
  · obtain ⟨v, es, n, g, c, rfl, _⟩ := h
    rfl
  · obtain ⟨v, es, n, g, c, rfl, hv, hc, G, hn, hn0, hes, hg0, hgn, hL, q⟩ := h
    refine ⟨_, (pss_cons (ps_if (PW.pt (pw_or (pt_not (pt_val (pe_callD G_is_lot (hr.mono (by decide)) pass0 (pa_cons (pv 2) (pa_cons (pv 0) pa_nil))))) (pw_or (pt_cmpR op_eq (pe_callB (id := "len") call_lenU (by rfl) T.b_len (by decide +kernel) (pa_cons (pv 2) pa_nil)) pe_int (nomark _)) (pw_or1 (pt_cmpR op_eq (pe_ix ix_tup (pv 2) pe_int (fun _ _ => rfl)) pe_int (nomark _)))))) (pss_one (ps_ret pe_bl)) pss_nil)
      (pss_cons (ps_set (i := 3) sc_are_goals.nd rfl (by first | exact Or.inl rfl | exact Or.inr rfl) (pe_callD G_led_to (hr.mono (by decide)) pass0 (pa_cons (pv 1) (pa_cons pe_int (pa_cons (pe_op op_sub (pe_op op_shl pe_int (pv 0)) pe_int) (pa_cons pe_int pa_nil))))))
      (pss_one (ps_ret (pe_cmpR op_eq (pe_op op_and (pe_callD G_mask_of (hr.mono (by decide)) pass0 (pa_cons (pv 2) pa_nil)) (pe_un un_inv (pv 3))) pe_int (nomark _)))))), ?_⟩
    refine ⟨_, rfl, _, rfl, c, g, n, rfl, hc, hgn, fun H1 s1 => ⟨true, rfl, iteF ?_⟩⟩
    have hc1 := s1 _ _ hc
    refine ⟨_, rfl, c, _, rfl, .inr (SqT.of hc1), rfl, _, rfl, iteF ?_⟩
    refine ⟨_, rfl, c, _, 0, .int (g : Int), rfl, rfl, SqT.of hc1, rfl, rfl, _, rfl, ?_⟩
    rw [decide_eq_false (by simp; omega)]
    refine iteF ?_
    refine ⟨_, rfl, _, rfl, 1, _, rfl, rfl, ⟨by omega, by omega, by decide⟩, _, _, rfl, rfl, ?_⟩
    have e : (1 : Int) * 2 ^ ((n : Int)).toNat - 1 = ((2 ^ n - 1 : Nat) : Int) := by
      rw [pow_cast]
      have := Nat.one_le_two_pow (n := n)
      omega
    simp only [e]
    refine ⟨v, es, n, rfl, hv.kt (Kt.same s1), G, hn, hn0, hes, fun H2 r s2 h0 hcl => ?_⟩
    have hrg : r.testBit g = true := hL (fun p => r.testBit p = true) h0 hcl
    have hc2 := s2 _ _ hc1
    refine ⟨_, rfl, c, g, rfl, hc2, by omega, fun H3 s3 => ⟨_, rfl, _, rfl, _, _, rfl, rfl, rfl, ?_⟩⟩
    simp only [bit_in g r hrg]
    exact q H3 ((s1.trans s2).trans s3)
end
end Ut
/-! Rules of our own: a name set to a dict comprehension. -/
namespace Ut
open PySem PySem.Spec PyProof.Rows L2
theorem sw_trueD {kx vx : Expr} {gs : List Comprehension} {scope : Scope} {pos py : Pos} {y : Str} {l : Nat} {env : Env} (hk : env.scope.kind = .function) (hy : env.scope.names.lookup y = some .local) (hl : (py.line == pos.line) = true)
    (ha : (scope.names.any fun (n, k) => n == y && (k == .local || k == .cell)) = false) : swapsWith (.DictComp kx vx gs scope pos) (some (.Name y py)) l env = pure true := by
  have k1 : env.kindOf y = some .local := hy
  have k2 : env.blockKind = .function := by
    unfold Env.blockKind
    rw [hk]
    rfl
  unfold swapsWith
  simp only [k2, k1, ha, Expr.pos, hl]
  rfl
section
variable {X : Cx}
/-- name = {..} on one line, the name a local -/
theorem ps_setDc {i : Nat} {y : Str} {py : Pos} {kx vx tg iter : Expr} {ifs : List Expr} {scope : Scope} {own : List (Str × Nat)} {pos spos : Pos} {wi : TI} {g : TG} {tt : TT} {tk tv : TE} (hc : X.calm = true) (hN : X.N.Nodup) (hy : X.N[i]? = some y) (hyl : X.env.scope.names.lookup y = some .local)
    (hsw : swapsWith (.DictComp kx vx [⟨tg, iter, ifs, 0⟩] scope pos) (some (.Name y py)) spos.line X.env = pure true) (hi : PI X tg iter wi) (ok : BlkOk X.N X.env.scope scope own)
    (hg : ∀ (s : Shared) (H : Hp) (C : Addr) (cl : List (Str × Addr)) (fp : List Addr), PG (X.blk s H scope (compEnvC scope cl C X.env) fp) tg g) (ht : ∀ (s : Shared) (H : Hp) (C : Addr) (cl : List (Str × Addr)) (fp : List Addr), PTs (X.blk s H scope (compEnvC scope cl C X.env) fp) ifs tt)
    (hk : ∀ (s : Shared) (H : Hp) (C : Addr) (cl : List (Str × Addr)) (fp : List Addr), PE (X.blk s H scope (compEnvC scope cl C X.env) fp) kx tk)
    (he : ∀ (s : Shared) (H : Hp) (C : Addr) (cl : List (Str × Addr)) (fp : List Addr), PE (X.blk s H scope (compEnvC scope cl C X.env) fp) vx tv) (hs : ∀ x, foldedSetIterable iter X.env x = pure x := by intro _; rfl) :
    PS X (.Assign [.Name y py] (.DictComp kx vx [⟨tg, iter, ifs, 0⟩] scope pos) spos) (tAsg (tDc wi g tt tk tv (own.map (·.2))) (gName i)) := by
  refine ⟨fun pins s σ H D I h => ?_⟩
  rw [exec_Assign_Name_used _ _ _ _ hsw]
  refine wpAny_bind (wpAny_standAt (wpAny_bind ?_))
  show wpAny _ X.A (do let _ ← comprehension (.DictComp kx vx [⟨tg, iter, ifs, 0⟩] scope pos) scope X.env (firstIterPos [⟨tg, iter, ifs, 0⟩] pos) newDict false (eval iter X.env) (some (assign (.Name y py) X.env))) _ _ s
  have h : tDc wi g tt tk tv (own.map (·.2)) σ H (fun x H1 => gName i x σ H1 D.nx) := h
  refine wpAny_bind (thn (dc_core (Qf := fun _ s' => SP X pins D .next s') hc hN I hi ok hg ht hk he hs h fun L C s' m H' I' q hn f => ?_) fun _ s' hq => wpAny_pure (wpAny_pure hq))
  show wpAny _ _ (assign (.Name y py) X.env (.ref L)) _ _ _
  refine wpAny_assign_Name (store_ok2 (v := V.ref L) I' hN hy (.inl hyl) rfl (fun s2 I2 ⟨a, sb, ha⟩ => ?_) (.inr hyl))
  obtain ⟨f0, f1, f2, f3, f4, f5⟩ := f
  have haC : C ≠ a := by
    rcases ha with z | z
    · exact z ▸ f1
    · exact fun e => f4 y a z e.symm
  refine ⟨m, hn.sameBut sb haC, fun h3 sb3 => ?_⟩
  exact ⟨_, H', I2.turned (t' := s2.toks) (fun b o hb e => (sb3.2 b hb).trans e) f0 f1 f3 f4 f5, q⟩
end
/-- over a range -/
theorem dc_range {lo : Int} {n : Nat} {g : TG} {tt : TT} {tk tv : TE} {vs : List Nat} {σ : L2.St} {H1 : Hp} {D : Addr} {Qd : Hp → Prop} (Pv : Nat → Hp → Prop) (h0 : Pv 0 (upd H1 D (.dK [])))
    (hs : ∀ i H, i < n → Pv i H → g (.int (lo + i)) (wipe σ vs) H fun σ2 H2 => wipe σ2 vs = wipe σ vs ∧ tt σ2 H2 fun b H3 =>
      if b = true then tk σ2 H3 fun y H4 => tv σ2 H4 fun z H5 => ∃ kvs k, y = kV k ∧ H5 D = some (.dK kvs) ∧ kvs.length < sizeLine ∧ Pv (i + 1) (upd H5 D (.dK (putK kvs k z))) else Pv (i + 1) H3) (hd : ∀ H, Pv n H → Qd H) :
    ∃ W : Nat → Nat → Hp → Prop, (∃ m, W 0 m (upd H1 D (.dK []))) ∧ ∀ i m H, W i m H →
      ((Itr lo n).stop i H ∧ Qd H) ∨ ((Itr lo n).go i H ∧ ∃ Nx : Hp → Prop, (∀ H', Nx H' → ∃ m', m' < m ∧ W (i + 1) m' H') ∧ ∀ x H', (Itr lo n).yld i H x H' → g x (wipe σ vs) H' fun σ2 H2 => wipe σ2 vs = wipe σ vs ∧ tt σ2 H2 fun b H3 =>
        if b = true then tk σ2 H3 fun y H4 => tv σ2 H4 fun z H5 => ∃ kvs k, y = kV k ∧ H5 D = some (.dK kvs) ∧ kvs.length < sizeLine ∧ Nx (upd H5 D (.dK (putK kvs k z))) else Nx H3) := by
  refine ⟨fun i m H => m = n - i ∧ i ≤ n ∧ Pv i H, ⟨n, by simp, Nat.zero_le _, h0⟩, ?_⟩
  rintro i m H ⟨rfl, hi, p⟩
  by_cases hlt : i < n
  · refine .inr ⟨hlt, Pv (i + 1), fun H' p' => ⟨n - (i + 1), by omega, rfl, hlt, p'⟩, fun x H' y => ?_⟩
    obtain ⟨rfl, rfl⟩ := y
    exact hs i _ hlt p
  · have e : i = n := by omega
    subst e
    exact .inl ⟨Nat.le_refl _, hd H p⟩
end Ut
/-! Map; check_one_goal, longer_ways, leads_on. -/
namespace Ut
open PySem PySem.Spec PyProof.Rows L2
theorem putF_len {f : Str} {v : V} : ∀ {fs : List (Str × V)} {k : Nat}, fs.length ≤ k → (putF f v fs).length ≤ k + 1
  | [], k, _ => by
    show 1 ≤ k + 1
    omega
  | (g, x) :: r, 0, h => absurd h (by simp)
  | (g, x) :: r, k + 1, h => by
    show (if g = f then (g, v) :: r else (g, x) :: putF f v r).length ≤ _
    split
    · rw [List.length_cons] at h ⊢
      omega
    · have := putF_len (f := f) (v := v) (fs := r) (k := k) (by rw [List.length_cons] at h; omega)
      rw [List.length_cons]
      omega
theorem put_small {f : Str} {v : V} {fs : List (Str × V)} {k : Nat} (h : fs.length ≤ k) (hk : k ≤ 900) : (putF f v fs).length < 1000 := by
  have := putF_len (f := f) (v := v) h
  omega
/-- the class Map, as the top has left it -/
structure MapK (K : PySem.W.Frag) (mg : Str → Option Value) (C : Addr) : Prop where
  mg : mg "Map" = some (.ref C)
  cls : Cls K C
  n_many : NoAttr K C "kept_many"
  n_arrows : NoAttr K C "kept_arrows"
  n_goals : NoAttr K C "kept_goals"
  n_left : NoAttr K C "kept_left"
  init : ∃ (f : Addr) (fd : FuncData), Mk K C f ∧ Fun K "__init__" "Map.__init__" s_Map_init f fd
  keep : ∃ (f : Addr) (fd : FuncData), Meth K C "keep" f ∧ Fun K "keep" "Map.keep" s_Map_keep f fd
/-- a map of n places with these arrows and one goal -/
structure Chart (K : PySem.W.Frag) (H : Hp) (v : V) (es : Arr) (n g : Nat) : Prop where
  ex : ∃ (a C dx : Addr) (fs : List (Str × V)) (va : V) (c : Addr), v = .ref a ∧ H a = some (.ins C dx fs) ∧ Cls K C ∧ NoAttr K C "kept_many" ∧ NoAttr K C "kept_arrows" ∧ NoAttr K C "kept_goals" ∧
    fs.lookup ("kept_many" : Str) = some (.int (n : Int)) ∧ fs.lookup ("kept_arrows" : Str) = some va ∧ ArrAt H va es ∧ fs.lookup ("kept_goals" : Str) = some (.ref c) ∧ H c = some (.tup (iVs [g]))
theorem Chart.same {K : PySem.W.Frag} {H H' : Hp} {v : V} {es : Arr} {n g : Nat} (h : Chart K H v es n g) (s : Same H H') : Chart K H' v es n g := by
  obtain ⟨a, C, dx, fs, va, c, h1, h2, h3, h4, h5, h6, h7, h8, h9, h10, h11⟩ := h
  exact ⟨a, C, dx, fs, va, c, h1, s _ _ h2, h3, h4, h5, h6, h7, h8, h9.kt (Kt.same s), h10, s _ _ h11⟩
theorem Chart.sameB {K : PySem.W.Frag} {H H' : Hp} {v : V} {es : Arr} {n g : Nat} {b : Addr} {ys : List V} (h : Chart K H v es n g) (s : SameB b H H') (hb : H b = some (.lst ys)) : Chart K H' v es n g := by
  obtain ⟨a, C, dx, fs, va, c, h1, h2, h3, h4, h5, h6, h7, h8, h9, h10, h11⟩ := h
  exact ⟨a, C, dx, fs, va, c, h1, s _ _ h2 (ne_of h2 hb (by intro z; cases z)), h3, h4, h5, h6, h7, h8, h9.kt (s.kt hb), h10, s.kt hb _ _ h11⟩
section
variable {P : Program} {w : World} {K : PySem.W.Frag} {mg : Str → Option Value} {base : Heap}
def sp_Map_keep (K : PySem.W.Frag) (C : Addr) : Sp := fun vs H Q _ => ∃ (a dx : Addr) (m v g : V), vs = [.ref a, m, v, g] ∧ H a = some (.ins C dx []) ∧
  ∀ H' fs, SameB a H H' → H' a = some (.ins C dx fs) → fs.lookup ("kept_many" : Str) = some m → fs.lookup ("kept_arrows" : Str) = some v → fs.lookup ("kept_goals" : Str) = some g → Q .non H'
theorem fn_Map_keep {C f : Addr} {fd : FuncData} (M : MapK K mg C) (F : Fun K "keep" "Map.keep" s_Map_keep f fd) : FnOk P w K mg base CX0 1 f fd ["self", "many", "arrows", "goals"] (sp_Map_keep K C) := by
  refine F.ok sc_Map_keep (fun vs H Q E h => ?_) (fun cdv A outer s H vs Q E hr h => ?_)
  · obtain ⟨a, dx, m, v, g, rfl, _⟩ := h
    rfl
  · obtain ⟨a, dx, m, v, g, rfl, ha, q⟩ := h
    refine ⟨_, (pss_cons (ps_fld (pv 0) (pv 1) rfl)
      (pss_cons (ps_fld (pv 0) (pv 2) rfl)
      (pss_cons (ps_fld (pv 0) (pv 3) rfl)
      (pss_one (ps_fld (pv 0) pe_dnewK rfl))))), ?_⟩
    refine ⟨_, rfl, _, rfl, a, C, dx, [], rfl, ha, M.cls, M.n_many, by decide, ?_⟩
    refine ⟨_, rfl, _, rfl, a, C, dx, _, rfl, upd_same, M.cls, M.n_arrows, put_small (Nat.zero_le 0) (by decide), ?_⟩
    refine ⟨_, rfl, _, rfl, a, C, dx, _, rfl, upd_same, M.cls, M.n_goals, put_small (putF_len (Nat.zero_le 0)) (by decide), ?_⟩
    refine fun d hd => ?_
    have ha3 := upd_same (H := upd (upd H a (HO.ins C dx (putF "kept_many" m []))) a (HO.ins C dx (putF "kept_arrows" v (putF "kept_many" m [])))) (a := a) (o := HO.ins C dx (putF "kept_goals" g (putF "kept_arrows" v (putF "kept_many" m []))))
    have hda : a ≠ d := fun z => by
      rw [← z, ha3] at hd
      cases hd
    refine ⟨_, rfl, a, C, dx, _, rfl, (upd_ne hda).trans ha3, M.cls, M.n_left, put_small (putF_len (putF_len (Nat.zero_le 0))) (by decide), ?_⟩
    refine q _ _ ?_ upd_same ?_ ?_ ?_
    · refine SameB.put (SameB.trans (SameB.put (SameB.put (SameB.put (SameB.refl H)))) (SameB.of (Same.new hd)))
    · rfl
    · rfl
    · rfl
def sp_Map_init (K : PySem.W.Frag) (C : Addr) : Sp := fun vs H Q _ => ∃ (a dx : Addr) (v : V) (es : Arr) (n g : Nat) (c : Addr), vs = [.ref a, .int (n : Int), v, .ref c] ∧ H a = some (.ins C dx []) ∧
  ArrAt H v es ∧ H c = some (.tup (iVs [g])) ∧ Good n es ∧ 2 ≤ n ∧ n ≤ 40 ∧ es.length ≤ 60 ∧ g ≠ 0 ∧ g < n ∧ Leads es g ∧
  ∀ H', SameB a H H' → Chart K H' (.ref a) es n g → Q .non H'
theorem fn_Map_init (T : Tx K mg) {C f : Addr} {fd : FuncData} (M : MapK K mg C) (F : Fun K "__init__" "Map.__init__" s_Map_init f fd) : FnOk P w K mg base CX0 6 f fd ["self", "many", "arrows", "goals"] (sp_Map_init K C) := by
  have G_is_between : Cd P w K mg base CX0 "is_between" 2 ["thing", "least", "most"] sp_is_between := cd_is_between T
  have G_are_arrows : Cd P w K mg base CX0 "are_arrows" 4 ["many", "thing"] sp_are_arrows := cd_are_arrows T
  have G_are_goals : Cd P w K mg base CX0 "are_goals" 5 ["many", "arrows", "thing"] sp_are_goals := cd_are_goals T
  obtain ⟨fk, fkd, M_keep, FK⟩ := M.keep
  have G_Map_keep : FnOk P w K mg base CX0 1 fk fkd ["self", "many", "arrows", "goals"] (sp_Map_keep K C) := fn_Map_keep M FK
  have b_Map_keep : Binds K fkd ["self", "many", "arrows", "goals"] [] := FK.binds (fun _ _ _ _ _ _ us hl => match us, hl with | [_, _, _, _], _ => rfl)
  have clMap := M.cls
  obtain ⟨t1, k_MOST_PLACES⟩ := T.c_MOST_PLACES
  obtain ⟨t2, k_MOST_ARROWS⟩ := T.c_MOST_ARROWS
  refine F.ok sc_Map_init (fun vs H Q E h => ?_) (fun cdv A outer s H vs Q E hr h => ?_)
  · obtain ⟨a, dx, v, es, n, g, c, rfl, _⟩ := h
    rfl
  · obtain ⟨a, dx, v, es, n, g, c, rfl, ha, hv, hc, G, hn2, hn40, hes, hg0, hgn, hL, q⟩ := h
    obtain ⟨av, xs, rfl, hav, hX⟩ := id hv
    refine ⟨_, (pss_cons (ps_if (pt_not (pt_val (pe_callD G_is_between (hr.mono (by decide)) pass0 (pa_cons (pv 1) (pa_cons pe_int (pa_cons (pe_glob (v := .int 40) (by rfl) k_MOST_PLACES ⟨_, rfl⟩) pa_nil)))))) (pss_one ps_never) pss_nil)
      (pss_cons (ps_if (PW.pt (pw_or (pt_not (pt_val (pe_callD G_are_arrows (hr.mono (by decide)) pass0 (pa_cons (pv 1) (pa_cons (pv 2) pa_nil))))) (pw_or1 (pt_cmpR op_gt (pe_callB (id := "len") call_lenU (by rfl) T.b_len (by decide +kernel) (pa_cons (pv 2) pa_nil)) (pe_glob (v := .int 60) (by rfl) k_MOST_ARROWS ⟨_, rfl⟩) (nomark _))))) (pss_one ps_never) pss_nil)
      (pss_cons (ps_if (pt_not (pt_val (pe_callD G_are_goals (hr.mono (by decide)) pass0 (pa_cons (pv 1) (pa_cons (pv 2) (pa_cons (pv 3) pa_nil)))))) (pss_one ps_never) pss_nil)
      (pss_one (ps_expr (pe_meth (pv 0) clMap M_keep G_Map_keep (hr.mono (by decide)) b_Map_keep .nil pass0 (pa_cons (pv 1) (pa_cons (pv 2) (pa_cons (pv 3) pa_nil))))))))), ?_⟩
    refine ⟨_, rfl, (n : Int), 2, 40, rfl, fun H1 s1 => ?_⟩
    rw [decide_eq_true (by omega : (2 : Int) ≤ (n : Int)), decide_eq_true (by omega : (n : Int) ≤ 40)]
    refine ⟨_, rfl, iteF ?_⟩
    refine ⟨_, rfl, _, rfl, _, es, n, rfl, hv.kt (Kt.same s1), G, fun H2 s2 => ⟨_, rfl, iteF ?_⟩⟩
    have s02 := s1.trans s2
    refine ⟨_, rfl, av, xs, rfl, .inr (SqT.of (s02 _ _ hav)), _, _, rfl, rfl, _, rfl, ?_⟩
    rw [decide_eq_false (by rw [hX.len]; omega)]
    refine iteF ?_
    refine ⟨_, rfl, _, rfl, _, rfl, _, es, n, g, c, rfl, hv.kt (Kt.same s02), s02 _ _ hc, G, hn40, by omega, by omega, hg0, hgn, hL, fun H3 s3 => ⟨_, rfl, iteF ?_⟩⟩
    have s03 := s02.trans s3
    refine ⟨_, rfl, a, dx, [], rfl, s03 _ _ ha, rfl, _, rfl, _, rfl, _, rfl, a, dx, _, _, _, rfl, s03 _ _ ha, fun H4 fs s4 ha4 l1 l2 l3 => ?_⟩
    have sB := (SameB.of (h := a) s03).trans s4
    refine q H4 sB ⟨a, C, dx, fs, .ref av, c, rfl, ha4, M.cls, M.n_many, M.n_arrows, M.n_goals, l1, l2, ?_, l3, sB _ _ hc (ne_of hc ha (by intro z; cases z))⟩
    refine hv.kt fun b ys hb => sB _ _ hb (ne_of hb ha (by intro z; cases z))
def sp_check_one_goal (K : PySem.W.Frag) : Sp := fun vs H Q _ => ∃ (v : V) (es : Arr) (n g : Nat), vs = [v] ∧ Chart K H v es n g ∧ Q .non H
theorem cd_check_one_goal (T : Tx K mg) : Cd P w K mg base CX0 "check_one_goal" 1 ["chart"] (sp_check_one_goal K) := by
  refine Cd.of T.d_check_one_goal (fun _ _ _ _ _ _ us hl => match us, hl with | [_], _ => rfl) fun f fd F => ?_
  refine F.ok sc_check_one_goal (fun vs H Q E h => ?_) (fun cdv A outer s H vs Q E hr h => ?_)
  · obtain ⟨v, es, n, g, rfl, _⟩ := h
    rfl
  · obtain ⟨v, es, n, g, rfl, ⟨a, C, dx, fs, va, c, rfl, h2, h3, h4, h5, h6, h7, h8, h9, h10, h11⟩, q⟩ := h
    refine ⟨_, (pss_one (ps_if (pt_cmpR op_gt (pe_callB (id := "len") call_lenU (by rfl) T.b_len (by decide +kernel) (pa_cons (pe_fld (pv 0) rfl) pa_nil)) pe_int (nomark _)) (pss_one ps_never) pss_nil)), ?_⟩
    refine ⟨_, rfl, a, C, dx, fs, _, rfl, h2, h3, h6, h10, c, _, rfl, .inr (SqT.of h11), _, _, rfl, rfl, _, rfl, ?_⟩
    exact iteF q
end
end Ut
/-! longer_ways, leads_on. -/
namespace Ut
open PySem PySem.Spec PyProof.Rows L2
/-- places + (head,), way + (arrow,) -/
theorem cat_snoc {K : PySem.W.Frag} {H : Hp} {v : V} {ns : List Nat} {n : Nat} {Q : VK} (hv : TN H v ns) (hz : ns.length ≤ 1000) (q : ∀ v H', Same H H' → TN H' v (ns ++ [n]) → Q v H') :
    ([V.int (n : Int)] : List V).length ≤ sizeLine ∧ ∀ t, H t = none → rCatA K v (.ref t) (upd H t (.tup [.int (n : Int)])) Q := by
  obtain ⟨a, rfl, ha⟩ := hv
  exact cat_one ha hz q
theorem BN.kt' (H H' : Hp) (v : V) (b : List Nat × List Nat) (k : Kt H H') (h : BN H v b) : BN H' v b := h.kt k
theorem atI_nat {α : Type} {xs : List α} {t : Nat} {v : α} (h : xs[t]? = some v) : atI xs (t : Int) = some v := by
  have hl := (List.getElem?_eq_some_iff.mp h).1
  unfold atI ixN
  rw [if_pos (by omega), if_pos (by omega)]
  exact h
theorem drop_len {kvs : List (Key × V)} {k : Key} {u : V} (h : valV kvs k = some u) : (dropK kvs k).length + 1 ≤ kvs.length := by
  have hm := valV_in h
  obtain ⟨p, hp, e⟩ := List.mem_map.mp hm
  unfold dropK
  have := List.length_filter_lt_length_iff_exists (p := fun kv : Key × V => decide (kv.1 ≠ k)) (l := kvs)
  exact this.mpr ⟨p, hp, by simp [e]⟩
theorem valV_drop (kvs : List (Key × V)) (k j : Key) : valV (dropK kvs k) j = if j = k then none else valV kvs j := by
  unfold valV dropK
  rw [List.find?_filter]
  by_cases e : j = k
  · subst e
    rw [if_pos rfl]
    have : (kvs.find? fun a => decide (decide (a.1 ≠ j) = true ∧ decide (a.1 = j) = true)) = none := by
      rw [List.find?_eq_none]
      intro a _
      simp
    simpa using this
  · rw [if_neg e]
    congr 2
    funext a
    by_cases e2 : a.1 = j
    · simp [e2, e]
    · simp [e2]
/-- a list at p, new since H, of these beginnings -/
def NewBN (H H' : Hp) (v : V) (L : List (List Nat × List Nat)) : Prop := ∃ p xs, v = .ref p ∧ Same H H' ∧ H p = none ∧ H' p = some (.lst xs) ∧ BNs H' xs L
section
variable {P : Program} {w : World} {K : PySem.W.Frag} {mg : Str → Option Value} {base : Heap}
def sp_longer_ways (K : PySem.W.Frag) : Sp := fun vs H Q _ => ∃ (v vw vp : V) (es : Arr) (n g : Nat) (x : List Nat × List Nat), vs = [v, vw, vp] ∧ Chart K H v es n g ∧ TN H vw x.1 ∧ TN H vp x.2 ∧ Node n x.2 ∧ x.1.length ≤ 900 ∧ n ≤ 40 ∧ es.length ≤ 60 ∧
  ∀ H' v', NewBN H H' v' ((kidsF es x.2).map (kidX es x)) → Q v' H'
theorem cd_longer_ways (T : Tx K mg) : Cd P w K mg base CX0 "longer_ways" 1 ["chart", "way", "places"] (sp_longer_ways K) := by
  refine Cd.of T.d_longer_ways (fun _ _ _ _ _ _ us hl => match us, hl with | [_, _, _], _ => rfl) fun f fd F => ?_
  refine F.ok sc_longer_ways (fun vs H Q E h => ?_) (fun cdv A outer s H vs Q E hr h => ?_)
  · obtain ⟨v, vw, vp, es, n, g, x, rfl, _⟩ := h
    rfl
  · obtain ⟨v, vw, vp, es, n, g, x, rfl, hC, hw, hp, N, hwl, hn, hes, q⟩ := h
    obtain ⟨a, C, dx, fs, va, c, rfl, ha, hcl, nm, na, ng, lm, la, ⟨ar, xs, rfl, har, hX⟩, lg, hc⟩ := hC
    obtain ⟨pa, rfl, hpa⟩ := hp
    refine ⟨_, (pss_cons (ps_set (i := 3) sc_longer_ways.nd rfl (by first | exact Or.inl rfl | exact Or.inr rfl) (pe_lst pa_nil))
      (pss_cons (ps_for PassesOwn.never rfl (pi_enumT (by rfl) T.b_enumerate (pa_cons (pe_fld (pv 0) rfl) pa_nil)) (pg_tup (by rfl) (pgs_cons (pg_name (i := 4) sc_longer_ways.nd rfl (by first | exact Or.inl rfl | exact Or.inr rfl)) (pgs_cons (pg_tup (by rfl) (pgs_cons (pg_name (i := 5) sc_longer_ways.nd rfl (by first | exact Or.inl rfl | exact Or.inr rfl)) (pgs_cons (pg_name (i := 6) sc_longer_ways.nd rfl (by first | exact Or.inl rfl | exact Or.inr rfl)) pgs_nil))) pgs_nil)))
      (pss_one (ps_if (PW.pt (pw_and (pt_cmpR op_eq (pv 5) (pe_ix ix_tup (pv 2) (pe_un un_neg pe_int) (fun _ _ => rfl)) (nomark _)) (pw_and1 (pt_cmpR op_notIn_seq (pv 6) (pv 2) rfl)))) (pss_one (ps_expr (pe_bm PySem.F.plainAttrs_list PySem.F.slot_list_append PySem.F.type_list_append mt_append (pv 3) (pa_cons (pe_tup (pa_cons (pe_op op_catA (pv 1) (pe_tup (pa_cons (pv 4) pa_nil))) (pa_cons (pe_op op_catA (pv 2) (pe_tup (pa_cons (pv 6) pa_nil))) pa_nil))) pa_nil)))) pss_nil)))
      (pss_one (ps_ret (pv 3))))), ?_⟩
    refine ⟨line_le (by show 0 ≤ _; omega), fun L hL => ?_⟩
    have s0 : Same H (upd H L (.lst [])) := Same.new hL
    have hpl := N.len
    have hlenX := hX.len
    obtain ⟨z, hz⟩ : ∃ z, x.2.getLast? = some z := by
      cases e : x.2.getLast? with
      | none => exact absurd (List.getLast?_eq_none_iff.mp e) N.ne
      | some z => exact ⟨z, rfl⟩
    refine ⟨_, rfl, a, C, dx, fs, .ref ar, rfl, s0 _ _ ha, hcl, na, la, ar, xs, rfl, SqT.of (s0 _ _ har), for_enumT (K := K) (a := ar) (xs := xs) (fun i σ H2 => ∃ (y4 y5 y6 : Option V) (ys : List V), σ = [some (.ref a), some vw, some (.ref pa), some (.ref L), y4, y5, y6] ∧ Same H H2 ∧
        H2 L = some (.lst ys) ∧ BNs H2 ys (outF (List.range es.length) (okK es x.2) (kidX es x) i))
      ⟨none, none, none, [], rfl, s0, upd_same, .nil⟩ (fun i σ H2 _ ⟨_, _, _, _, _, s2, _⟩ => SqT.of (s2 _ _ har)) ?_ ?_⟩
    · rintro i y T0 σ H2 hi ⟨y4, y5, y6, ys, rfl, s2, hL2, hY⟩ hT
      have hiL : i < es.length := by
        rw [← hlenX]
        exact (List.getElem?_eq_some_iff.mp hi).1
      have hir : (List.range es.length)[i]? = some i := List.getElem?_range hiL
      obtain ⟨e, he, b, rfl, hb⟩ := (hX.kt (Kt.same s2)).get hi
      have he' : e = (tl es i, hd es i) := by
        rw [es_get hiL] at he
        exact (Option.some.inj he).symm
      subst he'
      have sT : Same H2 (upd H2 T0 (.tup [.int (i : Nat), .ref b])) := Same.new hT
      refine ⟨T0, _, rfl, SqT.of upd_same, rfl, _, _, rfl, _, _, rfl, ⟨b, _, rfl, SqT.of (sT _ _ hb), rfl, _, _, rfl, _, _, rfl, rfl, ?_⟩⟩
      refine ⟨rfl, ?_⟩
      have s3 := s2.trans sT
      generalize hH3 : upd H2 T0 (.tup [.int (i : Nat), .ref b]) = H3 at sT s3
      have hpa3 := s3 _ _ hpa
      have hL3 := sT _ _ hL2
      -- tail == places[-1] and head not in places
      refine ⟨_, rfl, _, rfl, _, rfl, pa, _, -1, .int (z : Int), rfl, rfl, SqT.of hpa3, at_neg (iVs_last hz), rfl, _, rfl, ?_⟩
      have e1 : decide (V.int (tl es i : Int) = V.int (z : Int)) = (x.2.getLast? == some (tl es i)) := by
        rw [hz]
        by_cases e : tl es i = z
        · rw [e]
          simp
        · have : ¬ V.int (tl es i : Int) = V.int (z : Int) := fun q => e (by have := V.int.inj q; omega)
          rw [decide_eq_false this]
          symm
          rw [beq_eq_false_iff_ne]
          intro q
          exact e (Option.some.inj q).symm
      have hlen : (outF (List.range es.length) (okK es x.2) (kidX es x) i).length ≤ 60 := Nat.le_trans (outF_len _ _ _ _) (by rw [List.length_range]; exact hes)
      have no : okK es x.2 i = false → ∃ (y4 y5 y6 : Option V) (ys' : List V), [some (.ref a), some vw, some (.ref pa), some (.ref L), some (V.int (i : Int)), some (V.int (tl es i : Int)), some (V.int (hd es i : Int))] = [some (.ref a), some vw, some (.ref pa), some (.ref L), y4, y5, y6] ∧ Same H H3 ∧
          H3 L = some (.lst ys') ∧ BNs H3 ys' (outF (List.range es.length) (okK es x.2) (kidX es x) (i + 1)) := fun hk => by
        refine ⟨_, _, _, ys, rfl, s3, hL3, ?_⟩
        rw [outF_no hir hk]
        exact hY.kt (Kt.same sT)
      rw [e1]
      cases hq : (x.2.getLast? == some (tl es i)) with
      | false => exact iteF (iteF (no (by unfold okK; rw [hq]; rfl)))
      | true =>
        refine iteT ⟨_, rfl, _, rfl, pa, iVs x.2, rfl, .inr (SqT.of hpa3), rfl, iVs_flat _, _, rfl, ?_⟩
        have e2 : (if true = true then !inV (V.int (hd es i : Int)) (iVs x.2) else inV (V.int (hd es i : Int)) (iVs x.2)) = !(x.2.contains (hd es i)) := by
          rw [if_pos rfl, inV_iff]
        rw [e2]
        cases hq2 : x.2.contains (hd es i) with
        | true => exact iteF (no (by unfold okK; rw [hq, hq2]; rfl))
        | false =>
          have hk : okK es x.2 i = true := by unfold okK; rw [hq, hq2]; rfl
          refine iteT ?_
          refine ⟨_, rfl, .inl ⟨rfl, _, SqL.of hL3⟩, ?_⟩
          refine ⟨_, rfl, _, rfl, cat_snoc (hw.kt (Kt.same s3)) (by omega) fun v4 H4 s4 t4 => ?_⟩
          refine ⟨_, rfl, _, rfl, cat_snoc (v := .ref pa) ⟨pa, rfl, s4 _ _ hpa3⟩ (by omega) fun v5 H5 s5 t5 => ?_⟩
          refine ⟨line_le (by show 2 ≤ _; omega), fun p hp => ?_⟩
          have s6 : Same H5 (upd H5 p (.tup [v4, v5])) := Same.new hp
          have s36 := (s4.trans s5).trans s6
          have hL6 := s36 _ _ hL3
          refine ⟨L, _, _, rfl, rfl, hL6, line_lt (by rw [hY.len]; omega), ?_⟩
          have k7 : Kt (upd H5 p (.tup [v4, v5])) (upd (upd H5 p (.tup [v4, v5])) L (.lst (ys ++ [.ref p]))) := Kt.lst hL6
          refine ⟨_, _, _, ys ++ [.ref p], rfl, (s3.trans s36).mut hL, upd_same, ?_⟩
          rw [outF_yes hir hk]
          refine All2.snoc (((hY.kt (Kt.same sT)).kt (Kt.same s36)).kt k7) (BN.kt k7 ?_)
          exact ⟨p, v4, v5, rfl, upd_same, (t4.kt (Kt.same s5)).kt (Kt.same s6), t5.kt (Kt.same s6)⟩
    · rintro σ H2 ⟨y4, y5, y6, ys, rfl, s2, hL2, hY⟩
      rw [hlenX, outF_all (by simp)] at hY
      exact ⟨_, rfl, q H2 _ ⟨L, ys, rfl, s2, hL, hL2, hY⟩⟩
def sp_leads_on (K : PySem.W.Frag) : Sp := fun vs H Q _ => ∃ (v vp : V) (es : Arr) (n g : Nat) (x : List Nat × List Nat), vs = [v, vp] ∧ Chart K H v es n g ∧ TN H vp x.2 ∧ Node n x.2 ∧ Good n es ∧ n ≤ 40 ∧ es.length ≤ 60 ∧
  ∀ H' b, Same H H' → (b = false → compF es g n x = []) → Q (.bl b) H'
theorem cd_leads_on (T : Tx K mg) : Cd P w K mg base CX0 "leads_on" 1 ["chart", "places"] (sp_leads_on K) := by
  refine Cd.of T.d_leads_on (fun _ _ _ _ _ _ us hl => match us, hl with | [_, _], _ => rfl) fun f fd F => ?_
  refine F.ok sc_leads_on (fun vs H Q E h => ?_) (fun cdv A outer s H vs Q E hr h => ?_)
  · obtain ⟨v, vp, es, n, g, x, rfl, _⟩ := h
    rfl
  · obtain ⟨v, vp, es, n, g, x, rfl, hC, hp, N, G, hn, hes, q⟩ := h
    have hu := hu_of hr
    obtain ⟨a, C, dx, fs, va, c, rfl, ha, hcl, nm, na, ng, lm, la, ⟨ar, xs, rfl, har, hX⟩, lg, hc⟩ := hC
    obtain ⟨pa, rfl, hpa⟩ := hp
    have hlenX := hX.len
    obtain ⟨z, hz⟩ : ∃ z, x.2.getLast? = some z := by
      cases e : x.2.getLast? with
      | none => exact absurd (List.getLast?_eq_none_iff.mp e) N.ne
      | some z => exact ⟨z, rfl⟩
    have hzn : z < n := N.lt z (List.mem_of_getLast? hz)
    refine ⟨_, (pss_cons (ps_setDc (i := 2) (own := [("place", 3)]) (g := (gName 3)) (tt := (tTest (tOp (rIn K true) (tVar 3) (tVar 1)))) (tk := (tVar 3)) (tv := (tC (.bl true))) (by rfl) sc_leads_on.nd rfl rfl (sw_trueD rfl rfl rfl (by decide +kernel)) (pi_range1 (by rfl) T.b_range (pa_cons (pe_fld (pv 0) rfl) pa_nil)) (blkOk_by (own := [("place", 3)]) (N := ["chart", "places", "let", "place", "met", "at", "tail", "head"]) (sc := defScope s_leads_on) (by decide +kernel)) (fun _ _ _ _ _ => (pg_name (i := 3) sc_leads_on.nd rfl (by first | exact Or.inl rfl | exact Or.inr rfl))) (fun _ _ _ _ _ => (pts_one (pt_cmpR op_notIn_seq (pv 3) (pv 1) rfl))) (fun _ _ _ _ _ => (pv 3)) (fun _ _ _ _ _ => pe_bl))
      (pss_cons (ps_set (i := 4) sc_leads_on.nd rfl (by first | exact Or.inl rfl | exact Or.inr rfl) (pe_lst (pa_cons (pe_ix ix_tup (pv 1) (pe_un un_neg pe_int) (fun _ _ => rfl)) pa_nil)))
      (pss_cons (ps_set (i := 5) sc_leads_on.nd rfl (by first | exact Or.inl rfl | exact Or.inr rfl) pe_int)
      (pss_cons (ps_while PassesOwn.never (pt_cmpR op_lt (pv 5) (pe_callB (id := "len") call_lenU (by rfl) T.b_len (by decide +kernel) (pa_cons (pv 4) pa_nil)) (nomark _))
      (pss_cons (ps_set (i := 3) sc_leads_on.nd rfl (by first | exact Or.inl rfl | exact Or.inr rfl) (pe_ix ix_list (pv 4) (pv 5) (fun _ _ => rfl)))
      (pss_cons (ps_aug (i := 5) sc_leads_on.nd rfl (by first | exact Or.inl rfl | exact Or.inr rfl) pe_int ip_add)
      (pss_cons (ps_if (pt_cmpR op_in_seq (pv 3) (pe_fld (pv 0) rfl) rfl) (pss_one (ps_ret pe_bl)) pss_nil)
      (pss_one (ps_for PassesOwn.never rfl (pi_tup (pe_fld (pv 0) rfl)) (pg_tup (by rfl) (pgs_cons (pg_name (i := 6) sc_leads_on.nd rfl (by first | exact Or.inl rfl | exact Or.inr rfl)) (pgs_cons (pg_name (i := 7) sc_leads_on.nd rfl (by first | exact Or.inl rfl | exact Or.inr rfl)) pgs_nil)))
      (pss_one (ps_if (PW.pt (pw_and (pt_cmpR op_eq (pv 6) (pv 3) (nomark _)) (pw_and1 (pt_cmp (pc_din hu (pv 7) (pv 2)))))) (pss_cons (ps_expr (pe_dpop1 (pv 2) (pv 7) ⟨by rfl, by rfl, by rfl, by rfl⟩))
      (pss_one (ps_expr (pe_bm PySem.F.plainAttrs_list PySem.F.slot_list_append PySem.F.type_list_append mt_append (pv 4) (pa_cons (pv 7) pa_nil))))) pss_nil))))))))
      (pss_one (ps_ret pe_bl)))))), ?_⟩
    refine ⟨_, rfl, a, C, dx, fs, _, rfl, ha, hcl, nm, lm, (n : Int), rfl, by omega, by omega, fun D hD => dc_range (lo := 0) (n := n) (fun i H2 => Same H H2 ∧ ∃ kvs, H2 D = some (.dK kvs) ∧ kvs.length ≤ i ∧ ∀ p, p < i → p ∉ x.2 → (valV kvs (Sum.inl (p : Int) : Key)).isSome = true)
      ⟨Same.new hD, [], upd_same, Nat.le_refl _, fun p hp => absurd hp (Nat.not_lt_zero _)⟩ ?_ ?_⟩
    · rintro i H2 hi ⟨s2, kvs, hd2, hlen, hh⟩
      rw [show ((0 : Int) + (i : Int)) = (i : Int) from Int.zero_add _]
      refine ⟨rfl, ?_⟩
      refine ⟨_, rfl, _, rfl, pa, iVs x.2, rfl, .inr (SqT.of (s2 _ _ hpa)), rfl, iVs_flat _, _, rfl, ?_⟩
      have e2 : (if true = true then !inV (V.int (i : Int)) (iVs x.2) else inV (V.int (i : Int)) (iVs x.2)) = !(x.2.contains i) := by
        rw [if_pos rfl, inV_iff]
      rw [e2]
      cases hq2 : x.2.contains i with
      | true =>
        refine iteF ⟨s2, kvs, hd2, by omega, fun p hp hpx => ?_⟩
        by_cases e : p = i
        · exact absurd (by rw [e]; simpa using hq2) hpx
        · exact hh p (by omega) hpx
      | false =>
        refine iteT ⟨_, rfl, kvs, Sum.inl (i : Int), rfl, hd2, line_lt (by omega), s2.mut hD, _, upd_same, ?_, fun p hp hpx => ?_⟩
        · have := length_putK kvs (Sum.inl (i : Int) : Key) (.bl true)
          omega
        · rw [valV_put]
          by_cases e : p = i
          · rw [e, if_pos rfl]
            rfl
          · rw [if_neg (fun q => e (key_inj q))]
            exact hh p (by omega) hpx
    · rintro H2 ⟨s2, kvs0, hd2, hlen0, hh0⟩
      -- met = [places[-1]]; at = 0
      refine ⟨_, rfl, _, rfl, pa, _, -1, .int (z : Int), rfl, rfl, SqT.of (s2 _ _ hpa), at_neg (iVs_last hz), line_le (by show 1 ≤ _; omega), fun mt hmt => ?_⟩
      have hmt0 : H mt = none := s2.free hmt
      have s3 : Same H2 (upd H2 mt (.lst [.int (z : Int)])) := Same.new hmt
      refine ⟨fun m σ H3 => ∃ (y3 y6 y7 : Option V) (kvs : List (Key × V)) (ms : List Nat) (t : Nat), σ = [some (.ref a), some (.ref pa), some (.ref D), y3, some (.ref mt), some (.int (t : Int)), y6, y7] ∧ Same H H3 ∧ H3 D = some (.dK kvs) ∧ H3 mt = some (.lst (iVs ms)) ∧
          t ≤ ms.length ∧ z ∈ ms ∧ (∀ p, p < n → p ∉ x.2 → p ∈ ms ∨ (valV kvs (Sum.inl (p : Int) : Key)).isSome = true) ∧
          (∀ i p, i < t → ms[i]? = some p → p ≠ g ∧ ∀ k, k < es.length → tl es k = p → hd es k ∉ x.2 → hd es k ∈ ms) ∧ 2 * kvs.length + ms.length ≤ 100 ∧ m = 2 * kvs.length + ms.length - t,
        ⟨_, none, none, none, kvs0, [z], 0, rfl, s2.trans s3, s3 _ _ hd2, upd_same, Nat.zero_le _, List.mem_singleton.mpr rfl, fun p hp hpx => .inr (hh0 p hp hpx), fun i p hi => absurd hi (Nat.not_lt_zero _), by show 2 * kvs0.length + 1 ≤ 100; omega, rfl⟩, ?_⟩
      rintro m σ H3 ⟨y3, y6, y7, kvs, ms, t, rfl, s03, hd3, hm3, ht, hzm, hB, hCl, hm100, rfl⟩
      refine ⟨_, rfl, _, rfl, mt, _, rfl, .inl (SqL.of hm3), _, _, rfl, rfl, _, rfl, ?_⟩
      rw [iVs_len]
      by_cases htl : t < ms.length
      · rw [decide_eq_true (by omega : (t : Int) < (ms.length : Int))]
        refine iteT ⟨_, fun σ' H' h => h, ?_⟩
        have hget : (iVs ms)[t]? = some (V.int (ms[t] : Int)) := by
          rw [iVs_get, List.getElem?_eq_getElem htl]
          rfl
        generalize hpl : ms[t] = pl at hget
        have hmst : ms[t]? = some pl := by rw [List.getElem?_eq_getElem htl, hpl]
        -- place = met[at]; at += 1
        refine ⟨_, rfl, _, rfl, mt, _, (t : Int), V.int (pl : Int), rfl, rfl, SqL.of hm3, ?_, ?_⟩
        · exact atI_nat hget
        refine ⟨_, rfl, (t : Int), 1, rfl, rfl, ?_⟩
        have et : (t : Int) + 1 = ((t + 1 : Nat) : Int) := by omega
        simp only [et]
        refine ⟨_, rfl, _, rfl, a, C, dx, fs, .ref c, rfl, s03 _ _ ha, hcl, ng, lg, c, iVs [g], rfl, .inr (SqT.of (s03 _ _ hc)), rfl, rfl, _, rfl, ?_⟩
        have e2 : (if false = true then !inV (V.int (pl : Int)) (iVs [g]) else inV (V.int (pl : Int)) (iVs [g])) = decide (pl = g) := by
          rw [if_neg Bool.false_ne_true, inV_iff, List.contains_cons]
          by_cases e : pl = g <;> simp [e]
        rw [e2]
        by_cases epg : pl = g
        · rw [decide_eq_true epg]
          exact iteT (q H3 true s03 (fun z => by cases z))
        · rw [decide_eq_false epg]
          refine iteF ?_
          have hDmt : D ≠ mt := ne_of hd3 hm3 (by intro z; cases z)
          refine ⟨_, rfl, a, C, dx, fs, .ref ar, rfl, s03 _ _ ha, hcl, na, la, ar, rfl, ⟨_, SqT.of (s03 _ _ har)⟩, for_tup (K := K) (a := ar) (xs := xs) (fun j σ H4 => ∃ (y6 y7 : Option V) (kvs' : List (Key × V)) (ms' : List Nat), σ = [some (.ref a), some (.ref pa), some (.ref D), some (.int (pl : Int)), some (.ref mt), some (.int ((t + 1 : Nat) : Int)), y6, y7] ∧ Same H H4 ∧ H4 D = some (.dK kvs') ∧ H4 mt = some (.lst (iVs ms')) ∧
              (∃ more, ms' = ms ++ more) ∧ (∀ p, p < n → p ∉ x.2 → p ∈ ms' ∨ (valV kvs' (Sum.inl (p : Int) : Key)).isSome = true) ∧ (∀ k, k < j → tl es k = pl → hd es k ∉ x.2 → hd es k ∈ ms') ∧ 2 * kvs'.length + ms'.length ≤ 2 * kvs.length + ms.length)
            ⟨y6, y7, kvs, ms, rfl, s03, hd3, hm3, ⟨[], (List.append_nil _).symm⟩, hB, fun k hk => absurd hk (Nat.not_lt_zero _), Nat.le_refl _⟩ (fun j σ H4 _ ⟨_, _, _, _, _, s4, _⟩ => SqT.of (s4 _ _ har)) ?_ ?_⟩
          · rintro j y σ H4 hj ⟨y6, y7, kvs', ms', rfl, s4, hd4, hm4, ⟨more, em⟩, hB4, hCl4, hme4⟩
            have hjL : j < es.length := by
              rw [← hlenX]
              exact (List.getElem?_eq_some_iff.mp hj).1
            obtain ⟨e, he, b, rfl, hb⟩ := (hX.kt (Kt.same s4)).get hj
            have he' : e = (tl es j, hd es j) := by
              rw [es_get hjL] at he
              exact (Option.some.inj he).symm
            subst he'
            refine ⟨b, _, rfl, SqT.of hb, rfl, _, _, rfl, _, _, rfl, rfl, ?_⟩
            refine ⟨_, rfl, _, rfl, rfl, _, rfl, ?_⟩
            have e1 : decide (V.int (tl es j : Int) = V.int (pl : Int)) = decide (tl es j = pl) := decide_eq_decide.mpr ⟨fun q => by have := V.int.inj q; omega, fun q => by rw [q]⟩
            rw [e1]
            have skip : (tl es j = pl → hd es j ∉ x.2 → hd es j ∈ ms') → ∀ k, k < j + 1 → tl es k = pl → hd es k ∉ x.2 → hd es k ∈ ms' := fun hsk k hk e1 e2 => by
              by_cases e : k = j
              · exact e ▸ hsk (e ▸ e1) (e ▸ e2)
              · exact hCl4 k (by omega) e1 e2
            by_cases etp : tl es j = pl
            · rw [decide_eq_true etp]
              refine iteT ⟨_, rfl, _, rfl, D, _, rfl, DGet.k (k := (Sum.inl (hd es j : Int) : Key)) hd4, _, rfl, ?_⟩
              cases hv : valV kvs' (Sum.inl (hd es j : Int) : Key) with
              | none =>
                refine iteF ⟨_, _, kvs', ms', rfl, s4, hd4, hm4, ⟨more, em⟩, hB4, skip fun _ hx => ?_, hme4⟩
                rcases hB4 _ (G.lt j hjL).2 hx with q1 | q1
                · exact q1
                · rw [hv] at q1
                  cases q1
              | some u =>
                refine iteT ?_
                -- let.pop(head); met.append(head)
                refine ⟨_, rfl, D, rfl, .inl ⟨_, .inl hd4⟩, _, rfl, kvs', Sum.inl (hd es j : Int), u, hd4, rfl, hv, ?_⟩
                have hm5 : (upd H4 D (.dK (dropK kvs' (Sum.inl (hd es j : Int))))) mt = some (.lst (iVs ms')) := by rw [upd_ne (fun z => hDmt z.symm)]; exact hm4
                have eus : iVs ms' ++ [V.int (hd es j : Int)] = iVs (ms' ++ [hd es j]) := by rw [iVs_app]; rfl
                refine ⟨_, rfl, .inl ⟨rfl, _, SqL.of hm5⟩, _, rfl, mt, _, _, rfl, rfl, hm5, line_lt (by rw [iVs_len]; omega), ?_⟩
                rw [eus]
                have hdl : (dropK kvs' (Sum.inl (hd es j : Int) : Key)).length + 1 ≤ kvs'.length := drop_len hv
                refine ⟨_, _, dropK kvs' (Sum.inl (hd es j : Int)), ms' ++ [hd es j], rfl, (s4.mut hD).mut hmt0, ?_, upd_same, ⟨more ++ [hd es j], by rw [em, List.append_assoc]⟩, fun p hp hpx => ?_, fun k hk e1 e2 => ?_, ?_⟩
                · rw [upd_ne hDmt, upd_same]
                · by_cases e : p = hd es j
                  · exact .inl (by simp [e])
                  · rcases hB4 p hp hpx with q1 | q1
                    · exact .inl (List.mem_append_left _ q1)
                    · refine .inr ?_
                      rw [valV_drop, if_neg (fun q => e (key_inj q))]
                      exact q1
                · by_cases e : k = j
                  · rw [e]
                    simp
                  · exact List.mem_append_left _ (hCl4 k (by omega) e1 e2)
                · rw [List.length_append]
                  show _ + (ms'.length + 1) ≤ _
                  omega
            · rw [decide_eq_false etp]
              refine iteF (iteF ⟨_, _, kvs', ms', rfl, s4, hd4, hm4, ⟨more, em⟩, hB4, skip fun e => absurd e etp, hme4⟩)
          · rintro σ H4 ⟨y6, y7, kvs', ms', rfl, s4, hd4, hm4, ⟨more, em⟩, hB4, hCl4, hme4⟩
            rw [hlenX] at hCl4
            refine ⟨_, ?_, _, _, _, kvs', ms', t + 1, rfl, s4, hd4, hm4, ?_, ?_, hB4, fun i p hi hip => ?_, by omega, rfl⟩
            · omega
            · rw [em, List.length_append]
              omega
            · rw [em]
              exact List.mem_append_left _ hzm
            · rw [em, List.getElem?_append_left (by omega)] at hip
              by_cases e : i = t
              · rw [e, hmst] at hip
                have : pl = p := Option.some.inj hip
                subst this
                exact ⟨epg, hCl4⟩
              · obtain ⟨c1, c2⟩ := hCl i p (by omega) hip
                refine ⟨c1, fun k hk e1 e2 => ?_⟩
                rw [em]
                exact List.mem_append_left _ (c2 k hk e1 e2)
      · rw [decide_eq_false (by omega)]
        refine iteF ?_
        have hall : ∀ p ∈ ms, p ≠ g ∧ ∀ k, k < es.length → tl es k = p → hd es k ∉ x.2 → hd es k ∈ ms := fun p hp => by
          obtain ⟨i, hi, e⟩ := List.getElem_of_mem hp
          exact hCl i p (by omega) (by rw [List.getElem?_eq_getElem hi, e])
        refine q H3 false s03 fun _ => ?_
        refine comp_nil G N (fun p => p ∈ ms) (fun z' hz' => ?_) (fun hg => (hall g hg).1 rfl) fun k hk h1 h2 => (hall _ h1).2 k hk rfl h2
        rw [hz] at hz'
        exact (Option.some.inj hz') ▸ hzm
end
end Ut
/-! raise TooMany(most): its __init__ says super().__init__('too many'), then self.most = most. -/
namespace Ut
open PySem PySem.Calls PyProof.Rows PySem.HandSPX
open PySem.W
def tmS : Stmt := L2.inClass (topS 6) 0
/-- what the top has written of TooMany, at C, its __init__ at fI, the cell of __class__ at cc -/
structure TmTxt (P : Program) (K : PySem.W.Frag) (mg : Str → Option Value) (C fI : Addr) : Prop where
  gC : mg "TooMany" = some (.ref C)
  gS : mg "super" = none
  cls : ∃ nm q N bs bm sn sub ab col dd k0 k1 k2 k3 k5, K.lookup C = some (excClassObj nm q C N bs bm true sn sub ab col dd k0 k1 k2 k3 k5 "ValueError.__new__") ∧ refsVE bm = true
  sa : findIn K (.ref C) "__setattr__" = some (some (.builtin "object.__setattr__"))
  ga : findIn K (.ref C) "__getattribute__" = some (some (.builtin "BaseException.__getattribute__"))
  gg : findIn K (.ref C) "__getattr__" = some none
  noN : findIn K (.ref C) "most" = some none
  iC : findIn K (.ref C) "__init__" = some (some (.ref fI))
  tC : typeIn K (.ref fI) = some (.type "function")
  kC : keepIn K (.ref C) = true
  exC : subIn K (.ref C) (.type "BaseException") = some true
  veC : subIn K (.ref C) (.type "ValueError") = some true
  tyC : typeIn K (.ref C) = some (.type "type")
  hdC : hasDictIn K C = true
  te : exmOne K (.ref C) (.ref C) = some true
  self : mroIn K C (.ref C) = some true
  opq : nsIn K cStatics "thirdparty.any" = some none
  sup : ks_superIn K C C "__init__" = some (some (.builtin "ValueError.__init__"))
  top : (P.main.scope.names.lookup ("super" : Str)).isSome = false
  fn : ∃ (oc : Value) (od : Option Addr) (kV doc pm : Value) (an : Option Addr) (cda cc : Addr) (ct : Value) (osl : Array (Option Value)) (ccl : Value) (cdd : Option Addr) (vs : Array Value) (ccs : Array (Option Value)) (file : Str) (tf : Tok) (cl : Value) (cld : Option Addr) (csl : Array (Option Value)),
    K.lookup fI = some ⟨oc, od, .func (ksFn "__init__" "TooMany.__init__" (L2.defArgs tmS) (L2.defBody tmS) (L2.defScope tmS) .none kV doc pm an (.ref cda) ct cc), osl⟩ ∧ codeIn K (.ref cda) "TooMany.__init__" = true ∧
    K.lookup cda = some ⟨ccl, cdd, .fields vs, ccs⟩ ∧ vs[2]? = some (.str file tf) ∧ ((P.main.file : Str) == file) = true ∧ K.lookup cc = some ⟨cl, cld, .cell (some (.ref C)), csl⟩
/-- the heap behind a step: but for x all stands -/
def ButX (x : Addr) (h h' : Heap) : Prop := ∀ b o, b ≠ x → h.get? b = some o → h'.get? b = some o
structure TmEnd (h h' : Heap) (x C dx t1 : Addr) (v : Value) : Prop where
  keep : ButX x h h'
  obj : h'.get? x = some { cls := .ref C, dict := some dx, data := .fields #[.ref t1, .none, .none, .none, .bool false, .none] }
  dbig : h.objs.size ≤ dx
  dne : dx ≠ x
  ns : h'.Ns1 dx (fun y => if y = "most" then some v else none)
structure TmMade (h h' : Heap) (e C d : Addr) (v : Value) : Prop where
  keep : ∀ b o, h.get? b = some o → h'.get? b = some o
  new : h.objs.size ≤ e
  obj : ∃ oe vs, h'.get? e = some oe ∧ oe.cls = .ref C ∧ oe.dict = some d ∧ oe.data = .fields vs ∧ vs[1]? = some .none
  dbig : h.objs.size ≤ d
  dne : d ≠ e
  ns : h'.Ns1 d (fun y => if y = "most" then some v else none)
section
variable {prog : Program} {w : World} {M : Model} {A : Around} {E : Value → Shared → Prop} {h : Heap} {g : Array GenState} {d : Drawn} {t : Nat} {os : OsState} {C : Addr}
/-- the bound ValueError.__init__, called: the args of e are laid anew -/
theorem call_vei {nm q : Str} {N : Addr} {bs bm : List Value} {hdct : Bool} {sn : List Str} {sub : List Value} {ab : Bool} {col : Option Bool} {dd : Option Addr} {k0 k1 k2 k3 k5 : Option Value} {u e t0 : Addr} {rest : List Value} {Q : Value → Shared → Prop}
    (hC : h.get? C = some (excClassObj nm q C N bs bm hdct sn sub ab col dd k0 k1 k2 k3 k5 "ValueError.__new__")) (he : h.get? e = some (excO C t0)) (hu : h.get? u = some (kxs_mw "ValueError.__init__" e)) (hz : rest.length ≤ sizeLine)
    (hq : ∀ h' t1, ButX e h h' → h'.get? e = some (excO C t1) → Q .none ⟨h', g, d, t, os⟩) : wpAny (model prog w) A (call (.ref u) rest) Q E ⟨h, g, d, t, os⟩ := by
  have FB := PySem.F.excBase_ValueError
  refine wpAny_call (codeAny_of_tree (show wpAny _ A.in1 (callAny (.ref u) ⟨rest, []⟩) _ _ _ from ?_))
  simp only [callAny]
  refine wpAny_bind (wpAny_load hu ?_)
  have e1 : (Value.type "method-wrapper" == Value.type "method" || Value.type "method-wrapper" == Value.type "builtin_function_or_method" || Value.type "method-wrapper" == Value.type "method-wrapper") = true := by decide
  simp only [kxs_mw, e1, if_true]
  refine PySem.W.KFB.if_so (by decide) (wpAny_bind (check_bound_init FB.toExcCallFacts hC he rfl (wpAny_bind (wpAny_pure (wpAny_pure ?_)))))
  refine ⟨plainId_quiet FB.init.plain _, codeAny_builtin FB.initEntry ?_⟩
  exact exc_init_tree (cls := .ref C) (t0 := t0) (dv := none) (c2 := .none) (c3 := .none) (b4 := .bool false) he hz fun h' k1 k2 _ => hq h' _ k1 k2
theorem one_size (v : Value) : [v].length ≤ sizeLine := by
  rw [sizeLine_eq]
  exact (by decide : 1 ≤ 16777216)
theorem tm_init {P : Program} {s : Shared} {K : PySem.W.Frag} {mg mb : Str → Option Value} {fI x t0 : Addr} {R : Result → Shared → Prop} (T : TmTxt P K mg C fI) {v : Value} (X : K.In s.heap) (hlim : s.heap.NoLimit) (hg : s.heap.Ns mainGlobals mg) (hb : s.heap.Ns builtinsNs mb) (hsb : mb "super" = some (.type "super"))
    (hx : s.heap.get? x = some (excO C t0)) (hnx : K.lookup x = none) (hroom : A.depth < recursionLimit) (hq : ∀ h' tk dx t1, TmEnd s.heap h' x C dx t1 v → R (.ok (.ret .none)) { s with heap := h', toks := tk }) :
    codeAny (model P w) A (.call (.ref fI) ⟨[.ref x, v], []⟩) R s := by
  obtain ⟨oc, od, kV, doc, pm, an, cda, cc, ct, osl, ccl, cdd, vs, ccs, file, tf, cl, cld, csl, ho, hcd, hcode, hvs, hfile, hcell⟩ := T.fn
  obtain ⟨nm, q, N, bs, bm, sn, sub, ab, col, dd, k0, k1, k2, k3, k5, hC, hbm⟩ := T.cls
  have hcl : clsIn K C = some { name := nm, bases := bs, mro := .ref C :: bm, ns := N, qualname := q, hasDict := true, slotNames := sn, subclasses := sub, abstract := ab, collection := col, hasDel := false } := by
    unfold clsIn
    rw [hC] <;> rfl
  refine ks_codeAny_call_defAt (body := L2.defBody tmS) (binds := [("self", .ref x), ("most", v)]) hroom (X _ _ ho) rfl hlim (codeRec_of X hcd) rfl (BindsTo.of_eq (by first | rfl | with_unfolding_all rfl)) (show ∀ y ∈ (L2.defScope tmS).names, y.2 ≠ .cell by decide +kernel) (fun y hy => ?_) (fun h1 hn k => ?_) rfl rfl rfl
  · rcases List.mem_cons.mp hy with e | hy
    · subst e
      show (L2.defScope tmS).names.lookup ("self" : Str) = some .local
      decide +kernel
    · obtain rfl := List.mem_singleton.mp hy
      show (L2.defScope tmS).names.lookup ("most" : Str) = some .local
      decide +kernel
  have hxL : s.heap.objs.size ≠ x := Nat.ne_of_gt (Heap.lt_size hx)
  have X1 : K.In h1 := X.keeps k
  have hx1 := k _ _ hx
  have I1 : InstAt h1 x (excO C t0) C none := ⟨hx1, rfl, rfl, trivial⟩
  have hxC : x ≠ C := ks_ne X1 I1 hcl
  obtain ⟨cd, hcd2, hsup⟩ : ∃ cd, clsIn K C = some cd ∧ alongIn K "__init__" ((cd.mro.dropWhile (· != .ref C)).drop 1) = some (some (.builtin "ValueError.__init__")) := by
    have z := T.sup
    unfold ks_superIn at z
    rw [hcl] at z
    exact ⟨_, hcl, z⟩
  -- super().__init__('too many')
  refine ks_wpAt_execs_cons (ks_wpAt_Expr_any (ks_wpAt_MethodCall ?_))
  refine ks_wpAt_super_base (ar := { arg := "self", annotation := none, pos := _ }) rfl rfl rfl rfl (X1 _ _ ho) rfl rfl rfl (X1 _ _ hcode) rfl hvs hfile T.top ?_
  have hg1 : h1.Ns mainGlobals mg := hg.keeps k
  have hb1 : h1.Ns builtinsNs mb := hb.keeps k
  refine ks_loadName_global rfl rfl (loadGlobal_builtin (show h1.Ns _ mg from hg1) T.gS (show h1.Ns _ mb from hb1) hsb ⟨rfl, ?_⟩)
  refine wpAny_loadName_free rfl rfl rfl ⟨_, X1 _ _ hcell, rfl⟩ ?_
  refine wpAny_loadName_local rfl rfl hn (v := .ref x) (by first | rfl | with_unfolding_all rfl | kernel_rfl) ?_
  refine ks_wpAny_isType_cls (X1 _ _ hC) rfl ⟨rfl, ?_⟩
  refine ks_wpAny_call_super (X1 _ _ hC) rfl hx1 rfl (fun c e => by cases e) (looks_mroIn X1 T.self) (fun h2 hso k2 => ?_)
  have X2 : K.In h2 := X1.keeps k2
  have hI2 : Looks (model P w) h2 (isInstance (.ref x) (.type "ValueError")) true := (show InstAt h2 x (excO C t0) C none from ⟨k2 _ _ hx1, rfl, rfl, trivial⟩).type.andThen (looks_subIn X2 T.veC)
  refine kxs_getMethod kxs_ValueError hso (looks_opaque X2 T.opq) ((looks_clsIn X2 hcd2).andThen .now) rfl X2 hsup hI2 hxC rfl ?_
  have k3 : ∀ b o, h2.get? b = some o → (h2.push (kxs_mw "ValueError.__init__" x)).get? b = some o := fun b o e => Heap.get?_push_of_some _ e
  have hu3 : (h2.push (kxs_mw "ValueError.__init__" x)).get? h2.objs.size = some (kxs_mw "ValueError.__init__" x) := Heap.get?_push_at rfl rfl
  generalize h2.push (kxs_mw "ValueError.__init__" x) = h3 at k3 hu3 ⊢
  have k03 : ∀ b o, s.heap.get? b = some o → h3.get? b = some o := fun b o e => k3 b o (k2 b o (k b o e))
  refine kxs_callWith (i := "ValueError.__init__") (x := x) rfl (evalArgs_plain (spliced_cons (Constant_str (k := 0) (pos := ⟨0, 0, 0, 0⟩) (spliced_nil ⟨hu3, ?_⟩))))
  refine call_vei (k03 _ _ (X _ _ hC)) (k03 _ _ hx) hu3 (one_size _) fun h4 t1 k4 hx4 => ?_
  -- self.most = most
  have k04 : ButX x s.heap h4 := fun b o hb e => k4 b o hb (k03 b o e)
  have X4 : K.In h4 := fun a o e => k04 a o (fun z => by rw [z, hnx] at e; cases e) (X a o e)
  have hn4 : h4.Ns s.heap.objs.size (fun y => [(("self" : Str), Value.ref x), (("most" : Str), v)].reverse.lookup y) := ((hn.keeps k2).keeps k3).at fun o e => k4 _ _ hxL e
  refine wpAt_of_wpAny (wpAny_execs_cons (plainObj_wpAny_Assign_Attribute ?_))
  refine wpAny_Name (wpAny_loadName_local rfl rfl hn4 (v := v) (by first | rfl | with_unfolding_all rfl | kernel_rfl) ?_) (by decide)
  refine wpAny_Name (wpAny_loadName_local rfl rfl hn4 (v := .ref x) (by first | rfl | with_unfolding_all rfl | kernel_rfl) ?_) (by decide)
  refine set_plain X4 (ox := excO C t1) (od := none) ⟨hx4, rfl, rfl, trivial⟩ T.sa ?_
  refine exc_osa X4 hx4 hcl (show refsVE (.ref C :: bm) = true from hbm) rfl T.noN (fun h5 tk5 dx k5 dn dne hx5 hn5 => ?_)
  refine wpAny_execs_nil (hq h5 tk5 dx t1 ⟨fun b o hb e => k5 b o hb (k04 b o hb e), hx5, ?_, dne, hn5⟩)
  have z : s.heap.objs.size < h4.objs.size := hn4.lt
  exact Nat.le_of_lt (Nat.lt_of_lt_of_le z dn)
theorem tm_made {P : Program} {s : Shared} {K : PySem.W.Frag} {mg mb : Str → Option Value} {fI : Addr} {R : Result → Shared → Prop} (T : TmTxt P K mg C fI) {v : Value} (X : K.In s.heap) (hlim : s.heap.NoLimit) (hg : s.heap.Ns mainGlobals mg) (hb : s.heap.Ns builtinsNs mb) (hsb : mb "super" = some (.type "super"))
    (hroom : A.depth + 1 < recursionLimit) (hq : ∀ h' tk e d, TmMade s.heap h' e C d v → R (.ok (.ret (.ref e))) { s with heap := h', toks := tk }) :
    codeAny (model P w) A (.call (.ref C) ⟨[v], []⟩) R s := by
  obtain ⟨nm, q, N, bs, bm, sn, sub, ab, col, dd, k0, k1, k2, k3, k5, hC, hbm⟩ := T.cls
  obtain ⟨hp, g, dr, tk, os⟩ := s
  have up : ∀ b o, hp.get? b = some o → ((hp.push (kdv_tup [v])).push (excO C hp.objs.size)).get? b = some o := fun b o e => Heap.get?_push_of_some _ (Heap.get?_push_of_some _ e)
  have hx : ((hp.push (kdv_tup [v])).push (excO C hp.objs.size)).get? (hp.objs.size + 1) = some (excO C hp.objs.size) := by heap_get
  have hnx : K.lookup (hp.objs.size + 1) = none := by
    cases e : K.lookup (hp.objs.size + 1) with
    | none => rfl
    | some o => exact absurd (Nat.lt_of_succ_lt (Heap.lt_size (show hp.get? (hp.objs.size + 1) = some o from X _ _ e))) (Nat.lt_irrefl _)
  refine call_own PySem.F.excBase_ValueError (fun Z => refsVE_contains Z bm hbm) (X _ _ hC) (looks_findIn X T.iC) (fun z => bind_fn X z T.tC) (one_size v) ?_
  refine tm_init (s := ⟨(hp.push (kdv_tup [v])).push (excO C hp.objs.size), g, dr, tk, os⟩) T (X.keeps up) (hlim.keeps up) (hg.keeps up) (hb.keeps up) hsb hx hnx hroom fun h' tk' dx t1 D => ⟨rfl, ?_⟩
  have dn := D.dbig
  have z : hp.objs.size + 1 + 1 ≤ dx := by
    first
      | exact dn
      | (rw [Heap.size_push, Heap.size_push] at dn; exact dn)
  exact hq h' tk' (hp.objs.size + 1) dx ⟨fun b o e => D.keep b o (Nat.ne_of_lt (Nat.lt_succ_of_lt (Heap.lt_size e))) (up b o e), Nat.le_succ _, ⟨_, _, D.obj, rfl, rfl, rfl, rfl⟩, Nat.le_trans (Nat.le_trans (Nat.le_succ _) (Nat.le_succ _)) z, D.dne, D.ns⟩
end
end Ut
namespace Ut
open PySem PySem.Spec PyProof.Rows L2
/-- what an exception's dict holds -/
def TmD (v : V) : HO := .xd [(("most" : Str), v)]
theorem relO_most {v : V} {u : Value} (r : RelV v u) (f : Str) : RelO (List.lookup f [(("most" : Str), v)]) (if f = "most" then some u else none) := by
  by_cases e : f = "most"
  · subst e
    rw [if_pos rfl, show List.lookup ("most" : Str) [(("most" : Str), v)] = some v from by simp [List.lookup]]
    exact r
  · rw [if_neg e, show List.lookup f [(("most" : Str), v)] = none from by
      have : (f == ("most" : Str)) = false := by simpa using e
      simp [List.lookup, this]]
    trivial
section
variable {X : Cx} {C fI : Addr}
/-- TooMany(e) -/
def tMkTm (C : Addr) (ta : TA) : L2.St → Hp → XK → Prop := fun σ H Q => ta σ H fun vs H1 => ∃ v, vs = [v] ∧ ∀ d, H1 d = none → Q (.ref C) (some d) (upd H1 d (TmD v))
theorem pmk_tm {a : Expr} {ta : TA} {p pos : Pos} {k : Nat} (T : TmTxt X.prog X.K X.mg C fI) (hr : Room k X.A) (ha : PA X [a] ta) (hg : Gl X "TooMany" := by rfl)
    (he : starEach (a :: []) X.env = (false, eval a X.env) :: starEach [] X.env := by rfl) (hpl : (backTo pos (starEach [] X.env)).any (·.1) = false := by rfl) :
    PMk X (.Call (.Name "TooMany" p) [a] [] pos) (tMkTm C ta) := by
  intro pins s σ H Q I h
  refine wpAny_Call_Name_kw (ld_glob I hg T.gC ?_)
  refine PySem.W.callWith_K (h₀ := X.base) I.ok.mod.kin T.kC (thn (ha.run pos pins s σ H _ I h) fun us s1 ⟨vs, H1, I1, r1, v, ev, q1⟩ => ?_) he hpl
  subst ev
  refine ⟨I1.kIn, ?_⟩
  obtain ⟨u, rfl, rv⟩ := vals1 r1
  obtain ⟨mb, b1, b2⟩ := I1.mod.blt
  have hlim := I1.nolimit
  have g1 := I1.mod.glob.keeps I1.bk
  have b1 := b1.keeps I1.bk
  show wpAny _ _ (call (.ref C) [u]) _ _ _
  obtain ⟨hp, g, dr, tk, os⟩ := s1
  refine wpAny_call (tm_made T I1.kIn hlim g1 b1 ((b2 "super" (by decide)).trans (by decide +kernel)) (by have := hr.dp; omega) fun h' tk' e d M => ?_)
  show MkP X pins σ Q (.ref e) ⟨h', g, dr, tk', os⟩
  obtain ⟨oe, fv, hoe, hc, hd, hdat, hf1⟩ := M.obj
  have hns := M.ns
  obtain ⟨G', r1, r2⟩ := restrict h' fun b => decide (b ≠ e)
  have gk : ∀ b, b ≠ e → G'.get? b = h'.get? b := fun b hb => r1 b (decide_eq_true hb)
  have ge : G'.get? e = none := r2 e (by simp)
  have old : ∀ b o, hp.get? b = some o → G'.get? b = some o := fun b o z => (gk b (Nat.ne_of_lt (Nat.lt_of_lt_of_le (Heap.lt_size z) M.new))).trans (M.keep b o z)
  have ob : ObjOk X.prog X.w (upd H1 d (TmD v)) G' d (TmD v) := ⟨_, hns.at (fun o z => (gk d M.dne).trans z), fun f => relO_most rv f⟩
  have J : Inv X pins σ (upd H1 d (TmD v)) ⟨G', g, dr, tk', os⟩ := I1.laid (t' := tk') old M.dbig ob
  refine ⟨e, oe, fv, ⟨G', g, dr, tk', os⟩, _, .ref C, some d, rfl, J, fun b o z => ?_, ge, hoe, ⟨hc, hd⟩, hdat, hf1, ?_, rfl, I1.bare, raises_own T.exC T.tyC, q1 d (I1.hok.fresh M.dbig)⟩
  · by_cases hb : b = e
    · rw [hb] at z
      exact absurd (ge.symm.trans z) (by simp)
    · exact (gk b hb).symm.trans z
  · rw [upd_ne (Ne.symm M.dne)]
    exact I1.hok.fresh M.new
/-- raise TooMany(e) -/
theorem ps_raiseTm {a : Expr} {ta : TA} {W : WX} {p pos pos2 : Pos} {k : Nat} (hc : X.calm = true) (T : TmTxt X.prog X.K X.mg C fI) (hr : Room k X.A) (tk : Takes X W) (ha : PA X [a] ta) (hg : Gl X "TooMany" := by rfl)
    (he : starEach (a :: []) X.env = (false, eval a X.env) :: starEach [] X.env := by rfl) (hpl : (backTo pos (starEach [] X.env)).any (·.1) = false := by rfl) :
    PS X (.Raise (some (.Call (.Name "TooMany" p) [a] [] pos)) none pos2) (fun _ σ H => tMkTm C ta σ H fun cls d H' => W cls d σ H') := ps_raise hc tk (pmk_tm T hr ha hg he hpl)
/-- e.most, e the exception that the suite holds -/
def tMost (C : Addr) (a : Addr) (cls : Value) (d : Option Addr) (te : TE) : TE := fun σ H Q => te σ H fun x H1 => x = .ref a ∧ cls = .ref C ∧ ∃ (dd : Addr) (v : V), d = some dd ∧ H1 dd = some (TmD v) ∧ Q v H1
theorem pe_most {a : Addr} {oe : Obj} {cls : Value} {d : Option Addr} {pn : List (Addr × Obj)} {e : Expr} {te : TE} {pos : Pos} (T : TmTxt X.prog X.K X.mg C fI) (hz : Zc cls d oe) (hf : ∃ vs, oe.data = .fields vs) (he : PE (X.suite a ((a, oe) :: pn)) e te)
    (hb : attributeBase e "most" X.env (eval e X.env) = eval e X.env := by rfl) :
    PE (X.suite a ((a, oe) :: pn)) (.Attribute e "most" pos) (tMost C a cls d te) := by
  refine ⟨fun pins s σ H Q I h => ?_⟩
  refine attr_of hb (thn (he.run pins s σ H _ I h) fun u s1 ⟨x, H1, I1, rx, ex, ec, dd, v, ed, ea, q⟩ => ?_)
  subst ex
  subst ec
  subst ed
  obtain rfl : u = Value.ref a := rx
  obtain ⟨ha, _⟩ := I1.pin (a, oe) (List.mem_append_left _ List.mem_cons_self)
  obtain ⟨vs, hd⟩ := hf
  obtain ⟨mA, hns, hr⟩ := (show ObjOk X.prog X.w H1 s1.heap dd (TmD v) from I1.hok dd _ ea)
  obtain ⟨od, ho, hl⟩ := lookIn_ns hns
  obtain ⟨u, hu, ru⟩ := RelO.some_of (v := v) (o := mA "most") (by rw [← show List.lookup ("most" : Str) [(("most" : Str), v)] = some v from by simp [List.lookup]]; exact hr "most")
  have J : PySem.W.InstAt s1.heap a oe C (some od) := ⟨ha, hz.1, by unfold PySem.W.notCls; rw [hd] <;> rfl, by rw [hz.2]; exact ho⟩
  exact HandSPX.exc_get I1.kIn J T.ga T.gg T.exC (PySem.W.findObj_own T.hdC T.noN rfl (by rw [hl, hu])) (handed_of ru) ⟨v, H1, I1.tok _, ru, q⟩
end
end Ut
/-! ways_of. -/
namespace Ut
open PySem PySem.Spec PyProof.Rows L2
theorem BN.at2 {H : Hp} {v : V} {x : List Nat × List Nat} (h : BN H v x) : ∃ a w p, v = .ref a ∧ H a = some (.tup [w, p]) ∧ TN H w x.1 ∧ TN H p x.2 := h
theorem kids_flat {es : Arr} {g n : Nat} {x : List Nat × List Nat} : ((kidsF es x.2).map (kidX es x)).flatMap (compF es g n) = (kidsF es x.2).flatMap fun k => compF es g n (kidX es x k) := by
  rw [List.flatMap_map]
theorem kids_sum {es : Arr} {g n : Nat} {x : List Nat × List Nat} : (((kidsF es x.2).map (kidX es x)).map (cntF es g n)).sum = ((kidsF es x.2).map fun k => cntF es g n (kidX es x k)).sum := by
  rw [List.map_map]
  rfl
theorem cnt_le {es : Arr} {g n : Nat} (ws : List (List Nat × List Nat)) : ws.length ≤ (ws.map (cntF es g n)).sum := len_le_sum _ (fun x => cntF_pos es g n x) ws
/-- what waits -/
def Good2 (n : Nat) (ws : List (List Nat × List Nat)) : Prop := ∀ x ∈ ws, Node n x.2 ∧ x.1.length < x.2.length
theorem Good2.kids {n : Nat} {es : Arr} {x : List Nat × List Nat} (N : Node n x.2) (h : x.1.length < x.2.length) (G : Good n es) : Good2 n ((kidsF es x.2).map (kidX es x)) := by
  intro y hy
  obtain ⟨k, hk, rfl⟩ := List.mem_map.mp hy
  refine ⟨N.kid G hk, ?_⟩
  show (x.1 ++ [k]).length < (x.2 ++ [hd es k]).length
  rw [List.length_append, List.length_append]
  show x.1.length + 1 < x.2.length + 1
  omega
section
variable {P : Program} {w : World} {K : PySem.W.Frag} {mg : Str → Option Value} {base : Heap}
def sp_ways_of (K : PySem.W.Frag) (C : Addr) : Sp := fun vs H Q E => ∃ (v : V) (es : Arr) (n g : Nat), vs = [v, .int 12] ∧ Chart K H v es n g ∧ Good n es ∧ 0 < n ∧ n ≤ 40 ∧ es.length ≤ 16 ∧ g ≠ 0 ∧
  ((allWays es g n).length ≤ 12 → ∀ H' v', NewLN H H' v' (sortW (allWays es g n)) → Q v' H') ∧
  (12 < (allWays es g n).length → ∀ H' d, Same H H' → H d = none → E (.ref C) (some d) (upd H' d (TmD (.int 12))))
theorem cd_ways_of {C fI : Addr} (T : Tx K mg) (TM : TmTxt P K mg C fI) : Cd P w K mg base (L2.CX P w) "ways_of" 5 ["chart", "most"] (sp_ways_of K C) := by
  have G_leads_on : Cd P w K mg base CX0 "leads_on" 1 ["chart", "places"] (sp_leads_on K) := cd_leads_on T
  have G_longer_ways : Cd P w K mg base CX0 "longer_ways" 1 ["chart", "way", "places"] (sp_longer_ways K) := cd_longer_ways T
  refine Cd.of T.d_ways_of (fun _ _ _ _ _ _ us hl => match us, hl with | [_, _], _ => rfl) fun f fd F => ?_
  refine F.okX sc_ways_of (fun vs H Q E h => ?_) (fun cdv A outer s H vs Q E hr h => ?_)
  · obtain ⟨v, es, n, g, rfl, _⟩ := h
    rfl
  · obtain ⟨v, es, n, g, rfl, hC, G, hn0, hn40, hes, hg0, q, qE⟩ := h
    have hu := hu_of hr
    have hbig : ∀ x : List Nat × List Nat, Node n x.2 → cntF es g n x ≤ 65536 := fun x N => Nat.le_trans (cntF_bound N G) (Nat.pow_le_pow_right (n := 2) (by decide) hes)
    refine ⟨_, (pss_cons (ps_set (i := 2) sc_ways_of.nd rfl (by first | exact Or.inl rfl | exact Or.inr rfl) (pe_lst pa_nil))
      (pss_cons (ps_set (i := 3) sc_ways_of.nd rfl (by first | exact Or.inl rfl | exact Or.inr rfl) (pe_lst (pa_cons (pe_tup (pa_cons (pe_tup pa_nil) (pa_cons (pe_tup (pa_cons pe_int pa_nil)) pa_nil))) pa_nil)))
      (pss_cons (ps_while (passes_of rfl) (pt_cmpR op_gt (pe_callB (id := "len") call_lenU (by rfl) T.b_len (by decide +kernel) (pa_cons (pv 3) pa_nil)) pe_int (nomark _))
      (pss_cons (ps_asg (pe_bm0 PySem.F.plainAttrs_list PySem.F.slot_list_pop PySem.F.type_list_pop mt_pop (pv 3)) (pg_tup (by rfl) (pgs_cons (pg_name (i := 4) sc_ways_of.nd rfl (by first | exact Or.inl rfl | exact Or.inr rfl)) (pgs_cons (pg_name (i := 5) sc_ways_of.nd rfl (by first | exact Or.inl rfl | exact Or.inr rfl)) pgs_nil))))
      (pss_one (ps_if (pt_cmpR op_in_seq (pe_ix ix_tup (pv 5) (pe_un un_neg pe_int) (fun _ _ => rfl)) (pe_fld (pv 0) rfl) rfl) (pss_cons (ps_expr (pe_bm PySem.F.plainAttrs_list PySem.F.slot_list_append PySem.F.type_list_append mt_append (pv 2) (pa_cons (pv 4) pa_nil)))
      (pss_one (ps_if (pt_cmpR op_gt (pe_callB (id := "len") call_lenU (by rfl) T.b_len (by decide +kernel) (pa_cons (pv 2) pa_nil)) (pv 1) (nomark _)) (pss_one (ps_raiseTm rfl TM hr (takes_of rfl rfl rfl rfl) (pa_cons (pv 1) pa_nil))) pss_nil))) (pss_one (ps_if (pt_val (pe_callD G_leads_on (hr.mono (by decide)) pass0 (pa_cons (pv 0) (pa_cons (pv 5) pa_nil)))) (pss_one (ps_expr (pe_bm PySem.F.plainAttrs_list PySem.F.slot_list_extend PySem.F.type_list_extend mt_extend (pv 3) (pa_cons (pe_callD G_longer_ways (hr.mono (by decide)) pass0 (pa_cons (pv 0) (pa_cons (pv 4) (pa_cons (pv 5) pa_nil)))) pa_nil)))) pss_nil))))))
      (pss_one (ps_ret (pe_callB (id := "sorted") (cr_sortedW hr.units) (by rfl) T.b_sorted (by decide +kernel) (pa_cons (pv 2) pa_nil))))))), ?_⟩
    -- found = []; waiting = [((), (0,))]
    refine ⟨line_le (by show 0 ≤ _; omega), fun fl hfl => ?_⟩
    have s1 : Same H (upd H fl (.lst [])) := Same.new hfl
    refine ⟨line_le (by show 0 ≤ _; omega), fun p0 hp0 => ⟨line_le (by show 1 ≤ _; omega), fun p1 hp1 => ⟨line_le (by show 2 ≤ _; omega), fun p2 hp2 => ⟨line_le (by show 1 ≤ _; omega), fun wl hwl => ?_⟩⟩⟩⟩
    generalize hH1 : upd H fl (.lst []) = H1 at *
    generalize hH2 : upd H1 p0 (.tup []) = H2 at *
    generalize hH3 : upd H2 p1 (.tup [.int 0]) = H3 at *
    generalize hH4 : upd H3 p2 (.tup [.ref p0, .ref p1]) = H4 at *
    have s2 : Same H1 H2 := hH2 ▸ Same.new hp0
    have s3 : Same H2 H3 := hH3 ▸ Same.new hp1
    have s4 : Same H3 H4 := hH4 ▸ Same.new hp2
    have s5 : Same H4 (upd H4 wl (.lst [.ref p2])) := Same.new hwl
    have s04 : Same H H4 := ((s1.trans s2).trans s3).trans s4
    have hf1 : H1 fl = some (.lst []) := hH1 ▸ upd_same
    have hb0 : BN (upd H4 wl (.lst [.ref p2])) (.ref p2) ([], [0]) := by
      refine ⟨p2, .ref p0, .ref p1, rfl, s5 _ _ (hH4 ▸ upd_same), ⟨p0, rfl, s5 _ _ (s4 _ _ (s3 _ _ (hH2 ▸ upd_same)))⟩, ⟨p1, rfl, s5 _ _ (s4 _ _ (hH3 ▸ upd_same))⟩⟩
    have hfl4 : H4 fl = some (.lst []) := s4 _ _ (s3 _ _ (s2 _ _ hf1))
    have hwl0 : H wl = none := s04.free hwl
    have nfw : fl ≠ wl := ne_of_none hfl4 hwl
    refine ⟨fun m σ H5 => ∃ (y4 y5 : Option V) (fs zs : List V) (FW : List (List Nat)) (ws : List (List Nat × List Nat)), σ = [some v, some (.int 12), some (.ref fl), some (.ref wl), y4, y5] ∧ Same H H5 ∧ H5 fl = some (.lst fs) ∧ TNs H5 fs FW ∧ H5 wl = some (.lst zs) ∧ BNs H5 zs ws ∧
        Good2 n ws ∧ (FW ++ ws.flatMap (compF es g n)).Perm (allWays es g n) ∧ FW.length ≤ 12 ∧ m = (ws.map (cntF es g n)).sum ∧ m ≤ 65536,
      ⟨_, none, none, [], [.ref p2], [], [([], [0])], rfl, s04.trans s5, s5 _ _ hfl4, .nil, upd_same, .cons hb0 .nil, ?_, ?_, Nat.zero_le _, rfl, ?_⟩, ?_⟩
    · intro x hx
      obtain rfl := List.mem_singleton.mp hx
      exact ⟨node0 hn0, Nat.zero_lt_one⟩
    · rw [List.nil_append, List.flatMap_cons, List.flatMap_nil, List.append_nil]
      exact List.Perm.refl _
    · show (cntF es g n ([], [0]) + 0) ≤ 65536
      exact hbig _ (node0 hn0)
    rintro m σ H5 ⟨y4, y5, fs, zs, FW, ws, rfl, s05, hf5, hF, hw5, hZ, hG2, hP, hF12, hm, hm2⟩
    refine ⟨_, rfl, wl, _, rfl, .inl (SqL.of hw5), _, _, rfl, rfl, _, rfl, ?_⟩
    have hzl := hZ.len
    rcases List.eq_nil_or_concat ws with e | ⟨ws', x, e⟩
    · subst e
      have : zs = [] := hZ.nil_right
      subst this
      refine iteF ?_
      have hP' : FW.Perm (allWays es g n) := by simpa using hP
      refine ⟨_, rfl, fl, fs, FW, rfl, SqL.of hf5, hF, fun w hw => way_ne G hn0 hg0 (hP'.mem_iff.mp hw), by omega, fun ys p hp hY => ?_⟩
      refine q (by rw [← hP'.length_eq]; exact hF12) _ _ ⟨p, rfl, s05.trans (Same.new hp), s05.free hp, ys, upd_same, ?_⟩
      rw [← sortW_eq hP']
      exact hY.kt (Kt.new hp)
    · have e : ws = ws' ++ [x] := by rw [e, List.concat_eq_append]
      subst e
      have hzl2 : zs.length = ws'.length + 1 := by rw [hzl, List.length_append]; rfl
      obtain ⟨y, hy, hB⟩ := hZ.get' (i := ws'.length) (b := x) (by simp)
      obtain ⟨N, hxl⟩ := hG2 x (by simp)
      have hG2' : Good2 n ws' := fun z hz => hG2 z (List.mem_append_left _ hz)
      have hnl := N.len
      obtain ⟨z, hz⟩ : ∃ z, x.2.getLast? = some z := by
        cases e : x.2.getLast? with
        | none => exact absurd (List.getLast?_eq_none_iff.mp e) N.ne
        | some z => exact ⟨z, rfl⟩
      have hZ' : BNs H5 zs.dropLast ws' := by
        have := hZ.dropLast
        rwa [List.dropLast_concat] at this
      rw [decide_eq_true (by omega : (0 : Int) < (zs.length : Int))]
      refine iteT ⟨fun σ' H' => ∃ m', m' < m ∧ _, fun σ' H' h => h, ?_⟩
      -- way, places = waiting.pop()
      refine ⟨_, rfl, .inl ⟨rfl, _, SqL.of hw5⟩, wl, zs, y, rfl, rfl, hw5, by rw [hzl2]; exact hy, ?_⟩
      have k6 : Kt H5 (upd H5 wl (.lst zs.dropLast)) := Kt.lst hw5
      have s06 : Same H (upd H5 wl (.lst zs.dropLast)) := s05.mut hwl0
      have hf6 : (upd H5 wl (.lst zs.dropLast)) fl = some (.lst fs) := by rw [upd_ne nfw]; exact hf5
      have hw6 : (upd H5 wl (.lst zs.dropLast)) wl = some (.lst zs.dropLast) := upd_same
      have hF6 := hF.kt k6
      have hZ6 := hZ'.kt k6
      have hB6 := hB.kt k6
      generalize upd H5 wl (.lst zs.dropLast) = H6 at *
      obtain ⟨ba, vw, vp, rfl, hba, hvw, hvp⟩ := hB6
      refine ⟨ba, _, rfl, SqT.of hba, rfl, _, _, rfl, _, _, rfl, rfl, ?_⟩
      obtain ⟨pa, rfl, hpa⟩ := id hvp
      have hC6 := hC.same s06
      obtain ⟨ca, CC, dx, fds, va, cg, rfl, h2, h3, h4, h5, h6, h7, h8, h9, h10, h11⟩ := id hC6
      refine ⟨_, rfl, _, rfl, pa, _, -1, .int (z : Int), rfl, rfl, SqT.of hpa, at_neg (iVs_last hz), _, rfl, ca, CC, dx, fds, _, rfl, h2, h3, h6, h10, cg, iVs [g], rfl, .inr (SqT.of h11), rfl, rfl, _, rfl, ?_⟩
      have e2 : (if false = true then !inV (V.int (z : Int)) (iVs [g]) else inV (V.int (z : Int)) (iVs [g])) = decide (z = g) := by
        rw [if_neg Bool.false_ne_true, inV_iff, List.contains_cons]
        by_cases e : z = g <;> simp [e]
      rw [e2]
      have hP1 : (FW ++ (ws'.flatMap (compF es g n) ++ compF es g n x)).Perm (allWays es g n) := by
        rw [List.flatMap_append] at hP
        simpa using hP
      have hm1 : m = (ws'.map (cntF es g n)).sum + cntF es g n x := by
        rw [hm, List.map_append, List.sum_append]
        simp
      have hce := compF_eq (es := es) (g := g) N
      have hne := cntF_eq (es := es) (g := g) N
      by_cases ezg : z = g
      · rw [decide_eq_true ezg]
        rw [if_pos (by rw [hz, ezg])] at hce hne
        refine iteT ?_
        -- found.append(way)
        refine ⟨_, rfl, .inl ⟨rfl, _, SqL.of hf6⟩, _, rfl, fl, _, _, rfl, rfl, hf6, line_lt (by rw [hF6.len]; omega), ?_⟩
        have k7 : Kt H6 (upd H6 fl (.lst (fs ++ [vw]))) := Kt.lst hf6
        have s07 : Same H (upd H6 fl (.lst (fs ++ [vw]))) := s06.mut hfl
        have hf7 : (upd H6 fl (.lst (fs ++ [vw]))) fl = some (.lst (fs ++ [vw])) := upd_same
        have hw7 : (upd H6 fl (.lst (fs ++ [vw]))) wl = some (.lst zs.dropLast) := by rw [upd_ne (fun q => nfw q.symm)]; exact hw6
        have hF7 : TNs _ (fs ++ [vw]) (FW ++ [x.1]) := (hF6.kt k7).snoc (hvw.kt k7)
        have hZ7 := hZ6.kt k7
        generalize upd H6 fl (.lst (fs ++ [vw])) = H7 at *
        refine ⟨_, rfl, fl, _, rfl, .inl (SqL.of hf7), _, rfl, _, _, rfl, rfl, _, rfl, ?_⟩
        have hlen7 : (fs ++ [vw]).length = FW.length + 1 := by rw [hF7.len, List.length_append]; rfl
        rw [hlen7]
        rw [hce] at hP1
        by_cases h12 : FW.length + 1 ≤ 12
        · rw [decide_eq_false (by omega)]
          refine iteF ⟨_, ?_, _, _, _, _, FW ++ [x.1], ws', rfl, s07, hf7, hF7, hw7, hZ7, hG2', ?_, ?_, rfl, ?_⟩
          · omega
          · refine List.Perm.trans ?_ hP1
            rw [List.append_assoc]
            exact List.Perm.append_left _ List.perm_append_comm
          · rw [List.length_append]
            exact h12
          · omega
        · rw [decide_eq_true (by omega)]
          refine iteT ⟨_, rfl, _, rfl, fun d hd => qE ?_ _ d s07 (s07.free hd)⟩
          have := hP1.length_eq
          rw [List.length_append, List.length_append] at this
          have e1 : ([x.1] : List (List Nat)).length = 1 := rfl
          omega
      · rw [decide_eq_false ezg]
        rw [if_neg (by rw [hz]; exact fun q => ezg (Option.some.inj q))] at hce hne
        refine iteF ?_
        refine ⟨_, rfl, _, rfl, _, _, es, n, g, x, rfl, hC6, hvp, N, G, hn40, by omega, fun H7 b s7 hb => ⟨_, rfl, ?_⟩⟩
        have s07 := s06.trans s7
        have hf7 := s7 _ _ hf6
        have hw7 := s7 _ _ hw6
        cases b with
        | false =>
          have hc0 := hb rfl
          refine iteF ⟨_, ?_, _, _, _, _, FW, ws', rfl, s07, hf7, hF6.kt (Kt.same s7), hw7, hZ6.kt (Kt.same s7), hG2', ?_, hF12, rfl, ?_⟩
          · have := cntF_pos es g n x
            omega
          · rw [hc0, List.append_nil] at hP1
            exact hP1
          · omega
        | true =>
          refine iteT ?_
          refine ⟨_, rfl, .inl ⟨rfl, _, SqL.of hw7⟩, _, rfl, _, rfl, _, rfl, _, _, _, es, n, g, x, rfl, hC6.same s7, hvw.kt (Kt.same s7), hvp.kt (Kt.same s7), N, by omega, hn40, by omega, fun H8 v8 hN8 => ?_⟩
          obtain ⟨kl, ks, rfl, s8, hkl0, hkl, hK⟩ := hN8
          have hw8 := s8 _ _ hw7
          have hf8 := s8 _ _ hf7
          have hG3 : Good2 n (ws' ++ (kidsF es x.2).map (kidX es x)) := fun y hy => by
            rcases List.mem_append.mp hy with h | h
            · exact hG2' y h
            · exact Good2.kids N hxl G y h
          have hsum : ((ws' ++ (kidsF es x.2).map (kidX es x)).map (cntF es g n)).sum + 1 = m := by
            rw [List.map_append, List.sum_append, kids_sum, hm1, hne]
            omega
          have hle := cnt_le (es := es) (g := g) (n := n) (ws' ++ (kidsF es x.2).map (kidX es x))
          rw [List.length_append] at hle
          refine ⟨wl, kl, zs.dropLast, ks, rfl, rfl, hw8, hkl, line_le (by rw [hZ6.len, hK.len]; omega), ?_⟩
          have k9 : Kt H8 (upd H8 wl (.lst (zs.dropLast ++ ks))) := Kt.lst hw8
          refine ⟨_, ?_, _, _, fs, zs.dropLast ++ ks, FW, ws' ++ (kidsF es x.2).map (kidX es x), rfl, (s07.trans s8).mut hwl0, ?_, ((hF6.kt (Kt.same s7)).kt (Kt.same s8)).kt k9, upd_same, ?_, hG3, ?_, hF12, rfl, ?_⟩
          · omega
          · rw [upd_ne nfw]
            exact hf8
          · exact BNs.kt k9 (((hZ6.kt (Kt.same s7)).kt (Kt.same s8)).app hK)
          · rw [List.flatMap_append, kids_flat, ← hce]
            exact hP1
          · omega
end
end Ut
/-! is_way, met_by, ways_enough. -/
namespace Ut
open PySem PySem.Spec PyProof.Rows L2
section
variable {P : Program} {w : World} {K : PySem.W.Frag} {mg : Str → Option Value} {base : Heap}
def sp_is_way (K : PySem.W.Frag) : Sp := fun vs H Q _ => ∃ (v t : V) (es : Arr) (n g : Nat) (way : List Nat), vs = [v, t] ∧ Chart K H v es n g ∧ TN H t way ∧ Good n es ∧ 0 < n ∧ n ≤ 40 ∧ way ≠ [] ∧ way ∈ allWays es g n ∧ ∀ H', Same H H' → Q (.bl true) H'
theorem cd_is_way (T : Tx K mg) : Cd P w K mg base CX0 "is_way" 1 ["chart", "thing"] (sp_is_way K) := by
  refine Cd.of T.d_is_way (fun _ _ _ _ _ _ us hl => match us, hl with | [_, _], _ => rfl) fun f fd F => ?_
  refine F.ok sc_is_way (fun vs H Q E h => ?_) (fun cdv A outer s H vs Q E hr h => ?_)
  · obtain ⟨v, t, es, n, g, way, rfl, _⟩ := h
    rfl
  · obtain ⟨v, t, es, n, g, way, rfl, hC, ⟨tw, rfl, ht⟩, G, hn0, hn40, hne, hw, q⟩ := h
    obtain ⟨ps, hrun, hlast⟩ := (mem_all G hn0).mp hw
    obtain ⟨a, C, dx, fs, va, c, rfl, ha, hcl, nm, na, ng, lm, la, ⟨ar, xs, rfl, har, hX⟩, lg, hc⟩ := hC
    refine ⟨_, (pss_cons (ps_if (PW.pt (pw_or (pt_not (pt_val (pe_callB (id := "isinstance") call_isi (by rfl) T.b_isinstance (by decide +kernel) (pa_cons (pv 1) (pa_cons (pe_bltn (v := .ty "tuple") (by rfl) T.b_tuple (by decide +kernel) rfl) pa_nil))))) (pw_or1 (pt_cmpR op_eq (pe_callB (id := "len") call_lenU (by rfl) T.b_len (by decide +kernel) (pa_cons (pv 1) pa_nil)) pe_int (nomark _))))) (pss_one (ps_ret pe_bl)) pss_nil)
      (pss_cons (ps_set (i := 2) sc_is_way.nd rfl (by first | exact Or.inl rfl | exact Or.inr rfl) (pe_lst (pa_cons pe_int pa_nil)))
      (pss_cons (ps_for PassesOwn.never rfl (pi_tup (pv 1)) (pg_name (i := 3) sc_is_way.nd rfl (by first | exact Or.inl rfl | exact Or.inr rfl))
      (pss_cons (ps_if (PW.pt (pw_or (pt_val (pe_callB (id := "isinstance") call_isi (by rfl) T.b_isinstance (by decide +kernel) (pa_cons (pv 3) (pa_cons (pe_bltn (v := .ty "bool") (by rfl) T.b_bool (by decide +kernel) rfl) pa_nil)))) (pw_or (pt_not (pt_val (pe_callB (id := "isinstance") call_isi (by rfl) T.b_isinstance (by decide +kernel) (pa_cons (pv 3) (pa_cons (pe_bltn (v := .ty "int") (by rfl) T.b_int (by decide +kernel) rfl) pa_nil))))) (pw_or1 (pt_not (pt_chain op_le op_lt pe_int (pv 3) (pe_callB (id := "len") call_lenU (by rfl) T.b_len (by decide +kernel) (pa_cons (pe_fld (pv 0) rfl) pa_nil)))))))) (pss_one (ps_ret pe_bl)) pss_nil)
      (pss_cons (ps_asg (pe_ix ix_tup (pe_fld (pv 0) rfl) (pv 3) (fun _ _ => rfl)) (pg_tup (by rfl) (pgs_cons (pg_name (i := 4) sc_is_way.nd rfl (by first | exact Or.inl rfl | exact Or.inr rfl)) (pgs_cons (pg_name (i := 5) sc_is_way.nd rfl (by first | exact Or.inl rfl | exact Or.inr rfl)) pgs_nil))))
      (pss_cons (ps_if (PW.pt (pw_or (pt_cmpR op_ne (pv 4) (pe_ix ix_list (pv 2) (pe_un un_neg pe_int) (fun _ _ => rfl)) (nomark _)) (pw_or1 (pt_cmpR op_in_seq (pv 5) (pv 2) rfl)))) (pss_one (ps_ret pe_bl)) pss_nil)
      (pss_one (ps_expr (pe_bm PySem.F.plainAttrs_list PySem.F.slot_list_append PySem.F.type_list_append mt_append (pv 2) (pa_cons (pv 5) pa_nil))))))))
      (pss_one (ps_ret (pe_cmpR op_in_seq (pe_ix ix_list (pv 2) (pe_un un_neg pe_int) (fun _ _ => rfl)) (pe_fld (pv 0) rfl) rfl)))))), ?_⟩
    refine ⟨_, rfl, _, _, _, _, true, rfl, .ty "tuple", .base (.tup ht), kit_ty (by decide +kernel), _, rfl, iteF ?_⟩
    refine ⟨_, rfl, tw, _, rfl, .inr (SqT.of ht), rfl, _, rfl, ?_⟩
    rw [len0, show (way.length == 0) = false from by cases way with | nil => exact absurd rfl hne | cons _ _ => rfl]
    refine iteF ?_
    refine ⟨line_le (by show 1 ≤ _; omega), fun pl hpl => ?_⟩
    have s1 : Same H (upd H pl (.lst [.int 0])) := Same.new hpl
    refine ⟨_, rfl, tw, rfl, ⟨_, SqT.of (s1 _ _ ht)⟩, for_tup (K := K) (a := tw) (xs := iVs way) (fun i σ H2 => ∃ (y3 y4 y5 : Option V) (qs : List Nat), σ = [some (.ref a), some (.ref tw), some (.ref pl), y3, y4, y5] ∧ Same H H2 ∧ H2 pl = some (.lst (iVs qs)) ∧ Node n qs ∧ runW es (way.drop i) qs = some ps)
      ⟨none, none, none, [0], rfl, s1, upd_same, node0 hn0, hrun⟩ (fun i σ H2 _ ⟨_, _, _, _, _, s2, _⟩ => SqT.of (s2 _ _ ht)) ?_ ?_⟩
    · rintro i x σ H2 hi ⟨y3, y4, y5, qs, rfl, s2, hp2, N, hr2⟩
      rw [iVs_get] at hi
      obtain ⟨k, hk, rfl⟩ := Option.map_eq_some_iff.mp hi
      obtain ⟨hil, ek⟩ := List.getElem?_eq_some_iff.mp hk
      rw [List.drop_eq_getElem_cons hil, ek] at hr2
      have hcond : (k < es.length ∧ okK es qs k = true) ∧ runW es (way.drop (i + 1)) (qs ++ [hd es k]) = some ps := by
        by_cases hc : k < es.length ∧ okK es qs k = true
        · refine ⟨hc, ?_⟩
          have : (if k < es.length ∧ okK es qs k = true then runW es (way.drop (i + 1)) (qs ++ [hd es k]) else none) = some ps := hr2
          rwa [if_pos hc] at this
        · have : (if k < es.length ∧ okK es qs k = true then runW es (way.drop (i + 1)) (qs ++ [hd es k]) else none) = some ps := hr2
          rw [if_neg hc] at this
          cases this
      obtain ⟨⟨hkl, hok⟩, hr3⟩ := hcond
      obtain ⟨hz, hnin⟩ := okK_iff.mp hok
      have har2 := s2 _ _ har
      refine ⟨_, rfl, _, _, _, _, false, rfl, .ty "bool", kitInt, kit_ty (by decide +kernel), _, rfl, iteF ?_⟩
      refine ⟨_, rfl, _, _, _, _, true, rfl, .ty "int", kitInt, kit_ty (by decide +kernel), _, rfl, iteF ?_⟩
      refine ⟨_, rfl, 0, (k : Int), rfl, rfl, _, rfl, ?_⟩
      rw [decide_eq_true (by omega : (0 : Int) ≤ (k : Int))]
      refine iteT ?_
      refine ⟨_, rfl, a, C, dx, fs, _, rfl, s2 _ _ ha, hcl, na, la, ar, xs, rfl, .inr (SqT.of har2), _, _, rfl, rfl, _, rfl, ?_⟩
      rw [decide_eq_true (by rw [hX.len]; omega : (k : Int) < (xs.length : Int))]
      refine iteF ?_
      obtain ⟨b, hb, b', rfl, hbt⟩ := (hX.kt (Kt.same s2)).get' (es_get hkl)
      refine ⟨_, rfl, a, C, dx, fs, _, rfl, s2 _ _ ha, hcl, na, la, _, rfl, ar, xs, (k : Int), .ref b', rfl, rfl, SqT.of har2, atI_nat hb, b', _, rfl, SqT.of hbt, rfl, _, _, rfl, _, _, rfl, rfl, ?_⟩
      refine ⟨_, rfl, _, rfl, _, rfl, pl, _, -1, .int (tl es k : Int), rfl, rfl, SqL.of hp2, at_neg (iVs_last hz), rfl, _, rfl, ?_⟩
      rw [decide_eq_true rfl]
      refine iteF ?_
      refine ⟨_, rfl, _, rfl, pl, iVs qs, rfl, .inl (SqL.of hp2), rfl, iVs_flat _, _, rfl, ?_⟩
      have e2 : (if false = true then !inV (V.int (hd es k : Int)) (iVs qs) else inV (V.int (hd es k : Int)) (iVs qs)) = false := by
        rw [if_neg Bool.false_ne_true, inV_iff]
        simpa using hnin
      rw [e2]
      refine iteF ?_
      have hql := N.len
      refine ⟨_, rfl, .inl ⟨rfl, _, SqL.of hp2⟩, _, rfl, pl, _, _, rfl, rfl, hp2, line_lt (by rw [iVs_len]; omega), ?_⟩
      have eus : iVs qs ++ [V.int (hd es k : Int)] = iVs (qs ++ [hd es k]) := by rw [iVs_app]; rfl
      rw [eus]
      exact ⟨_, _, _, _, rfl, s2.mut hpl, upd_same, N.kid G (mem_kids.mpr ⟨hkl, hz, hnin⟩), hr3⟩
    · rintro σ H2 ⟨y3, y4, y5, qs, rfl, s2, hp2, N, hr2⟩
      rw [iVs_len, List.drop_length] at hr2
      have : qs = ps := Option.some.inj hr2
      subst this
      refine ⟨_, rfl, _, rfl, pl, _, -1, .int (g : Int), rfl, rfl, SqL.of hp2, at_neg (iVs_last hlast), _, rfl, a, C, dx, fs, _, rfl, s2 _ _ ha, hcl, ng, lg, c, iVs [g], rfl, .inr (SqT.of (s2 _ _ hc)), rfl, rfl, ?_⟩
      have e2 : (if false = true then !inV (V.int (g : Int)) (iVs [g]) else inV (V.int (g : Int)) (iVs [g])) = true := by
        rw [if_neg Bool.false_ne_true, inV_iff]
        simp
      rw [e2]
      exact q _ s2
/-- how long ways are -/
theorem way_len {n : Nat} {es : Arr} {g : Nat} (G : Good n es) (hn : 0 < n) {w : List Nat} (h : w ∈ allWays es g n) : w.length ≤ es.length := by
  have := nodup_len (way_nodup G hn h) (l' := List.range es.length) fun x hx => List.mem_range.mpr (way_lt G hn h x hx)
  simpa using this
def sp_met_by (K : PySem.W.Frag) : Sp := fun vs H Q _ => ∃ (v : V) (l : Addr) (xs : List V) (W : List (List Nat)) (es : Arr) (n g most : Nat), vs = [v, .ref l, .int (most : Int)] ∧ Chart K H v es n g ∧ H l = some (.lst xs) ∧ TNs H xs W ∧ Good n es ∧ 0 < n ∧ n ≤ 40 ∧ es.length ≤ 16 ∧ g ≠ 0 ∧
  (∀ w ∈ W, w ∈ allWays es g n) ∧ W.length ≤ 1000 ∧ most ≤ 4 ∧ ∀ H' v', Same H H' → OptTN H' v' (meetF (List.range es.length) W most) → Q v' H'
theorem cd_met_by (T : Tx K mg) : Cd P w K mg base CX0 "met_by" 4 ["chart", "lot", "most"] (sp_met_by K) := by
  have G_check_one_goal : Cd P w K mg base CX0 "check_one_goal" 1 ["chart"] (sp_check_one_goal K) := cd_check_one_goal T
  have G_is_way : Cd P w K mg base CX0 "is_way" 1 ["chart", "thing"] (sp_is_way K) := cd_is_way T
  have G_check_number : Cd P w K mg base CX0 "check_number" 3 ["thing", "least", "most"] sp_check_number := cd_check_number T
  have G_meeting : Cd P w K mg base CX0 "meeting" 2 ["lot", "most"] sp_meeting := cd_meeting T
  refine Cd.of T.d_met_by (fun _ _ _ _ _ _ us hl => match us, hl with | [_, _, _], _ => rfl) fun f fd F => ?_
  refine F.ok sc_met_by (fun vs H Q E h => ?_) (fun cdv A outer s H vs Q E hr h => ?_)
  · obtain ⟨v, l, xs, W, es, n, g, most, rfl, _⟩ := h
    rfl
  · obtain ⟨v, l, xs, W, es, n, g, most, rfl, hC, hl, hX, G, hn0, hn40, hes, hg0, hW, hWl, hmost, q⟩ := h
    refine ⟨_, (pss_cons (ps_expr (pe_callD G_check_one_goal (hr.mono (by decide)) pass0 (pa_cons (pv 0) pa_nil)))
      (pss_cons (ps_if (PW.pt (pw_or (pt_not (pt_val (pe_callB (id := "isinstance") call_isi (by rfl) T.b_isinstance (by decide +kernel) (pa_cons (pv 1) (pa_cons (pe_bltn (v := .ty "list") (by rfl) T.b_list (by decide +kernel) rfl) pa_nil))))) (pw_or1 (pt_not (pt_val (pe_callB (id := "all") (cr_all (by rfl)) (by rfl) T.b_all (by decide +kernel) (pa_cons (pe_lc (own := [("way", 3)]) (g := (gName 3)) (tt := tYes) (te := (tCall (sp_is_way K) [] E0 (tCons (tVar 0) (tCons (tVar 3) tNil)))) (by rfl) sc_met_by.nd (pi_list (pv 1)) (blkOk_by (own := [("way", 3)]) (N := ["chart", "lot", "most", "way"]) (sc := defScope s_met_by) (by decide +kernel)) (fun _ _ _ _ _ => (pg_name (i := 3) sc_met_by.nd rfl (by first | exact Or.inl rfl | exact Or.inr rfl))) (fun _ _ _ _ _ => pts_nil) (fun _ _ _ _ _ => (pe_callD G_is_way (hr.mono (by decide)) pass0 (pa_cons (pv 0) (pa_cons (pv 3) pa_nil))))) pa_nil))))))) (pss_one ps_never) pss_nil)
      (pss_cons (ps_expr (pe_callD G_check_number (hr.mono (by decide)) pass0 (pa_cons (pv 2) (pa_cons pe_int (pa_cons pe_int pa_nil)))))
      (pss_one (ps_ret (pe_callD G_meeting (hr.mono (by decide)) pass0 (pa_cons (pv 1) (pa_cons (pv 2) pa_nil)))))))), ?_⟩
    refine ⟨_, rfl, v, es, n, g, rfl, hC, ?_⟩
    refine ⟨_, rfl, _, _, _, _, true, rfl, .ty "list", .base (.lst hl), kit_ty (by decide +kernel), _, rfl, iteF ?_⟩
    refine ⟨_, rfl, l, rfl, ⟨xs, SqL.of hl⟩, fun D hD => lcL (R := BV) BV.kt (outM W fun way => true) hD (SqL.of hl) (outM_0 _ _) (fun i => Nat.lt_of_le_of_lt (outM_len _ _ _) (by omega)) ?_ ?_⟩
    · intro u x H7 N hu7 s7 Nx
      obtain ⟨way, hway, hx⟩ := (hX.kt (Kt.same s7)).get hu7
      have hwm := hW way (List.mem_of_getElem? hway)
      refine ⟨rfl, yesGo ?_⟩
      refine ⟨_, rfl, _, rfl, _, _, es, n, g, way, rfl, hC.same s7, hx, G, hn0, hn40, way_ne G hn0 hg0 hwm, hwm, fun H8 s8 => ?_⟩
      exact Nx.yes H8 _ _ s8 rfl (outM_1 hway)
    · intro H7 bs s7 hD7 r7
      have e7 := bv_map r7
      rw [hX.len, outM_all (Nat.le_refl _)] at e7
      refine ⟨D, W.map (fun _ => true), rfl, SqL.of (by rw [hD7, e7]), _, rfl, ?_⟩
      have e8 : (W.map fun _ => true).all id = true := by
        rw [List.all_map]
        simp
      rw [e8]
      refine iteF ?_
      refine ⟨_, rfl, (most : Int), 0, 4, rfl, by omega, by omega, fun H8 s8 => ?_⟩
      have s78 := s7.trans s8
      refine ⟨_, rfl, _, rfl, l, xs, W, es.length, most, rfl, s78 _ _ hl, hX.kt (Kt.same s78), fun w hw => way_lt G hn0 (hW w hw), fun w hw => Nat.le_trans (way_len G hn0 (hW w hw)) (by omega), by omega, by omega, by omega, fun H9 v9 s9 h9 => ?_⟩
      rw [meet_used] at h9
      exact q H9 v9 (s78.trans s9) h9
end
end Ut
/-! ways_enough. -/
namespace Ut
open PySem PySem.Spec PyProof.Rows L2
theorem rg_nat (n : Nat) : rgV 0 (n : Int) = iVs (List.range n) := by
  unfold rgV iVs
  rw [show ((n : Int) - 0).toNat = n by omega]
  apply List.map_congr_left
  intro i _
  rw [Int.zero_add]
/-- None, or a new list of these ways -/
def OptLN (H H' : Hp) (v : V) : Option (List (List Nat)) → Prop
  | none => v = .non
  | some L => NewLN H H' v L
section
variable {P : Program} {w : World} {K : PySem.W.Frag} {mg : Str → Option Value} {base : Heap}
def sp_ways_enough (K : PySem.W.Frag) (C : Addr) : Sp := fun vs H Q E => ∃ (v : V) (es : Arr) (n g most : Nat), vs = [v, .int (most : Int)] ∧ Chart K H v es n g ∧ Good n es ∧ 0 < n ∧ n ≤ 40 ∧ es.length ≤ 16 ∧ g ≠ 0 ∧ most ≤ 4 ∧
  ((allWays es g n).length ≤ 12 → ∀ H' v', Same H H' → OptLN H H' v' (enoughF es.length (sortW (allWays es g n)) most) → Q v' H') ∧
  (12 < (allWays es g n).length → ∀ H' d, Same H H' → H d = none → E (.ref C) (some d) (upd H' d (TmD (.int 12))))
theorem cd_ways_enough {C fI : Addr} (T : Tx K mg) (TM : TmTxt P K mg C fI) : Cd P w K mg base (L2.CX P w) "ways_enough" 6 ["chart", "most"] (sp_ways_enough K C) := by
  have G_check_one_goal : Cd P w K mg base CX0 "check_one_goal" 1 ["chart"] (sp_check_one_goal K) := cd_check_one_goal T
  have G_check_number : Cd P w K mg base CX0 "check_number" 3 ["thing", "least", "most"] sp_check_number := cd_check_number T
  have G_meeting : Cd P w K mg base CX0 "meeting" 2 ["lot", "most"] sp_meeting := cd_meeting T
  have G_chosen : Cd P w K mg base CX0 "chosen" 1 ["lot", "many"] sp_chosen := cd_chosen T
  have G_ways_of : Cd P w K mg base (L2.CX P w) "ways_of" 5 ["chart", "most"] (sp_ways_of K C) := cd_ways_of T TM
  obtain ⟨t1, k_MOST_GONE⟩ := T.c_MOST_GONE
  refine Cd.of T.d_ways_enough (fun _ _ _ _ _ _ us hl => match us, hl with | [_, _], _ => rfl) fun f fd F => ?_
  refine F.okX sc_ways_enough (fun vs H Q E h => ?_) (fun cdv A outer s H vs Q E hr h => ?_)
  · obtain ⟨v, es, n, g, most, rfl, _⟩ := h
    rfl
  · obtain ⟨v, es, n, g, most, rfl, hC, G, hn0, hn40, hes, hg0, hmost, q, qE⟩ := h
    refine ⟨_, (pss_cons (ps_expr (pe_callD G_check_one_goal (hr.mono (by decide)) pass0 (pa_cons (pv 0) pa_nil)))
      (pss_cons (ps_expr (pe_callD G_check_number (hr.mono (by decide)) pass0 (pa_cons (pv 1) (pa_cons pe_int (pa_cons pe_int pa_nil)))))
      (pss_cons (ps_set (i := 2) sc_ways_enough.nd rfl (by first | exact Or.inl rfl | exact Or.inr rfl) (pe_callD G_ways_of (hr.mono (by decide)) (passes_call (takes_of rfl rfl rfl rfl) (fun _ _ _ _ h => h)) (pa_cons (pv 0) (pa_cons (pe_glob (v := .int 12) (by rfl) k_MOST_GONE ⟨_, rfl⟩) pa_nil))))
      (pss_cons (ps_if (pt_cmpR op_notN (pe_callD G_meeting (hr.mono (by decide)) pass0 (pa_cons (pv 2) (pa_cons (pv 1) pa_nil))) pe_non (nomark _)) (pss_one (ps_ret pe_non)) pss_nil)
      (pss_cons (ps_for (passes_of rfl) rfl (pi_range2 (by rfl) T.b_range (pa_cons pe_int (pa_cons (pe_op op_add (pe_callB (id := "len") call_lenU (by rfl) T.b_len (by decide +kernel) (pa_cons (pv 2) pa_nil)) pe_int) pa_nil))) (pg_name (i := 3) sc_ways_enough.nd rfl (by first | exact Or.inl rfl | exact Or.inr rfl))
      (pss_one (ps_for (passes_of rfl) rfl (pi_list (pe_callD G_chosen (hr.mono (by decide)) pass0 (pa_cons (pe_tupRg (by rfl) (by rfl) T.b_tuple (prg_1 (by rfl) T.b_range (pe_callB (id := "len") call_lenU (by rfl) T.b_len (by decide +kernel) (pa_cons (pv 2) pa_nil)))) (pa_cons (pv 3) pa_nil)))) (pg_name (i := 4) sc_ways_enough.nd rfl (by first | exact Or.inl rfl | exact Or.inr rfl))
      (pss_cons (ps_setLc (i := 5) (own := [("number", 6)]) (g := (gName 6)) (tt := tYes) (te := (tOp (rIxL K) (tVar 2) (tVar 6))) (by rfl) sc_ways_enough.nd rfl rfl (sw_true rfl rfl rfl (by decide +kernel)) (pi_tup (pv 4)) (blkOk_by (own := [("number", 6)]) (N := ["chart", "most", "every", "size", "numbers", "lot", "number"]) (sc := defScope s_ways_enough) (by decide +kernel)) (fun _ _ _ _ _ => (pg_name (i := 6) sc_ways_enough.nd rfl (by first | exact Or.inl rfl | exact Or.inr rfl))) (fun _ _ _ _ _ => pts_nil) (fun _ _ _ _ _ => (pe_ix ix_list (pv 2) (pv 6) (fun _ _ => rfl))))
      (pss_one (ps_if (pt_cmpR op_isN (pe_callD G_meeting (hr.mono (by decide)) pass0 (pa_cons (pv 5) (pa_cons (pv 1) pa_nil))) pe_non (nomark _)) (pss_one (ps_ret (pv 5))) pss_nil))))))
      (pss_one (ps_ret pe_non))))))), ?_⟩
    refine ⟨_, rfl, v, es, n, g, rfl, hC, ?_⟩
    refine ⟨_, rfl, (most : Int), 0, 4, rfl, by omega, by omega, fun H1 s1 => ?_⟩
    refine ⟨_, rfl, v, es, n, g, rfl, hC.same s1, G, hn0, hn40, hes, hg0, fun h12 H2 v2 hN2 => ?_, fun h12 H2 d s2 hd => qE h12 H2 d (s1.trans s2) (s1.free hd)⟩
    obtain ⟨el, rfl, s2, hel0, xs, hel, hX⟩ := hN2
    have q := q h12
    have s02 := s1.trans s2
    have hmem : ∀ w ∈ sortW (allWays es g n), w ∈ allWays es g n := fun w hw => (sortW_perm _).mem_iff.mp hw
    have hlen : (sortW (allWays es g n)).length ≤ 12 := by rw [(sortW_perm _).length_eq]; exact h12
    generalize hW : sortW (allWays es g n) = W at *
    have hlt : ∀ w ∈ W, ∀ k ∈ w, k < es.length := fun w hw => way_lt G hn0 (hmem w hw)
    have hwl : ∀ w ∈ W, w.length ≤ 1000 := fun w hw => Nat.le_trans (way_len G hn0 (hmem w hw)) (by omega)
    have hXl := hX.len
    refine ⟨_, rfl, _, rfl, el, xs, W, es.length, most, rfl, hel, hX, hlt, hwl, by omega, by omega, by omega, fun H3 v3 s3 h3 => ?_⟩
    have s03 := s02.trans s3
    cases hm : meetF (usedOf es.length W) W most with
    | some lot =>
      rw [hm] at h3
      obtain ⟨b, rfl, hb⟩ := h3
      refine ⟨rfl, _, rfl, iteT (q H3 .non s03 ?_)⟩
      unfold enoughF
      rw [hm]
      rfl
    | none =>
      rw [hm] at h3
      obtain rfl : v3 = .non := h3
      have eE : enoughF es.length W most = ((triesF W).find? (unmet es.length most W)).map (lotW W) := by
        unfold enoughF
        rw [hm]
        rfl
      rw [eE] at q
      refine ⟨rfl, _, rfl, iteF ?_⟩
      have hel3 := s3 _ _ hel
      have hX3 := hX.kt (Kt.same s3)
      refine ⟨_, rfl, el, xs, rfl, .inl (SqL.of hel3), _, _, rfl, rfl, 1, ((xs.length : Nat) : Int) + 1, rfl, ⟨by omega, by omega, by omega, by omega⟩, ?_⟩
      have en : (((xs.length : Nat) : Int) + 1 - 1).toNat = W.length := by omega
      rw [en]
      refine for_range (lo := 1) (n := W.length) (fun i σ H4 => ∃ (y3 y4 y5 : Option V), σ = [some v, some (.int (most : Int)), some (.ref el), y3, y4, y5, none] ∧ Same H3 H4 ∧
          (((List.range W.length).take i).flatMap fun s => chosenF (List.range W.length) (s + 1)).find? (unmet es.length most W) = none)
        ⟨none, none, none, rfl, Same.refl _, by simp⟩ ?_ ?_
      · rintro i σ H4 hi ⟨y3, y4, y5, rfl, s4, hnone⟩
        have hir : (List.range W.length)[i]? = some i := List.getElem?_range hi
        have hel4 := s4 _ _ hel3
        refine ⟨_, rfl, el, xs, rfl, .inl (SqL.of hel4), _, rfl, ⟨by omega, by omega, by omega, by omega, by omega⟩, fun nt hnt => ?_⟩
        rw [hXl, rg_nat]
        have s5 : Same H4 (upd H4 nt (.tup (iVs (List.range W.length)))) := Same.new hnt
        have hnt5 : (upd H4 nt (.tup (iVs (List.range W.length)))) nt = some (.tup (iVs (List.range W.length))) := upd_same
        generalize upd H4 nt (.tup (iVs (List.range W.length))) = H5 at *
        refine ⟨_, rfl, nt, List.range W.length, i + 1, ?_, hnt5, asc_range _, by rw [List.length_range]; omega, by omega, ?_⟩
        · rw [show ((1 : Int) + (i : Int)) = ((i + 1 : Nat) : Int) by omega]
          rfl
        rintro H6 v6 ⟨cl, rfl, s6, hcl0, zs, hcl, hZ⟩
        have s36 : Same H3 H6 := (s4.trans s5).trans s6
        refine ⟨cl, rfl, ⟨zs, SqL.of hcl⟩, for_list (K := K) (a := cl) (xs := zs) (fun j σ H7 => ∃ (y4 y5 : Option V), σ = [some v, some (.int (most : Int)), some (.ref el), some (.int (1 + (i : Int))), y4, y5, none] ∧ Same H6 H7 ∧
            ((chosenF (List.range W.length) (i + 1)).take j).find? (unmet es.length most W) = none)
          ⟨y4, y5, rfl, Same.refl _, by simp⟩ (fun j σ H7 _ ⟨_, _, _, s7, _⟩ => SqL.of (s7 _ _ hcl)) ?_ ?_⟩
        · rintro j x σ H7 hj ⟨y4, y5, rfl, s7, hnone7⟩
          obtain ⟨ns, hns, b, rfl, hb⟩ := (hZ.kt (Kt.same s7)).get hj
          obtain ⟨nA, nl, nin⟩ := mem_chosen.mp (List.mem_of_getElem? hns)
          have s37 := s36.trans s7
          have hel7 := s37 _ _ hel3
          have hX7 := hX3.kt (Kt.same s37)
          have hnlt : ∀ z ∈ ns, z < W.length := fun z hz => List.mem_range.mp (nin z hz)
          -- lot = [every[number] for number in numbers]
          refine ⟨_, rfl, b, rfl, ⟨_, SqT.of hb⟩, fun D hD => lcT (R := TN) TN.kt' (outM ns fun z => W.getD z []) hD hb (outM_0 _ _) (fun i => Nat.lt_of_le_of_lt (outM_len _ _ _) (by omega)) ?_ ?_⟩
          · intro u y H8 N hu8 s8 Nx
            rw [iVs_get] at hu8
            obtain ⟨z, hz, rfl⟩ := Option.map_eq_some_iff.mp hu8
            have hzl := hnlt z (List.mem_of_getElem? hz)
            obtain ⟨vz, hvz, hT⟩ := (hX7.kt (Kt.same s8)).get' (List.getElem?_eq_getElem hzl)
            refine ⟨rfl, yesGo ?_⟩
            refine ⟨_, rfl, _, rfl, el, xs, (z : Int), vz, rfl, rfl, SqL.of (s8 _ _ hel7), atI_nat hvz, ?_⟩
            refine Nx.yes H8 _ _ (Same.refl _) ?_ (outM_1 hz)
            rw [List.getD_eq_getElem?_getD, List.getElem?_eq_getElem hzl]
            exact hT
          · intro H8 ys s8 hD8 r8
            rw [iVs_len, outM_all (Nat.le_refl _)] at r8
            have r8 : TNs H8 ys (lotW W ns) := r8
            have hsub := lotW_mem hnlt
            have s38 := s37.trans s8
            have hll : (lotW W ns).length ≤ 1000000 := by rw [lotW_len]; omega
            refine ⟨_, rfl, _, rfl, D, ys, lotW W ns, es.length, most, rfl, hD8, r8, fun w hw => hlt w (hsub w hw), fun w hw => hwl w (hsub w hw), hll, by omega, by omega, fun H9 v9 s9 h9 => ?_⟩
            cases hm9 : meetF (usedOf es.length (lotW W ns)) (lotW W ns) most with
            | some lot =>
              rw [hm9] at h9
              obtain ⟨b9, rfl, hb9⟩ := h9
              refine ⟨rfl, _, rfl, iteF ⟨_, _, rfl, (s7.trans s8).trans s9, find_none hnone7 hns ?_⟩⟩
              unfold unmet
              rw [hm9]
              rfl
            | none =>
              rw [hm9] at h9
              obtain rfl : v9 = .non := h9
              refine ⟨rfl, _, rfl, iteT ⟨_, rfl, q H9 _ ((s03.trans s38).trans s9) ?_⟩⟩
              have hu : unmet es.length most W ns = true := by
                unfold unmet
                rw [hm9]
                rfl
              have e : (triesF W).find? (unmet es.length most W) = some ns := flat_some hnone hir (find_some hnone7 hns hu)
              rw [e]
              exact ⟨D, rfl, (s03.trans s38).trans s9, (s03.trans s37).free hD, ys, s9 _ _ hD8, r8.kt (Kt.same s9)⟩
        · rintro σ H7 ⟨y4, y5, rfl, s7, hnone7⟩
          rw [hZ.len, List.take_length] at hnone7
          exact ⟨_, _, _, rfl, s36.trans s7, flat_none (f := fun s => chosenF (List.range W.length) (s + 1)) hnone hir hnone7⟩
      · rintro σ H4 ⟨y3, y4, y5, rfl, s4, hnone⟩
        rw [List.take_of_length_le (by simp)] at hnone
        refine q H4 .non (s03.trans s4) ?_
        have e : (triesF W).find? (unmet es.length most W) = none := hnone
        rw [e]
        rfl
end
end Ut
/-! _law_hand, _law_draw, _law_shuffled. -/
namespace Ut
open PySem PySem.Spec PyProof.Rows L2
theorem seq_by {t u : TS} {D : Ends} {σ : L2.St} {H : Hp} (P : L2.St → Hp → Prop) (h2 : ∀ σ' H', P σ' H' → u D σ' H') (h1 : (∀ σ' H', P σ' H' → u D σ' H') → t { D with nx := u D } σ H) : tSeq t u D σ H := h1 h2
/-- the hand: the cells (at c), how many are taken, the digits left, the two states -/
def Hand (H : Hp) (h c : Addr) : Prop := ∃ (cs : List Int) (i d s k : Int), H h = some (.lst [.ref c, .int i, .int d, .int s, .int k]) ∧ H c = some (.lst (cs.map V.int)) ∧ c ≠ h ∧ (∀ x ∈ cs, 0 ≤ x) ∧ 0 ≤ i ∧ 0 ≤ d
theorem Hand.same {H H' : Hp} {h c : Addr} (a : Hand H h c) (s : Same H H') : Hand H' h c := by
  obtain ⟨cs, i, d, z, k, h1, h2, r⟩ := a
  exact ⟨cs, i, d, z, k, s _ _ h1, s _ _ h2, r⟩
theorem Hand.mut {H : Hp} {h c p : Addr} {o : HO} (a : Hand H h c) (n1 : p ≠ h) (n2 : p ≠ c) : Hand (upd H p o) h c := by
  obtain ⟨cs, i, d, z, k, h1, h2, r⟩ := a
  exact ⟨cs, i, d, z, k, by rw [upd_ne n1.symm]; exact h1, by rw [upd_ne n2.symm]; exact h2, r⟩
theorem Hand.lst {H : Hp} {h c : Addr} (a : Hand H h c) : ∃ ys, H h = some (.lst ys) := by
  obtain ⟨cs, i, d, z, k, h1, _⟩ := a
  exact ⟨_, h1⟩
theorem Hand.nh {H : Hp} {h c p : Addr} (a : Hand H h c) (e : H p = none) : p ≠ h := by
  obtain ⟨cs, i, d, z, k, h1, h2, r⟩ := a
  intro z
  rw [z, h1] at e
  cases e
theorem Hand.nc {H : Hp} {h c p : Addr} (a : Hand H h c) (e : H p = none) : p ≠ c := by
  obtain ⟨cs, i, d, z, k, h1, h2, r⟩ := a
  intro z
  rw [z, h2] at e
  cases e
/-- ints of any size -/
def IV (_ : Hp) (v : V) (n : Int) : Prop := v = .int n
theorem IV.kt (H H' : Hp) (v : V) (b : Int) (_ : Kt H H') (h : IV H v b) : IV H' v b := h
theorem iv_map {H : Hp} : ∀ {xs : List V} {ns : List Int}, All2 (IV H) xs ns → xs = ns.map V.int
  | _, _, .nil => rfl
  | _, _, .cons r t => by
    rw [iv_map t]
    cases r
    rfl
theorem cmul_mod (x m y : Int) (h0 : 0 < m) (h1 : m < 2 ^ 64) : CMul (x % m) y := by
  have a := Int.emod_nonneg x (b := m) (by omega)
  have b := Int.emod_lt_of_pos x h0
  have c : -(2 ^ 64 : Int) < 0 := by decide
  exact .inl ⟨Int.lt_of_lt_of_le c a, Int.lt_trans b h1⟩
theorem seqI {i : Nat} {n : Nat} (h : i < n) : seqIndex? (i : Int) n = some i := by
  unfold seqIndex?
  have e : ¬ (i : Int) < 0 := by omega
  simp [e, h]
theorem erase_perm {α : Type} : ∀ {l : List α} {i : Nat} {x : α}, l[i]? = some x → (x :: l.eraseIdx i).Perm l
  | [], _, _, h => by simp at h
  | a :: l, 0, x, h => by
    simp at h
    subst h
    exact List.Perm.refl _
  | a :: l, i + 1, x, h => by
    have ih := erase_perm (l := l) (i := i) (x := x) (by simpa using h)
    exact (List.Perm.swap a x _).trans (ih.cons a)
section
variable {P : Program} {w : World} {K : PySem.W.Frag} {mg : Str → Option Value} {base : Heap}
def sp_Lhand (K : PySem.W.Frag) : Sp := fun vs H Q _ => ∃ (a : Addr) (ns : List Int), vs = [.ref a] ∧ SqL K H a (ns.map V.int) ∧ ns.length ≤ 1000 ∧ ∀ H' h c, Same H H' → Hand H' h c → H h = none → H c = none → Q (.ref h) H'
theorem cd_Lhand (T : Tx K mg) : Cd P w K mg base CX0 "_law_hand" 1 ["_law_script"] (sp_Lhand K) := by
  refine Cd.of T.d_Lhand (fun _ _ _ _ _ _ us hl => match us, hl with | [_], _ => rfl) fun f fd F => ?_
  refine F.ok sc_Lhand (fun vs H Q E h => ?_) (fun cdv A outer s H vs Q E hr h => ?_)
  · obtain ⟨a, ns, rfl, _⟩ := h
    rfl
  · obtain ⟨a, ns, rfl, ha, hn, q⟩ := h
    refine ⟨_, (pss_cons (ps_setLc (i := 1) (own := [("_law_cell", 2)]) (g := (gName 2)) (tt := tYes) (te := (tCB rAbsU (tCons (tCB rIntU (tCons (tVar 2) tNil)) tNil))) (by rfl) sc_Lhand.nd rfl rfl (sw_true rfl rfl rfl (by decide +kernel)) (pi_list (pe_slice sl_list (pv 0) po_none (po_some pe_int))) (blkOk_by (own := [("_law_cell", 2)]) (N := ["_law_script", "_law_cells", "_law_cell"]) (sc := defScope s_Lhand) (by decide +kernel)) (fun _ _ _ _ _ => (pg_name (i := 2) sc_Lhand.nd rfl (by first | exact Or.inl rfl | exact Or.inr rfl))) (fun _ _ _ _ _ => pts_nil) (fun _ _ _ _ _ => (pe_callB (id := "abs") call_absU (by rfl) T.b_abs (by decide +kernel) (pa_cons (pe_callTy (T := "int") call_intU (by rfl) T.b_int (by decide +kernel) (pa_cons (pv 2) pa_nil)) pa_nil))))
      (pss_one (ps_ret (pe_lst (pa_cons (pv 1) (pa_cons pe_int (pa_cons pe_int (pa_cons (pe_op op_add pe_int (pe_callB (id := "len") call_lenU (by rfl) T.b_len (by decide +kernel) (pa_cons (pv 1) pa_nil))) (pa_cons pe_int pa_nil))))))))), ?_⟩
    refine ⟨_, rfl, 63, rfl, a, _, rfl, ha, fun p hp => ?_⟩
    have e : ∃ zs : List Int, cutV (ns.map V.int) none (some 63) = zs.map V.int ∧ zs.length ≤ 1000 := by
      refine ⟨(ns.drop (HT.sIx (ns.map V.int).length 0 none)).take (HT.sIx (ns.map V.int).length (ns.map V.int).length (some 63) - HT.sIx (ns.map V.int).length 0 none), ?_, ?_⟩
      · unfold cutV
        rw [List.map_take, List.map_drop]
      · rw [List.length_take, List.length_drop]
        omega
    obtain ⟨zs, ez, hz⟩ := e
    rw [ez]
    have s1 : Same H (upd H p (.lst (zs.map V.int))) := Same.new hp
    have hp1 : (upd H p (.lst (zs.map V.int))) p = some (.lst (zs.map V.int)) := upd_same
    generalize upd H p (.lst (zs.map V.int)) = H1 at *
    refine ⟨p, rfl, ⟨_, SqL.of hp1⟩, fun D hD => lcL (R := IV) IV.kt (outM zs fun z => if z < 0 then -z else z) hD (SqL.of hp1) (outM_0 _ _) (fun i => Nat.lt_of_le_of_lt (outM_len _ _ _) (by omega)) ?_ ?_⟩
    · intro u x H7 N hu7 s7 Nx
      rw [List.getElem?_map] at hu7
      obtain ⟨z, hz, rfl⟩ := Option.map_eq_some_iff.mp hu7
      refine ⟨rfl, yesGo ?_⟩
      exact ⟨_, rfl, .inl ⟨z, rfl, z, rfl, Nx.yes H7 _ _ (Same.refl _) rfl (outM_1 hz)⟩⟩
    · intro H7 xs' s7 hD7 r7
      have e7 := iv_map r7
      rw [List.length_map, outM_all (Nat.le_refl _)] at e7
      subst e7
      have s17 := s1.trans s7
      refine ⟨_, rfl, _, rfl, D, _, rfl, .inl (SqL.of hD7), 1, _, rfl, rfl, line_le (by show 5 ≤ _; omega), fun h hh => ?_⟩
      refine q _ h D (s17.trans (Same.new hh)) ⟨zs.map fun z => if z < 0 then -z else z, 0, 0, _, 0, upd_same, ?_, ne_of_none hD7 hh, fun x hx => ?_, by omega, by omega⟩ (s17.free hh) (s1.free hD)
      · rw [upd_ne (ne_of_none hD7 hh)]
        exact hD7
      · obtain ⟨z, _, rfl⟩ := List.mem_map.mp hx
        show 0 ≤ if z < 0 then -z else z
        split <;> omega
def sp_Ldraw : Sp := fun vs H Q _ => ∃ (h c : Addr) (m : Int), vs = [.ref h, .int m] ∧ Hand H h c ∧ 0 < m ∧ m ≤ 1000000 ∧ ∀ H' (r : Nat), SameB h H H' → Hand H' h c → (r : Int) < m → Q (.int (r : Int)) H'
theorem cd_Ldraw (T : Tx K mg) : Cd P w K mg base CX0 "_law_draw" 1 ["_law_hand_here", "_law_many"] sp_Ldraw := by
  refine Cd.of T.d_Ldraw (fun _ _ _ _ _ _ us hl => match us, hl with | [_, _], _ => rfl) fun f fd F => ?_
  refine F.ok sc_Ldraw (fun vs H Q E h => ?_) (fun cdv A outer s H vs Q E hr h => ?_)
  · obtain ⟨h, c, m, rfl, _⟩ := h
    rfl
  · obtain ⟨h, c, m, rfl, ⟨cs, i, d, z, k, hh, hc, hne, hcs, hi0, hd0⟩, hm0, hm, q⟩ := h
    refine ⟨_, (pss_cons (ps_if (PW.pt (pw_and (pt_cmpR op_eq (pe_ix ix_list (pv 0) pe_int (fun _ _ => rfl)) pe_int (nomark _)) (pw_and1 (pt_cmpR op_lt (pe_ix ix_list (pv 0) pe_int (fun _ _ => rfl)) (pe_callB (id := "len") call_lenU (by rfl) T.b_len (by decide +kernel) (pa_cons (pe_ix ix_list (pv 0) pe_int (fun _ _ => rfl)) pa_nil)) (nomark _))))) (pss_cons (ps_set (i := 2) sc_Ldraw.nd rfl (by first | exact Or.inl rfl | exact Or.inr rfl) (pe_ix ix_list (pe_ix ix_list (pv 0) pe_int (fun _ _ => rfl)) (pe_ix ix_list (pv 0) pe_int (fun _ _ => rfl)) (fun _ _ => rfl)))
      (pss_cons (ps_asg (pe_op op_add (pe_ix ix_list (pv 0) pe_int (fun _ _ => rfl)) pe_int) (pg_sub (pv 0) pe_int set_list))
      (pss_cons (ps_asg (pe_op op_mod (pe_callTy (T := "int") call_intU (by rfl) T.b_int (by decide +kernel) (pa_cons (pe_op op_add (pe_op op_add (pe_op op_mul (pe_ix ix_list (pv 0) pe_int (fun _ _ => rfl)) pe_int) (pv 2)) pe_int) pa_nil)) pe_int) (pg_sub (pv 0) pe_int set_list))
      (pss_one (ps_if (pt_cmpR op_ge (pv 2) (pe_op op_pow pe_int pe_int) (nomark _)) (pss_one (ps_asg (pv 2) (pg_sub (pv 0) pe_int set_list))) pss_nil))))) pss_nil)
      (pss_cons (ps_if (pt_cmpR op_gt (pe_ix ix_list (pv 0) pe_int (fun _ _ => rfl)) pe_int (nomark _)) (pss_cons (ps_set (i := 3) sc_Ldraw.nd rfl (by first | exact Or.inl rfl | exact Or.inr rfl) (pe_op op_mod (pe_callTy (T := "int") call_intU (by rfl) T.b_int (by decide +kernel) (pa_cons (pe_ix ix_list (pv 0) pe_int (fun _ _ => rfl)) pa_nil)) (pv 1)))
      (pss_cons (ps_asg (pe_op op_fdiv (pe_ix ix_list (pv 0) pe_int (fun _ _ => rfl)) (pv 1)) (pg_sub (pv 0) pe_int set_list))
      (pss_one (ps_ret (pv 3))))) pss_nil)
      (pss_cons (ps_asg (pe_op op_add (pe_ix ix_list (pv 0) pe_int (fun _ _ => rfl)) pe_int) (pg_sub (pv 0) pe_int set_list))
      (pss_cons (ps_set (i := 4) sc_Ldraw.nd rfl (by first | exact Or.inl rfl | exact Or.inr rfl) (pe_op op_mod (pe_callTy (T := "int") call_intU (by rfl) T.b_int (by decide +kernel) (pa_cons (pe_op op_mul (pe_callTy (T := "int") call_intU (by rfl) T.b_int (by decide +kernel) (pa_cons (pe_op op_add (pe_ix ix_list (pv 0) pe_int (fun _ _ => rfl)) (pe_op op_mul pe_int (pe_ix ix_list (pv 0) pe_int (fun _ _ => rfl)))) pa_nil)) pe_int) pa_nil)) pe_int))
      (pss_cons (ps_set (i := 4) sc_Ldraw.nd rfl (by first | exact Or.inl rfl | exact Or.inr rfl) (pe_op op_mod (pe_callTy (T := "int") call_intU (by rfl) T.b_int (by decide +kernel) (pa_cons (pe_op op_mul (pv 4) (pe_op op_add (pe_op op_fdiv (pv 4) pe_int) pe_int)) pa_nil)) pe_int))
      (pss_cons (ps_set (i := 4) sc_Ldraw.nd rfl (by first | exact Or.inl rfl | exact Or.inr rfl) (pe_op op_mod (pe_callTy (T := "int") call_intU (by rfl) T.b_int (by decide +kernel) (pa_cons (pe_op op_mul (pv 4) (pe_op op_add (pe_op op_fdiv (pv 4) pe_int) pe_int)) pa_nil)) pe_int))
      (pss_one (ps_ret (pe_op op_mod (pe_callTy (T := "int") call_intU (by rfl) T.b_int (by decide +kernel) (pa_cons (pe_op op_fdiv (pv 4) pe_int) pa_nil)) (pv 1)))))))))), ?_⟩
    -- a digit, and the end
    have fin : ∀ (H' : Hp) (i d z k r : Int), SameB h H H' → H' h = some (.lst [.ref c, .int i, .int d, .int z, .int k]) → H' c = some (.lst (cs.map V.int)) → 0 ≤ i → 0 ≤ d → Q (.int (r % m)) H' := by
      intro H' i d z k r S hh hc hi hd
      have a := Int.emod_nonneg r (b := m) (by omega)
      have b := Int.emod_lt_of_pos r hm0
      have := q H' (r % m).toNat S ⟨cs, i, d, z, k, hh, hc, hne, hcs, hi, hd⟩ (by rw [Int.toNat_of_nonneg a]; exact b)
      rw [Int.toNat_of_nonneg a] at this
      exact this
    refine seq_by (fun σ H' => ∃ (y2 : Option V) (i d z k : Int), σ = [some (.ref h), some (.int m), y2, none, none] ∧ SameB h H H' ∧ H' h = some (.lst [.ref c, .int i, .int d, .int z, .int k]) ∧ H' c = some (.lst (cs.map V.int)) ∧ 0 ≤ i ∧ 0 ≤ d) ?_ ?_
    · rintro σ H1 ⟨y2, i, d, z, k, rfl, S1, hh, hc, hi0, hd0⟩
      refine seq_by (fun σ H' => σ = [some (.ref h), some (.int m), y2, none, none] ∧ H' = H1) ?_ ?_
      · rintro σ H' ⟨rfl, rfl⟩
        -- hand[4] = hand[4] + 1
        refine ⟨_, rfl, h, _, 4, _, rfl, rfl, SqL.of hh, rfl, _, _, rfl, rfl, _, rfl, h, _, 4, 4, rfl, rfl, hh, rfl, ?_⟩
        have S2 : SameB h H (upd H' h (.lst [.ref c, .int i, .int d, .int z, .int (k + 1)])) := S1.put
        have hh2 : (upd H' h (.lst [.ref c, .int i, .int d, .int z, .int (k + 1)])) h = some (.lst [.ref c, .int i, .int d, .int z, .int (k + 1)]) := upd_same
        have hc2 : (upd H' h (.lst [.ref c, .int i, .int d, .int z, .int (k + 1)])) c = some (.lst (cs.map V.int)) := by rw [upd_ne hne]; exact hc
        show _
        simp only [List.set]
        generalize upd H' h (.lst [.ref c, .int i, .int d, .int z, .int (k + 1)]) = H2 at *
        refine ⟨_, rfl, h, _, 3, _, rfl, rfl, SqL.of hh2, rfl, _, rfl, h, _, 4, _, rfl, rfl, SqL.of hh2, rfl, _, _, rfl, rfl, .inl ⟨by decide, by decide⟩, _, _, rfl, rfl, .inl ⟨_, rfl, _, _, rfl, rfl, .inr ⟨by decide, by decide⟩, .inl ⟨_, rfl, _, _, rfl, rfl, (by show (0 : Int) < _; decide), ?_⟩⟩⟩
        refine ⟨_, rfl, _, rfl, _, _, rfl, rfl, ⟨by decide, by decide⟩, _, _, rfl, rfl, _, _, rfl, rfl, cmul_mod _ _ _ (by decide) (by decide), .inl ⟨_, rfl, _, _, rfl, rfl, (by show (0 : Int) < _; decide), ?_⟩⟩
        refine ⟨_, rfl, _, rfl, _, _, rfl, rfl, ⟨by decide, by decide⟩, _, _, rfl, rfl, _, _, rfl, rfl, cmul_mod _ _ _ (by decide) (by decide), .inl ⟨_, rfl, _, _, rfl, rfl, (by show (0 : Int) < _; decide), ?_⟩⟩
        refine ⟨_, rfl, _, _, rfl, rfl, ⟨by decide, by decide⟩, .inl ⟨_, rfl, _, rfl, _, _, rfl, rfl, hm0, ?_⟩⟩
        exact fin H2 i d z (k + 1) _ S2 hh2 hc2 hi0 hd0
      · intro go
        refine ⟨_, rfl, h, _, 2, _, rfl, rfl, SqL.of hh, rfl, _, _, rfl, rfl, _, rfl, ?_⟩
        by_cases hd : 0 < d
        · rw [decide_eq_true hd]
          refine iteT ?_
          refine ⟨_, rfl, h, _, 2, _, rfl, rfl, SqL.of hh, rfl, .inl ⟨_, rfl, _, rfl, _, _, rfl, rfl, hm0, ?_⟩⟩
          refine ⟨_, rfl, h, _, 2, _, rfl, rfl, SqL.of hh, rfl, _, rfl, _, _, rfl, rfl, ⟨hm0, by omega⟩, _, rfl, h, _, 2, 2, rfl, rfl, hh, rfl, ?_⟩
          refine ⟨_, rfl, ?_⟩
          exact fin _ i (d / m) z k d S1.put upd_same (by rw [upd_ne hne]; exact hc) hi0 (Int.ediv_nonneg (by omega) (by omega))
        · rw [decide_eq_false hd]
          exact iteF (go _ _ ⟨rfl, rfl⟩)
    · intro go
      have skip := go _ H ⟨none, i, d, z, k, rfl, SameB.refl _, hh, hc, hi0, hd0⟩
      refine ⟨_, rfl, h, _, 2, _, rfl, rfl, SqL.of hh, rfl, rfl, _, rfl, ?_⟩
      by_cases hd : d = 0
      · rw [decide_eq_true (show V.int d = V.int 0 by rw [hd])]
        refine iteT ?_
        refine ⟨_, rfl, h, _, 1, _, rfl, rfl, SqL.of hh, rfl, _, rfl, h, _, 0, _, rfl, rfl, SqL.of hh, rfl, c, _, rfl, .inl (SqL.of hc), _, _, rfl, rfl, _, rfl, ?_⟩
        rw [List.length_map]
        by_cases hil : i < (cs.length : Int)
        · rw [decide_eq_true hil]
          refine iteT ?_
          obtain ⟨t, rfl⟩ := Int.eq_ofNat_of_zero_le hi0
          have htl : t < cs.length := by omega
          have hget : (cs.map V.int)[t]? = some (.int cs[t]) := by
            rw [List.getElem?_map, List.getElem?_eq_getElem htl]
            rfl
          have hx0 : 0 ≤ cs[t] := hcs _ (List.getElem_mem htl)
          generalize cs[t] = x at *
          refine ⟨_, rfl, h, _, 0, _, rfl, rfl, SqL.of hh, rfl, _, rfl, h, _, 1, _, rfl, rfl, SqL.of hh, rfl, c, _, (t : Int), .int x, rfl, rfl, SqL.of hc, atI_nat hget, ?_⟩
          -- hand[1] = hand[1] + 1
          refine ⟨_, rfl, h, _, 1, _, rfl, rfl, SqL.of hh, rfl, _, _, rfl, rfl, _, rfl, h, _, 1, 1, rfl, rfl, hh, rfl, ?_⟩
          simp only [List.set]
          have S2 : SameB h H (upd H h (.lst [.ref c, .int ((t : Int) + 1), .int d, .int z, .int k])) := SameB.put (SameB.refl _)
          have hh2 : (upd H h (.lst [.ref c, .int ((t : Int) + 1), .int d, .int z, .int k])) h = some (.lst [.ref c, .int ((t : Int) + 1), .int d, .int z, .int k]) := upd_same
          have hc2 : (upd H h (.lst [.ref c, .int ((t : Int) + 1), .int d, .int z, .int k])) c = some (.lst (cs.map V.int)) := by rw [upd_ne hne]; exact hc
          generalize upd H h (.lst [.ref c, .int ((t : Int) + 1), .int d, .int z, .int k]) = H2 at *
          refine ⟨_, rfl, h, _, 3, _, rfl, rfl, SqL.of hh2, rfl, _, _, rfl, rfl, .inr ⟨by decide, by decide⟩, _, rfl, _, _, rfl, rfl, _, _, rfl, rfl, .inl ⟨_, rfl, _, _, rfl, rfl, (by show (0 : Int) < _; decide), _, rfl, h, _, 3, 3, rfl, rfl, hh2, rfl, ?_⟩⟩
          simp only [List.set]
          generalize (z * 69621 + x + 11) % 2147483629 = z3
          have S3 : SameB h H (upd H2 h (.lst [.ref c, .int ((t : Int) + 1), .int d, .int z3, .int k])) := S2.put
          have hh3 : (upd H2 h (.lst [.ref c, .int ((t : Int) + 1), .int d, .int z3, .int k])) h = some (.lst [.ref c, .int ((t : Int) + 1), .int d, .int z3, .int k]) := upd_same
          have hc3 : (upd H2 h (.lst [.ref c, .int ((t : Int) + 1), .int d, .int z3, .int k])) c = some (.lst (cs.map V.int)) := by rw [upd_ne hne]; exact hc2
          generalize upd H2 h (.lst [.ref c, .int ((t : Int) + 1), .int d, .int z3, .int k]) = H3 at *
          refine ⟨_, rfl, _, _, rfl, rfl, ⟨by decide, by decide, by decide⟩, _, _, rfl, rfl, _, rfl, ?_⟩
          cases hb : decide ((10 : Int) ^ (18 : Int).toNat ≤ x) with
          | true =>
            refine iteT ?_
            refine ⟨_, rfl, _, rfl, h, _, 2, 2, rfl, rfl, hh3, rfl, ?_⟩
            exact go _ _ ⟨_, _, x, z3, k, rfl, S3.put, upd_same, by rw [upd_ne hne]; exact hc3, by omega, hx0⟩
          | false =>
            refine iteF ?_
            exact go _ _ ⟨_, _, d, z3, k, rfl, S3, hh3, hc3, by omega, hd0⟩
        · rw [decide_eq_false hil]
          exact iteF skip
      · rw [decide_eq_false (fun e => hd (V.int.inj e))]
        exact iteF (iteF skip)
def sp_Lshuffled (K : PySem.W.Frag) : Sp := fun vs H Q _ => ∃ (h c t : Addr) (xs : List V), vs = [.ref h, .ref t] ∧ Hand H h c ∧ SqL K H t xs ∧ xs.length ≤ 1000 ∧
  ∀ H' l ys, SameB h H H' → Hand H' h c → H l = none → H' l = some (.lst ys) → ys.Perm xs → Q (.ref l) H'
theorem cd_Lshuffled (T : Tx K mg) : Cd P w K mg base CX0 "_law_shuffled" 2 ["_law_hand_here", "_law_things"] (sp_Lshuffled K) := by
  have G_Ldraw : Cd P w K mg base CX0 "_law_draw" 1 ["_law_hand_here", "_law_many"] sp_Ldraw := cd_Ldraw T
  refine Cd.of T.d_Lshuffled (fun _ _ _ _ _ _ us hl => match us, hl with | [_, _], _ => rfl) fun f fd F => ?_
  refine F.ok sc_Lshuffled (fun vs H Q E h => ?_) (fun cdv A outer s H vs Q E hr h => ?_)
  · obtain ⟨h, c, t, xs, rfl, _⟩ := h
    rfl
  · obtain ⟨h, c, t, xs, rfl, hH, ht, hxl, q⟩ := h
    refine ⟨_, (pss_cons (ps_set (i := 2) sc_Lshuffled.nd rfl (by first | exact Or.inl rfl | exact Or.inr rfl) (pe_callTy (T := "list") call_list_of (by rfl) T.b_list (by decide +kernel) (pa_cons (pv 1) pa_nil)))
      (pss_cons (ps_set (i := 3) sc_Lshuffled.nd rfl (by first | exact Or.inl rfl | exact Or.inr rfl) (pe_lst pa_nil))
      (pss_cons (ps_while PassesOwn.never (pt_cmpR op_gt (pe_callB (id := "len") call_lenU (by rfl) T.b_len (by decide +kernel) (pa_cons (pv 2) pa_nil)) pe_int (nomark _))
      (pss_one (ps_expr (pe_bm PySem.F.plainAttrs_list PySem.F.slot_list_append PySem.F.type_list_append mt_append (pv 3) (pa_cons (pe_bm PySem.F.plainAttrs_list PySem.F.slot_list_pop PySem.F.type_list_pop mt_popAt (pv 2) (pa_cons (pe_callD G_Ldraw (hr.mono (by decide)) pass0 (pa_cons (pv 0) (pa_cons (pe_callB (id := "len") call_lenU (by rfl) T.b_len (by decide +kernel) (pa_cons (pv 2) pa_nil)) pa_nil))) pa_nil)) pa_nil)))))
      (pss_one (ps_ret (pv 3)))))), ?_⟩
    refine ⟨_, rfl, t, xs, rfl, .inl ht, fun o ho => ?_⟩
    have s1 : Same H (upd H o (.lst xs)) := Same.new ho
    have ho1 : (upd H o (.lst xs)) o = some (.lst xs) := upd_same
    generalize upd H o (.lst xs) = H1 at *
    refine ⟨line_le (by show 0 ≤ _; omega), fun f hf => ?_⟩
    have s2 : Same H1 (upd H1 f (.lst [])) := Same.new hf
    have hf2 : (upd H1 f (.lst [])) f = some (.lst []) := upd_same
    generalize upd H1 f (.lst []) = H2 at *
    have hf0 := s1.free hf
    have nof : o ≠ f := ne_of_none ho1 hf
    have noh : o ≠ h := hH.nh ho
    have nfh : f ≠ h := hH.nh hf0
    refine ⟨fun m σ H3 => ∃ os fs : List V, σ = [some (.ref h), some (.ref t), some (.ref o), some (.ref f)] ∧ SameB h H H3 ∧ Hand H3 h c ∧ H3 o = some (.lst os) ∧ H3 f = some (.lst fs) ∧ (fs ++ os).Perm xs ∧ m = os.length,
      ⟨_, xs, [], rfl, SameB.of (s1.trans s2), hH.same (s1.trans s2), s2 _ _ ho1, hf2, List.Perm.refl _, rfl⟩, ?_⟩
    rintro m σ H3 ⟨os, fs, rfl, S3, hH3, ho3, hf3, hp, rfl⟩
    have hpl := hp.length_eq
    rw [List.length_append] at hpl
    refine ⟨_, rfl, o, _, rfl, .inl (SqL.of ho3), _, _, rfl, rfl, _, rfl, ?_⟩
    by_cases hz : 0 < os.length
    · rw [decide_eq_true (by omega : (0 : Int) < (os.length : Int))]
      refine iteT ⟨_, fun σ' H' h => h, ?_⟩
      refine ⟨_, rfl, .inl ⟨rfl, _, SqL.of hf3⟩, _, rfl, .inl ⟨rfl, _, SqL.of ho3⟩, _, rfl, _, rfl, o, _, rfl, .inl (SqL.of ho3), h, c, (os.length : Int), rfl, hH3, by omega, by omega, fun H4 r S4 hH4 hr => ?_⟩
      have hrl : r < os.length := by omega
      have ho4 := S4 _ _ ho3 noh
      have hf4 := S4 _ _ hf3 nfh
      have hget : os[r]? = some os[r] := List.getElem?_eq_getElem hrl
      generalize os[r] = y at *
      refine ⟨o, os, (r : Int), r, y, rfl, rfl, ho4, by omega, by omega, seqI hrl, hget, ?_⟩
      have S5 : SameB h H (upd H4 o (.lst (os.eraseIdx r))) := (S3.trans S4).mut ho
      have ho5 : (upd H4 o (.lst (os.eraseIdx r))) o = some (.lst (os.eraseIdx r)) := upd_same
      have hf5 : (upd H4 o (.lst (os.eraseIdx r))) f = some (.lst fs) := by rw [upd_ne nof.symm]; exact hf4
      have hH5 : Hand (upd H4 o (.lst (os.eraseIdx r))) h c := hH4.mut noh (hH.nc ho)
      generalize upd H4 o (.lst (os.eraseIdx r)) = H5 at *
      refine ⟨f, fs, y, rfl, rfl, hf5, line_lt (by omega), ?_⟩
      refine ⟨_, ?_, os.eraseIdx r, fs ++ [y], rfl, S5.mut hf0, hH5.mut nfh (hH.nc hf0), ?_, upd_same, ?_, rfl⟩
      · rw [List.length_eraseIdx, if_pos hrl]
        omega
      · rw [upd_ne nof]
        exact ho5
      · refine List.Perm.trans ?_ hp
        rw [List.append_assoc]
        exact (erase_perm hget).append_left fs
    · rw [decide_eq_false (by omega)]
      refine iteF ?_
      have : os = [] := List.length_eq_zero_iff.mp (by omega)
      subst this
      rw [List.append_nil] at hp
      exact ⟨_, rfl, q H3 f fs S3 hH3 hf0 hf3 hp⟩
end
end Ut
/-! What is drawn: maps whose goal can be come to. -/
namespace Ut
open PySem L2
structure Fit (n : Nat) (es : Arr) (g : Nat) : Prop where
  lt : ∀ e ∈ es, e.1 < n ∧ e.2 < n
  ne : ∀ e ∈ es, e.1 ≠ e.2
  leads : ∀ R : Nat → Prop, R 0 → (∀ e ∈ es, R e.1 → R e.2) → R g
  g0 : g ≠ 0
  gn : g < n
theorem Fit.perm {n g : Nat} {es es' : Arr} (h : Fit n es g) (p : es'.Perm es) : Fit n es' g :=
  ⟨fun e he => h.lt e (p.mem_iff.mp he), fun e he => h.ne e (p.mem_iff.mp he), fun R h0 hc => h.leads R h0 fun e he => hc e (p.mem_iff.mpr he), h.g0, h.gn⟩
theorem es_mem {es : Arr} {k : Nat} (h : k < es.length) : (tl es k, hd es k) ∈ es := List.mem_of_getElem? (es_get h)
theorem Fit.good {n g : Nat} {es : Arr} (h : Fit n es g) : Good n es := ⟨fun k hk => h.lt _ (es_mem hk), fun k hk => h.ne _ (es_mem hk)⟩
theorem Fit.lead {n g : Nat} {es : Arr} (h : Fit n es g) : Leads es g := fun R h0 hc => h.leads R h0 fun e he => by
  obtain ⟨k, hk, rfl⟩ := List.getElem_of_mem he
  have e2 : es[k] = (tl es k, hd es k) := by
    have := es_get hk
    rw [List.getElem?_eq_getElem hk] at this
    exact Option.some.inj this
  rw [e2]
  exact hc k hk
theorem Fit.map {n g : Nat} {es : Arr} (h : Fit n es g) (r : Nat → Nat) (h0 : r 0 = 0) (hlt : ∀ i, i < n → r i < n) (hinj : ∀ i j, i < n → j < n → r i = r j → i = j) : Fit n (es.map fun e => (r e.1, r e.2)) (r g) := by
  refine ⟨fun e he => ?_, fun e he => ?_, fun R hR hc => ?_, fun e => ?_, hlt _ h.gn⟩
  · obtain ⟨x, hx, rfl⟩ := List.mem_map.mp he
    exact ⟨hlt _ (h.lt x hx).1, hlt _ (h.lt x hx).2⟩
  · obtain ⟨x, hx, rfl⟩ := List.mem_map.mp he
    exact fun q => h.ne x hx (hinj _ _ (h.lt x hx).1 (h.lt x hx).2 q)
  · refine h.leads (fun p => R (r p)) (by rw [h0]; exact hR) fun x hx q => hc _ (List.mem_map.mpr ⟨x, hx, rfl⟩) q
  · have := h.gn
    exact h.g0 (hinj g 0 this (by omega) (by rw [h0]; exact e))
theorem All2.perm {α β : Type} {R : α → β → Prop} {as as' : List α} (p : as'.Perm as) : ∀ {bs : List β}, All2 R as bs → ∃ bs', bs'.Perm bs ∧ All2 R as' bs' := by
  induction p with
  | nil =>
    intro bs h
    exact ⟨bs, List.Perm.refl _, h⟩
  | cons x p ih =>
    intro bs h
    cases h with
    | @cons _ b _ bs r t =>
      obtain ⟨bs', q, u⟩ := ih t
      exact ⟨b :: bs', q.cons b, .cons r u⟩
  | swap x y l =>
    intro bs h
    cases h with
    | @cons _ b _ bs r t =>
      cases t with
      | @cons _ c _ bs s t => exact ⟨c :: b :: bs, List.Perm.swap b c bs, .cons s (.cons r t)⟩
  | trans p q ihp ihq =>
    intro bs h
    obtain ⟨b1, q1, u1⟩ := ihq h
    obtain ⟨b2, q2, u2⟩ := ihp u1
    exact ⟨b2, q2.trans q1, u2⟩
/-- the three parts of a map -/
def PartsAt (H : Hp) (v : V) (es : Arr) (n g : Nat) : Prop := ∃ p va c, v = .ref p ∧ H p = some (.tup [.int (n : Int), va, .ref c]) ∧ ArrAt H va es ∧ H c = some (.tup (iVs [g]))
theorem PartsAt.kt {H H' : Hp} {v : V} {es : Arr} {n g : Nat} (k : Kt H H') (h : PartsAt H v es n g) : PartsAt H' v es n g := by
  obtain ⟨p, va, c, e, h1, h2, h3⟩ := h
  exact ⟨p, va, c, e, k _ _ h1, h2.kt k, k _ _ h3⟩
/-- a map that may be drawn -/
structure Map1 (es : Arr) (n g : Nat) : Prop where
  fit : Fit n es g
  n2 : 2 ≤ n
  n12 : n ≤ 12
  len : es.length ≤ 16
def Drawn (H : Hp) (v : V) : Prop := ∃ es n g, PartsAt H v es n g ∧ Map1 es n g
/-! ### sizes of the ways, the law's numbers -/
theorem perm_range {n : Nat} {l : List Nat} (p : l.Perm ((List.range n).drop 1)) : (0 :: l).Perm (List.range n) ∨ n = 0 := by
  cases n with
  | zero => exact .inr rfl
  | succ n =>
    refine .inl ?_
    have e : List.range (n + 1) = 0 :: (List.range (n + 1)).drop 1 := by
      rw [List.range_succ_eq_map]
      rfl
    rw [e]
    exact p.cons 0
theorem perm_inj {n : Nat} {l : List Nat} (p : l.Perm (List.range n)) : l.length = n ∧ (∀ i, i < n → l.getD i 0 < n) ∧ ∀ i j, i < n → j < n → l.getD i 0 = l.getD j 0 → i = j := by
  have hl : l.length = n := by
    rw [p.length_eq, List.length_range]
  have nd : l.Nodup := p.nodup_iff.mpr List.nodup_range
  refine ⟨hl, fun i hi => ?_, fun i j hi hj e => ?_⟩
  · rw [List.getD_eq_getElem?_getD, List.getElem?_eq_getElem (by omega)]
    exact List.mem_range.mp (p.mem_iff.mp (List.getElem_mem _))
  · rw [List.getD_eq_getElem?_getD, List.getD_eq_getElem?_getD, List.getElem?_eq_getElem (by omega : i < l.length), List.getElem?_eq_getElem (by omega : j < l.length)] at e
    have hp := List.pairwise_iff_getElem.mp (List.nodup_iff_pairwise_ne.mp nd)
    rcases Nat.lt_trichotomy i j with q | q | q
    · exact absurd e (hp i j (by omega) (by omega) q)
    · exact q
    · exact absurd e.symm (hp j i (by omega) (by omega) q)
end Ut
/-! _law_tail. -/
namespace Ut
open PySem PySem.Spec PyProof.Rows L2
section
variable {P : Program} {w : World} {K : PySem.W.Frag} {mg : Str → Option Value} {base : Heap}
def sp_Ltail : Sp := fun vs H Q _ => ∃ (h c p q : Addr) (xs : List V) (es : Arr) (g j : Nat), vs = [.ref h, .ref p, .ref q, .int (j : Int)] ∧ Hand H h c ∧ p ≠ h ∧ q ≠ h ∧ H p = some (.lst xs) ∧ ANs H xs es ∧ H q = some (.lst [.int (g : Int)]) ∧ g ≠ 0 ∧ es.length ≤ 1000 ∧
  ∀ H' (r : Nat), SameB h H H' → Hand H' h c → (r = 0 ∨ ∃ e ∈ es, e.2 = r) → Q (.int (r : Int)) H'
theorem cd_Ltail (T : Tx K mg) : Cd P w K mg base CX0 "_law_tail" 2 ["_law_hand_here", "_law_pairs", "_law_goals", "_law_place"] sp_Ltail := by
  have G_Ldraw : Cd P w K mg base CX0 "_law_draw" 1 ["_law_hand_here", "_law_many"] sp_Ldraw := cd_Ldraw T
  refine Cd.of T.d_Ltail (fun _ _ _ _ _ _ us hl => match us, hl with | [_, _, _, _], _ => rfl) fun f fd F => ?_
  refine F.ok sc_Ltail (fun vs H Q E h => ?_) (fun cdv A outer s H vs Q E hr h => ?_)
  · obtain ⟨h, c, p, q, xs, es, g, j, rfl, _⟩ := h
    rfl
  · obtain ⟨h, c, p, q, xs, es, g, j, rfl, hH, hph, hqh, hp, hX, hq, hg, hl, qq⟩ := h
    refine ⟨_, (pss_cons (ps_set (i := 4) sc_Ltail.nd rfl (by first | exact Or.inl rfl | exact Or.inr rfl) (pe_op op_cat (pe_lst (pa_cons pe_int pa_nil)) (pe_lc (own := [("_law_tail_here", 5), ("_law_head", 6)]) (g := (gTup K 2 (gCons (gName 5) (gCons (gName 6) gNil)))) (tt := tYes) (te := (tVar 6)) (by rfl) sc_Ltail.nd (pi_list (pv 1)) (blkOk_by (own := [("_law_tail_here", 5), ("_law_head", 6)]) (N := ["_law_hand_here", "_law_pairs", "_law_goals", "_law_place", "_law_there", "_law_tail_here", "_law_head", "_law_one"]) (sc := defScope s_Ltail) (by decide +kernel)) (fun _ _ _ _ _ => (pg_tup (by rfl) (pgs_cons (pg_name (i := 5) sc_Ltail.nd rfl (by first | exact Or.inl rfl | exact Or.inr rfl)) (pgs_cons (pg_name (i := 6) sc_Ltail.nd rfl (by first | exact Or.inl rfl | exact Or.inr rfl)) pgs_nil)))) (fun _ _ _ _ _ => pts_nil) (fun _ _ _ _ _ => (pv 6)))))
      (pss_cons (ps_if (pt_cmpR op_gt (pe_callD G_Ldraw (hr.mono (by decide)) pass0 (pa_cons (pv 0) (pa_cons pe_int pa_nil))) pe_int (nomark _)) (pss_one (ps_setLc (i := 4) (own := [("_law_one", 7)]) (g := (gName 7)) (tt := (tTest (tOp (rIn K true) (tVar 7) (tVar 2)))) (te := (tVar 7)) (by rfl) sc_Ltail.nd rfl rfl (sw_true rfl rfl rfl (by decide +kernel)) (pi_list (pv 4)) (blkOk_by (own := [("_law_one", 7)]) (N := ["_law_hand_here", "_law_pairs", "_law_goals", "_law_place", "_law_there", "_law_tail_here", "_law_head", "_law_one"]) (sc := defScope s_Ltail) (by decide +kernel)) (fun _ _ _ _ _ => (pg_name (i := 7) sc_Ltail.nd rfl (by first | exact Or.inl rfl | exact Or.inr rfl))) (fun _ _ _ _ _ => (pts_one (pt_cmpR op_notIn_seq (pv 7) (pv 2) rfl))) (fun _ _ _ _ _ => (pv 7)))) pss_nil)
      (pss_one (ps_ret (pe_ix ix_list (pv 4) (pe_callD G_Ldraw (hr.mono (by decide)) pass0 (pa_cons (pv 0) (pa_cons (pe_callB (id := "len") call_lenU (by rfl) T.b_len (by decide +kernel) (pa_cons (pv 4) pa_nil)) pa_nil))) (fun _ _ => rfl)))))), ?_⟩
    -- there = [0] + [head for tail, head in pairs]
    refine ⟨line_le (by show 1 ≤ _; omega), fun z hz => ?_⟩
    have s1 : Same H (upd H z (.lst [.int 0])) := Same.new hz
    have hz1 : (upd H z (.lst [.int 0])) z = some (.lst [.int 0]) := upd_same
    generalize upd H z (.lst [.int 0]) = H1 at *
    refine ⟨_, rfl, p, rfl, ⟨_, SqL.of (s1 _ _ hp)⟩, fun D hD => lcL (R := NV) NV.kt (outM es fun e => e.2) hD (SqL.of (s1 _ _ hp)) (outM_0 _ _) (fun i => Nat.lt_of_le_of_lt (outM_len _ _ _) (by omega)) ?_ ?_⟩
    · intro u x H2 N hu2 s2 Nx
      obtain ⟨e, he, b, rfl, hb⟩ := (hX.kt (Kt.same (s1.trans s2))).get hu2
      refine ⟨b, _, rfl, SqT.of hb, rfl, _, _, rfl, _, _, rfl, rfl, rfl, yesGo ?_⟩
      exact ⟨_, rfl, Nx.yes H2 _ _ (Same.refl _) rfl (outM_1 he)⟩
    · intro H2 ys s2 hD2 r2
      have e2 := nv_map r2
      rw [hX.len, outM_all (Nat.le_refl _)] at e2
      refine ⟨z, D, [.int 0], ys, rfl, rfl, s2 _ _ hz1, hD2, line_le (by rw [e2, iVs_len, List.length_map]; show 1 + _ ≤ _; omega), fun t ht => ?_⟩
      have s3 : Same H2 (upd H2 t (.lst ([.int 0] ++ ys))) := Same.new ht
      have ht3 : (upd H2 t (.lst ([.int 0] ++ ys))) t = some (.lst (iVs (0 :: es.map fun e => e.2))) := by
        rw [upd_same, e2]
        rfl
      generalize upd H2 t (.lst ([.int 0] ++ ys)) = H3 at *
      have s13 := (s1.trans s2).trans s3
      have hH3 := hH.same s13
      dsimp only [gName]
      refine seq_by (fun σ H4 => ∃ (t : Addr) (ns : List Nat) (y5 y6 y7 : Option V), σ = [some (.ref h), some (.ref p), some (.ref q), some (.int (j : Int)), some (.ref t), y5, y6, y7] ∧ SameB h H H4 ∧ Hand H4 h c ∧ t ≠ h ∧ H4 t = some (.lst (iVs ns)) ∧ ns ≠ [] ∧ ns.length ≤ 2000 ∧ ∀ r ∈ ns, r = 0 ∨ ∃ e ∈ es, e.2 = r) ?_ ?_
      · rintro σ H4 ⟨t, ns, y5, y6, y7, rfl, S4, hH4, hth, ht4, hne, hnl, hns⟩
        have hpos : 0 < ns.length := List.length_pos_iff.mpr hne
        refine ⟨_, rfl, _, rfl, _, rfl, t, _, rfl, .inl (SqL.of ht4), h, c, _, rfl, hH4, by rw [iVs_len]; omega, by rw [iVs_len]; omega, fun H5 r S5 hH5 hr => ?_⟩
        rw [iVs_len] at hr
        have hrl : r < ns.length := by omega
        refine ⟨t, iVs ns, (r : Int), .int (ns[r] : Int), rfl, rfl, SqL.of (S5 _ _ ht4 hth), atI_nat (by rw [iVs_get, List.getElem?_eq_getElem hrl]; rfl), ?_⟩
        exact qq H5 _ (S4.trans S5) hH5 (hns _ (List.getElem_mem hrl))
      · intro go
        refine ⟨_, rfl, h, c, 4, rfl, hH3, by decide, by decide, fun H4 r S4 hH4 hr => ?_⟩
        refine ⟨_, _, rfl, rfl, _, rfl, ?_⟩
        have S04 := (SameB.of (h := h) s13).trans S4
        have ht0 : H t = none := (s1.trans s2).free ht
        have hth : t ≠ h := hH.nh ht0
        have ht4 := S4 _ _ ht3 hth
        have hall : ∀ r ∈ (0 :: es.map fun e => e.2), r = 0 ∨ ∃ e ∈ es, e.2 = r := fun r hr => by
          rcases List.mem_cons.mp hr with e | hr
          · exact .inl e
          · obtain ⟨e, he, e1⟩ := List.mem_map.mp hr
            exact .inr ⟨e, he, e1⟩
        cases hb : decide ((0 : Int) < (r : Int)) with
        | false =>
          refine iteF ?_
          exact go _ _ ⟨t, _, _, _, _, rfl, S04, hH4, hth, ht4, by simp, by simp; omega, hall⟩
        | true =>
          refine iteT ?_
          refine ⟨_, rfl, t, rfl, ⟨_, SqL.of ht4⟩, fun D2 hD2 => lcL (R := NV) NV.kt (outF (0 :: es.map fun e => e.2) (fun r => !([g].contains r)) fun r => r) hD2 (SqL.of ht4) (outF_0 _ _ _) (fun i => Nat.lt_of_le_of_lt (outF_len _ _ _ _) (by simp; omega)) ?_ ?_⟩
          · intro u x H5 N hu5 s5 Nx
            rw [iVs_get] at hu5
            obtain ⟨r1, hr1, rfl⟩ := Option.map_eq_some_iff.mp hu5
            have hq5 := s5 _ _ (S04 _ _ hq hqh)
            refine ⟨rfl, ?_⟩
            refine ⟨_, rfl, _, rfl, q, iVs [g], rfl, .inl (SqL.of hq5), rfl, iVs_flat _, _, rfl, ?_⟩
            have e2 : (if true = true then !inV (V.int (r1 : Int)) (iVs [g]) else inV (V.int (r1 : Int)) (iVs [g])) = !([g].contains r1) := by
              rw [if_pos rfl, inV_iff]
            rw [e2]
            cases hc : !([g].contains r1) with
            | true => exact iteT ⟨_, rfl, Nx.yes H5 _ _ (Same.refl _) rfl (outF_yes hr1 hc)⟩
            | false => exact iteF (Nx.no H5 (Same.refl _) (outF_no hr1 hc))
          · intro H5 zs s5 hD5 r5
            have e5 := nv_map r5
            rw [iVs_len, outF_all (Nat.le_refl _), List.map_id'] at e5
            subst e5
            have hD0 : H D2 = none := S04.free hD2 (hH4.nh hD2)
            refine go _ _ ⟨D2, _, _, _, _, rfl, S04.trans (SameB.of s5), hH4.same s5, hH4.nh hD2, hD5, ?_, ?_, fun r hr => hall r (List.mem_filter.mp hr).1⟩
            · intro e
              have : 0 ∈ (0 :: es.map fun e => e.2).filter fun r => !([g].contains r) := List.mem_filter.mpr ⟨List.mem_cons_self, by simp; omega⟩
              rw [e] at this
              cases this
            · refine Nat.le_trans (List.length_filter_le _ _) ?_
              simp
              omega
end
end Ut
/-! _law_renamed. -/
namespace Ut
open PySem PySem.Spec PyProof.Rows L2
theorem iVs_all (H : Hp) : ∀ ns : List Nat, All2 (NV H) (iVs ns) ns
  | [] => .nil
  | _ :: ns => .cons rfl (iVs_all H ns)
theorem iVs_perm {ys : List V} {ns : List Nat} (p : ys.Perm (iVs ns)) : ∃ ms, ys = iVs ms ∧ ms.Perm ns := by
  obtain ⟨ms, q, r⟩ := All2.perm p (iVs_all (fun _ => none) ns)
  exact ⟨ms, nv_map r, q⟩
theorem rg_one (n : Nat) : rgV 1 (n : Int) = iVs ((List.range n).drop 1) := by
  unfold rgV iVs
  cases n with
  | zero => rfl
  | succ n =>
    rw [show (((n + 1 : Nat) : Int) - 1).toNat = n by omega, List.range_succ_eq_map]
    show _ = List.map (fun n : Nat => V.int (n : Int)) (List.map Nat.succ (List.range n))
    rw [List.map_map]
    apply List.map_congr_left
    intro i _
    show V.int (1 + (i : Int)) = V.int ((i + 1 : Nat) : Int)
    congr 1
    omega
section
variable {P : Program} {w : World} {K : PySem.W.Frag} {mg : Str → Option Value} {base : Heap}
def sp_Lrenamed : Sp := fun vs H Q _ => ∃ (h c p q : Addr) (n g : Nat) (xs : List V) (es : Arr), vs = [.ref h, .int (n : Int), .ref p, .ref q] ∧ Hand H h c ∧ p ≠ h ∧ q ≠ h ∧ H p = some (.lst xs) ∧ ANs H xs es ∧ H q = some (.lst [.int (g : Int)]) ∧ Map1 es n g ∧
  ∀ H' v, SameB h H H' → Hand H' h c → Drawn H' v → Q v H'
theorem cd_Lrenamed (T : Tx K mg) : Cd P w K mg base CX0 "_law_renamed" 3 ["_law_hand_here", "_law_many", "_law_pairs", "_law_goals"] sp_Lrenamed := by
  have G_Lshuffled : Cd P w K mg base CX0 "_law_shuffled" 2 ["_law_hand_here", "_law_things"] (sp_Lshuffled K) := cd_Lshuffled T
  refine Cd.of T.d_Lrenamed (fun _ _ _ _ _ _ us hl => match us, hl with | [_, _, _, _], _ => rfl) fun f fd F => ?_
  refine F.ok sc_Lrenamed (fun vs H Q E h => ?_) (fun cdv A outer s H vs Q E hr h => ?_)
  · obtain ⟨h, c, p, q, n, g, xs, es, rfl, _⟩ := h
    rfl
  · obtain ⟨h, c, p, q, n, g, xs, es, rfl, hH, hph, hqh, hp, hX, hq, M, qq⟩ := h
    have hn2 := M.n2
    have hn12 := M.n12
    have hes := M.len
    refine ⟨_, (pss_cons (ps_set (i := 4) sc_Lrenamed.nd rfl (by first | exact Or.inl rfl | exact Or.inr rfl) (pe_op op_cat (pe_lst (pa_cons pe_int pa_nil)) (pe_callD G_Lshuffled (hr.mono (by decide)) pass0 (pa_cons (pv 0) (pa_cons (pe_listRg (by rfl) (by rfl) T.b_list (prg_2 (by rfl) T.b_range pe_int (pv 1))) pa_nil)))))
      (pss_cons (ps_set (i := 5) sc_Lrenamed.nd rfl (by first | exact Or.inl rfl | exact Or.inr rfl) (pe_callTy (T := "tuple") call_tuple_of (by rfl) T.b_tuple (by decide +kernel) (pa_cons (pe_lc (own := [("_law_one", 6), ("_law_other", 7)]) (g := (gTup K 2 (gCons (gName 6) (gCons (gName 7) gNil)))) (tt := tYes) (te := (tTup (tCons (tOp (rIxL K) (tVar 4) (tVar 6)) (tCons (tOp (rIxL K) (tVar 4) (tVar 7)) tNil)))) (by rfl) sc_Lrenamed.nd (pi_list (pv 2)) (blkOk_by (own := [("_law_one", 6), ("_law_other", 7)]) (N := ["_law_hand_here", "_law_many", "_law_pairs", "_law_goals", "_law_number", "_law_arrows", "_law_one", "_law_other", "_law_goal"]) (sc := defScope s_Lrenamed) (by decide +kernel)) (fun _ _ _ _ _ => (pg_tup (by rfl) (pgs_cons (pg_name (i := 6) sc_Lrenamed.nd rfl (by first | exact Or.inl rfl | exact Or.inr rfl)) (pgs_cons (pg_name (i := 7) sc_Lrenamed.nd rfl (by first | exact Or.inl rfl | exact Or.inr rfl)) pgs_nil)))) (fun _ _ _ _ _ => pts_nil) (fun _ _ _ _ _ => (pe_tup (pa_cons (pe_ix ix_list (pv 4) (pv 6) (fun _ _ => rfl)) (pa_cons (pe_ix ix_list (pv 4) (pv 7) (fun _ _ => rfl)) pa_nil))))) pa_nil)))
      (pss_one (ps_ret (pe_tup (pa_cons (pv 1) (pa_cons (pv 5) (pa_cons (pe_callTy (T := "tuple") call_tuple_of (by rfl) T.b_tuple (by decide +kernel) (pa_cons (pe_callB (id := "sorted") cr_sortedI (by rfl) T.b_sorted (by decide +kernel) (pa_cons (pe_lc (own := [("_law_goal", 8)]) (g := (gName 8)) (tt := tYes) (te := (tOp (rIxL K) (tVar 4) (tVar 8))) (by rfl) sc_Lrenamed.nd (pi_list (pv 3)) (blkOk_by (own := [("_law_goal", 8)]) (N := ["_law_hand_here", "_law_many", "_law_pairs", "_law_goals", "_law_number", "_law_arrows", "_law_one", "_law_other", "_law_goal"]) (sc := defScope s_Lrenamed) (by decide +kernel)) (fun _ _ _ _ _ => (pg_name (i := 8) sc_Lrenamed.nd rfl (by first | exact Or.inl rfl | exact Or.inr rfl))) (fun _ _ _ _ _ => pts_nil) (fun _ _ _ _ _ => (pe_ix ix_list (pv 4) (pv 8) (fun _ _ => rfl)))) pa_nil)) pa_nil)) pa_nil)))))))), ?_⟩
    -- number = [0] + shuffled(list(range(1, many)))
    refine ⟨line_le (by show 1 ≤ _; omega), fun z hz => ?_⟩
    have s1 : Same H (upd H z (.lst [.int 0])) := Same.new hz
    have hz1 : (upd H z (.lst [.int 0])) z = some (.lst [.int 0]) := upd_same
    generalize upd H z (.lst [.int 0]) = H1 at *
    refine ⟨_, rfl, _, rfl, 1, (n : Int), rfl, rfl, ⟨by omega, by omega, by omega, by omega, by omega⟩, fun t ht => ?_⟩
    rw [rg_one]
    have s2 : Same H1 (upd H1 t (.lst (iVs ((List.range n).drop 1)))) := Same.new ht
    have ht2 : (upd H1 t (.lst (iVs ((List.range n).drop 1)))) t = some (.lst (iVs ((List.range n).drop 1))) := upd_same
    generalize upd H1 t (.lst (iVs ((List.range n).drop 1))) = H2 at *
    have s12 := s1.trans s2
    refine ⟨h, c, t, _, rfl, hH.same s12, SqL.of ht2, by rw [iVs_len, List.length_drop, List.length_range]; omega, fun H3 l ys S3 hH3 hl0 hl hperm => ?_⟩
    obtain ⟨ms, rfl, hms⟩ := iVs_perm hperm
    have S03 := (SameB.of (h := h) s12).trans S3
    have hzh := hH.nh hz
    have hz3 := S3 _ _ (s2 _ _ hz1) hzh
    refine ⟨z, l, _, _, rfl, rfl, hz3, hl, line_le (by rw [iVs_len, hms.length_eq, List.length_drop, List.length_range]; show 1 + _ ≤ _; omega), fun u hu => ?_⟩
    have s4 : Same H3 (upd H3 u (.lst ([.int 0] ++ iVs ms))) := Same.new hu
    have hu4 : (upd H3 u (.lst ([.int 0] ++ iVs ms))) u = some (.lst (iVs (0 :: ms))) := by
      rw [upd_same]
      rfl
    generalize upd H3 u (.lst ([.int 0] ++ iVs ms)) = H4 at *
    have S04 := S03.trans (SameB.of s4)
    have hH4 := hH3.same s4
    have hP : (0 :: ms).Perm (List.range n) := (perm_range hms).resolve_right (by omega)
    obtain ⟨hlen, hlt, hinj⟩ := perm_inj hP
    have hget : ∀ i, i < n → (iVs (0 :: ms))[i]? = some (V.int (((0 :: ms).getD i 0 : Nat) : Int)) := fun i hi => by
      rw [iVs_get, List.getD_eq_getElem?_getD, List.getElem?_eq_getElem (by omega)]
      rfl
    have h00 : (0 :: ms).getD 0 0 = 0 := rfl
    generalize hr0 : (0 :: ms) = rs at *
    have fit2 := M.fit.map (fun i => rs.getD i 0) h00 hlt hinj
    dsimp only [gName]
    -- arrows
    have kt4 : Kt H H4 := S04.kt hH.lst.choose_spec
    have hp4 := S04 _ _ hp hph
    refine ⟨_, rfl, p, rfl, ⟨_, SqL.of hp4⟩, fun D hD => lcL (R := AN) (fun _ _ _ _ k a => AN.kt k a) (outM es fun e => (rs.getD e.1 0, rs.getD e.2 0)) hD (SqL.of hp4) (outM_0 _ _) (fun i => Nat.lt_of_le_of_lt (outM_len _ _ _) (by omega)) ?_ ?_⟩
    · intro i x H5 N hi5 s5 Nx
      obtain ⟨e, he, b, rfl, hb⟩ := (hX.kt (kt4.trans (Kt.same s5))).get hi5
      have hel := M.fit.lt e (List.mem_of_getElem? he)
      refine ⟨b, _, rfl, SqT.of hb, rfl, _, _, rfl, _, _, rfl, rfl, rfl, yesGo ?_⟩
      refine ⟨_, rfl, _, rfl, u, _, (e.1 : Int), _, rfl, rfl, SqL.of (s5 _ _ hu4), atI_nat (hget _ hel.1), _, rfl, _, rfl, u, _, (e.2 : Int), _, rfl, rfl, SqL.of (s5 _ _ hu4), atI_nat (hget _ hel.2), line_le (by show 2 ≤ _; omega), fun b2 hb2 => ?_⟩
      exact Nx.yes _ _ _ (Same.new hb2) ⟨b2, rfl, upd_same⟩ (outM_1 he)
    · intro H5 zs s5 hD5 r5
      rw [hX.len, outM_all (Nat.le_refl _)] at r5
      refine ⟨D, zs, rfl, .inl ⟨SqL.of hD5, fun a ha => ?_⟩⟩
      have s6 : Same H5 (upd H5 a (.tup zs)) := Same.new ha
      have ha6 : (upd H5 a (.tup zs)) a = some (.tup zs) := upd_same
      have r6 := ANs.kt (Kt.same s6) r5
      generalize upd H5 a (.tup zs) = H6 at *
      have s46 := s5.trans s6
      have S06 := S04.trans (SameB.of s46)
      have hq6 := S06 _ _ hq hqh
      dsimp only [gName]
      refine ⟨_, rfl, _, rfl, _, rfl, q, rfl, ⟨_, SqL.of hq6⟩, fun D2 hD2 => lcL (R := NV) NV.kt (outM [g] fun i => rs.getD i 0) hD2 (SqL.of hq6) (outM_0 _ _) (fun i => Nat.lt_of_le_of_lt (outM_len _ _ _) (by show 1 < _; omega)) ?_ ?_⟩
      · intro i x H7 N hi7 s7 Nx
        have hi7 : (iVs [g])[i]? = some x := hi7
        rw [iVs_get] at hi7
        obtain ⟨g', hg', rfl⟩ := Option.map_eq_some_iff.mp hi7
        have hgg : g' = g := by simpa using List.mem_of_getElem? hg'
        refine ⟨rfl, yesGo ?_⟩
        refine ⟨_, rfl, _, rfl, u, _, (g' : Int), _, rfl, rfl, SqL.of (s7 _ _ (s46 _ _ hu4)), atI_nat (hget _ (by rw [hgg]; exact M.fit.gn)), ?_⟩
        exact Nx.yes H7 _ _ (Same.refl _) rfl (outM_1 hg')
      · intro H7 ws s7 hD7 r7
        have e7 : ws = iVs [rs.getD g 0] := nv_map r7
        subst e7
        refine ⟨D2, [((rs.getD g 0 : Nat) : Int)], rfl, SqL.of hD7, fun ns' p' hperm' _ hp' => ?_⟩
        have en : ns' = [((rs.getD g 0 : Nat) : Int)] := List.perm_singleton.mp hperm'
        subst en
        have s8 : Same H7 (upd H7 p' (.lst ([((rs.getD g 0 : Nat) : Int)].map V.int))) := Same.new hp'
        have hp8 : (upd H7 p' (.lst ([((rs.getD g 0 : Nat) : Int)].map V.int))) p' = some (.lst (iVs [rs.getD g 0])) := upd_same
        generalize upd H7 p' (.lst ([((rs.getD g 0 : Nat) : Int)].map V.int)) = H8 at *
        refine ⟨p', _, rfl, .inl ⟨SqL.of hp8, fun c' hc' => ?_⟩⟩
        have s9 : Same H8 (upd H8 c' (.tup (iVs [rs.getD g 0]))) := Same.new hc'
        have hc9 : (upd H8 c' (.tup (iVs [rs.getD g 0]))) c' = some (.tup (iVs [rs.getD g 0])) := upd_same
        generalize upd H8 c' (.tup (iVs [rs.getD g 0])) = H9 at *
        refine ⟨line_le (by show 3 ≤ _; omega), fun t' ht' => ?_⟩
        have s10 : Same H9 (upd H9 t' (.tup [.int (n : Int), .ref a, .ref c'])) := Same.new ht'
        have s69 := (s7.trans s8).trans s9
        have S := (S06.trans (SameB.of s69)).trans (SameB.of s10)
        refine qq _ _ S ((hH4.same s46).same (s69.trans s10)) ⟨_, n, _, ⟨t', .ref a, c', rfl, upd_same, ⟨a, zs, rfl, s10 _ _ (s69 _ _ ha6), r6.kt (Kt.same (s69.trans s10))⟩, s10 _ _ hc9⟩, ⟨fit2, hn2, hn12, by rw [List.length_map]; exact hes⟩⟩
end
end Ut
/-! _law_parts. -/
namespace Ut
open PySem PySem.Spec PyProof.Rows L2
theorem if_by {c : TT} {t u : TS} {D : Ends} {σ : L2.St} {H : Hp} (P : Hp → Prop) (h2 : ∀ H', P H' → t D σ H') (h1 : (∀ H', P H' → t D σ H') → tIfS c t u D σ H) : tIfS c t u D σ H := h1 h2
/-- below b, and every head can be come to -/
def Fine (es : Arr) (b : Nat) : Prop := (∀ e ∈ es, e.1 < b ∧ e.2 < b ∧ e.1 ≠ e.2) ∧ ∀ R : Nat → Prop, R 0 → (∀ e ∈ es, R e.1 → R e.2) → ∀ e ∈ es, R e.2
theorem Fine.nil (b : Nat) : Fine [] b := ⟨fun e h => absurd h (by simp), fun R _ _ e h => absurd h (by simp)⟩
theorem Fine.up {es : Arr} {b : Nat} (h : Fine es b) : Fine es (b + 1) := ⟨fun e he => ⟨Nat.lt_succ_of_lt (h.1 e he).1, Nat.lt_succ_of_lt (h.1 e he).2.1, (h.1 e he).2.2⟩, h.2⟩
theorem Fine.snoc {es : Arr} {b t : Nat} (h : Fine es b) (hb : 0 < b) (ht : t = 0 ∨ ∃ e ∈ es, e.2 = t) : Fine (es ++ [(t, b)]) (b + 1) := by
  have htb : t < b := by
    rcases ht with rfl | ⟨e, he, rfl⟩
    · exact hb
    · exact (h.1 e he).2.1
  refine ⟨fun e he => ?_, fun R h0 hc e he => ?_⟩
  · rcases List.mem_append.mp he with he | he
    · exact h.up.1 e he
    · have : e = (t, b) := by simpa using he
      subst this
      exact ⟨by show t < b + 1; omega, by show b < b + 1; omega, by show t ≠ b; omega⟩
  · have hall := h.2 R h0 fun e he => hc e (List.mem_append_left _ he)
    rcases List.mem_append.mp he with he | he
    · exact hall e he
    · have : e = (t, b) := by simpa using he
      subst this
      refine hc _ (List.mem_append_right _ (List.mem_singleton.mpr rfl)) ?_
      rcases ht with rfl | ⟨e, he2, rfl⟩
      · exact h0
      · exact hall e he2
theorem Fine.fit {es : Arr} {n g : Nat} (h : Fine es n) (g0 : g ≠ 0) (gn : g < n) (hg : ∃ e ∈ es, e.2 = g) : Fit n es g :=
  ⟨fun e he => ⟨(h.1 e he).1, (h.1 e he).2.1⟩, fun e he => (h.1 e he).2.2, fun R h0 hc => by
    obtain ⟨e, he, rfl⟩ := hg
    exact h.2 R h0 hc e he, g0, gn⟩
theorem Fit.snoc {es : Arr} {n g a b : Nat} (h : Fit n es g) (ha : a < n) (hb : b < n) (hne : a ≠ b) : Fit n (es ++ [(a, b)]) g := by
  refine ⟨fun e he => ?_, fun e he => ?_, fun R h0 hc => h.leads R h0 fun e he => hc e (List.mem_append_left _ he), h.g0, h.gn⟩
  · rcases List.mem_append.mp he with he | he
    · exact h.lt e he
    · have : e = (a, b) := by simpa using he
      subst this
      exact ⟨ha, hb⟩
  · rcases List.mem_append.mp he with he | he
    · exact h.ne e he
    · have : e = (a, b) := by simpa using he
      subst this
      exact hne
theorem Fit.ne_nil {es : Arr} {n g : Nat} (h : Fit n es g) : 0 < es.length := by
  cases es with
  | nil => exact absurd (h.leads (fun p => p = 0) rfl fun e he => absurd he (by simp)) h.g0
  | cons _ _ => simp
theorem mod_ne {o d n : Nat} (ho : o < n) (hd : d + 1 < n) : (o + 1 + d) % n < n ∧ o ≠ (o + 1 + d) % n := by
  by_cases h : o + 1 + d < n
  · rw [Nat.mod_eq_of_lt h]
    omega
  · rw [Nat.mod_eq_sub_mod (by omega), Nat.mod_eq_of_lt (by omega)]
    omega
theorem modC (o d n : Nat) : ((o : Int) + 1 + (d : Int)) % (n : Int) = (((o + 1 + d) % n : Nat) : Int) := by
  rw [Int.natCast_emod]
  congr 1
theorem AN.new {H : Hp} {p : Addr} {a b : Nat} : AN (upd H p (.tup [.int (a : Int), .int (b : Int)])) (.ref p) (a, b) := ⟨p, rfl, upd_same⟩
/-- the state within the second loop -/
def PSt (h c q p : Addr) (r : Nat) (H0 : Hp) (xs : List V) (es : Arr) (w : V) (y7 y8 : Option V) (σ : L2.St) (H' : Hp) : Prop := ∃ a b : Nat, σ = [some (.ref h), some (.int 5), some (.int 8), some (.int 1), some (.int ((r + 2 : Nat) : Int)), some (.ref q), some (.ref p), y7, y8, some w, some (.int (a : Int)), some (.int (b : Int))] ∧
  SameB h H0 H' ∧ Hand H' h c ∧ H' q = some (.lst (iVs [r + 1])) ∧ H' p = some (.lst xs) ∧ ANs H' xs es ∧ a < r + 2 ∧ b < r + 2 ∧ a ≠ b
section
variable {P : Program} {w : World} {K : PySem.W.Frag} {mg : Str → Option Value} {base : Heap}
def sp_Lparts : Sp := fun vs H Q _ => ∃ (h c : Addr), vs = [.ref h, .int 5, .int 8, .int 1] ∧ Hand H h c ∧ ∀ H' v, SameB h H H' → Hand H' h c → Drawn H' v → Q v H'
theorem cd_Lparts (T : Tx K mg) : Cd P w K mg base CX0 "_law_parts" 4 ["_law_hand_here", "_law_places", "_law_arrows", "_law_most"] sp_Lparts := by
  have G_Ldraw : Cd P w K mg base CX0 "_law_draw" 1 ["_law_hand_here", "_law_many"] sp_Ldraw := cd_Ldraw T
  have G_Lshuffled : Cd P w K mg base CX0 "_law_shuffled" 2 ["_law_hand_here", "_law_things"] (sp_Lshuffled K) := cd_Lshuffled T
  have G_Ltail : Cd P w K mg base CX0 "_law_tail" 2 ["_law_hand_here", "_law_pairs", "_law_goals", "_law_place"] sp_Ltail := cd_Ltail T
  have G_Lrenamed : Cd P w K mg base CX0 "_law_renamed" 3 ["_law_hand_here", "_law_many", "_law_pairs", "_law_goals"] sp_Lrenamed := cd_Lrenamed T
  refine Cd.of T.d_Lparts (fun _ _ _ _ _ _ us hl => match us, hl with | [_, _, _, _], _ => rfl) fun f fd F => ?_
  refine F.ok sc_Lparts (fun vs H Q E h => ?_) (fun cdv A outer s H vs Q E hr h => ?_)
  · obtain ⟨h, c, rfl, _⟩ := h
    rfl
  · obtain ⟨h, c, rfl, hH, qq⟩ := h
    refine ⟨_, (pss_cons (ps_set (i := 4) sc_Lparts.nd rfl (by first | exact Or.inl rfl | exact Or.inr rfl) (pe_op op_add pe_int (pe_callD G_Ldraw (hr.mono (by decide)) pass0 (pa_cons (pv 0) (pa_cons (pe_op op_sub (pv 1) pe_int) pa_nil)))))
      (pss_cons (ps_set (i := 5) sc_Lparts.nd rfl (by first | exact Or.inl rfl | exact Or.inr rfl) (pe_lst (pa_cons (pe_op op_sub (pv 4) pe_int) pa_nil)))
      (pss_cons (ps_if (PW.pt (pw_and (pt_cmpR op_gt (pv 3) pe_int (nomark _)) (pw_and (pt_cmpR op_gt (pv 4) pe_int (nomark _)) (pw_and1 (pt_cmpR op_eq (pe_callD G_Ldraw (hr.mono (by decide)) pass0 (pa_cons (pv 0) (pa_cons pe_int pa_nil))) pe_int (nomark _)))))) (pss_one (ps_set (i := 5) sc_Lparts.nd rfl (by first | exact Or.inl rfl | exact Or.inr rfl) (pe_listRg (by rfl) (by rfl) T.b_list (prg_2 (by rfl) T.b_range (pe_op op_sub (pe_op op_sub (pv 4) pe_int) (pe_callD G_Ldraw (hr.mono (by decide)) pass0 (pa_cons (pv 0) (pa_cons (pe_callB (id := "min") (call_min2 (by rfl)) (by rfl) T.b_min (by decide +kernel) (pa_cons pe_int (pa_cons (pe_op op_sub (pv 4) pe_int) pa_nil))) pa_nil)))) (pv 4))))) pss_nil)
      (pss_cons (ps_set (i := 6) sc_Lparts.nd rfl (by first | exact Or.inl rfl | exact Or.inr rfl) (pe_lst pa_nil))
      (pss_cons (ps_for PassesOwn.never rfl (pi_range2 (by rfl) T.b_range (pa_cons pe_int (pa_cons (pv 4) pa_nil))) (pg_name (i := 7) sc_Lparts.nd rfl (by first | exact Or.inl rfl | exact Or.inr rfl))
      (pss_one (ps_if (PW.pt (pw_or (pt_cmpR op_in_seq (pv 7) (pv 5) rfl) (pw_or1 (pt_cmpR op_gt (pe_callD G_Ldraw (hr.mono (by decide)) pass0 (pa_cons (pv 0) (pa_cons pe_int pa_nil))) pe_int (nomark _))))) (pss_one (ps_expr (pe_bm PySem.F.plainAttrs_list PySem.F.slot_list_append PySem.F.type_list_append mt_append (pv 6) (pa_cons (pe_tup (pa_cons (pe_callD G_Ltail (hr.mono (by decide)) pass0 (pa_cons (pv 0) (pa_cons (pv 6) (pa_cons (pv 5) (pa_cons (pv 7) pa_nil))))) (pa_cons (pv 7) pa_nil))) pa_nil)))) pss_nil)))
      (pss_cons (ps_for PassesOwn.never rfl (pi_range1 (by rfl) T.b_range (pa_cons (pe_callD G_Ldraw (hr.mono (by decide)) pass0 (pa_cons (pv 0) (pa_cons (pe_op op_add (pe_callB (id := "max") (call_max2 (by rfl)) (by rfl) T.b_max (by decide +kernel) (pa_cons pe_int (pa_cons (pe_op op_sub (pv 2) (pe_callB (id := "len") call_lenU (by rfl) T.b_len (by decide +kernel) (pa_cons (pv 6) pa_nil))) pa_nil))) pe_int) pa_nil))) pa_nil)) (pg_name (i := 8) sc_Lparts.nd rfl (by first | exact Or.inl rfl | exact Or.inr rfl))
      (pss_cons (ps_set (i := 9) sc_Lparts.nd rfl (by first | exact Or.inl rfl | exact Or.inr rfl) (pe_callD G_Ldraw (hr.mono (by decide)) pass0 (pa_cons (pv 0) (pa_cons pe_int pa_nil))))
      (pss_cons (ps_set (i := 10) sc_Lparts.nd rfl (by first | exact Or.inl rfl | exact Or.inr rfl) (pe_callD G_Ldraw (hr.mono (by decide)) pass0 (pa_cons (pv 0) (pa_cons (pv 4) pa_nil))))
      (pss_cons (ps_set (i := 11) sc_Lparts.nd rfl (by first | exact Or.inl rfl | exact Or.inr rfl) (pe_op op_mod (pe_op op_add (pe_op op_add (pv 10) pe_int) (pe_callD G_Ldraw (hr.mono (by decide)) pass0 (pa_cons (pv 0) (pa_cons (pe_op op_sub (pv 4) pe_int) pa_nil)))) (pv 4)))
      (pss_cons (ps_if (pt_cmpR op_eq (pv 9) pe_int (nomark _)) (pss_one (ps_asg (pe_ix ix_list (pv 6) (pe_callD G_Ldraw (hr.mono (by decide)) pass0 (pa_cons (pv 0) (pa_cons (pe_callB (id := "len") call_lenU (by rfl) T.b_len (by decide +kernel) (pa_cons (pv 6) pa_nil)) pa_nil))) (fun _ _ => rfl)) (pg_tup (by rfl) (pgs_cons (pg_name (i := 10) sc_Lparts.nd rfl (by first | exact Or.inl rfl | exact Or.inr rfl)) (pgs_cons (pg_name (i := 11) sc_Lparts.nd rfl (by first | exact Or.inl rfl | exact Or.inr rfl)) pgs_nil))))) pss_nil)
      (pss_cons (ps_if (pt_cmpR op_eq (pv 9) pe_int (nomark _)) (pss_one (ps_asg (pe_ix ix_list (pv 6) (pe_callD G_Ldraw (hr.mono (by decide)) pass0 (pa_cons (pv 0) (pa_cons (pe_callB (id := "len") call_lenU (by rfl) T.b_len (by decide +kernel) (pa_cons (pv 6) pa_nil)) pa_nil))) (fun _ _ => rfl)) (pg_tup (by rfl) (pgs_cons (pg_name (i := 11) sc_Lparts.nd rfl (by first | exact Or.inl rfl | exact Or.inr rfl)) (pgs_cons (pg_name (i := 10) sc_Lparts.nd rfl (by first | exact Or.inl rfl | exact Or.inr rfl)) pgs_nil))))) pss_nil)
      (pss_cons (ps_if (PW.pt (pw_and (pt_cmpR op_gt (pv 9) pe_int (nomark _)) (pw_and1 (pt_cmpR op_eq (pv 11) pe_int (nomark _))))) (pss_one (ps_par (i := 10) (j := 11) (by rfl) sc_Lparts.nd rfl rfl (by decide) rfl rfl (pa_cons pe_int (pa_cons (pv 10) pa_nil)) (by rfl))) pss_nil)
      (pss_one (ps_expr (pe_bm PySem.F.plainAttrs_list PySem.F.slot_list_append PySem.F.type_list_append mt_append (pv 6) (pa_cons (pe_tup (pa_cons (pv 10) (pa_cons (pv 11) pa_nil))) pa_nil)))))))))))
      (pss_one (ps_ret (pe_callD G_Lrenamed (hr.mono (by decide)) pass0 (pa_cons (pv 0) (pa_cons (pv 4) (pa_cons (pe_callD G_Lshuffled (hr.mono (by decide)) pass0 (pa_cons (pv 0) (pa_cons (pv 6) pa_nil))) (pa_cons (pv 5) pa_nil))))))))))))), ?_⟩
    -- many = 2 + draw(places - 1)
    refine ⟨_, rfl, _, rfl, _, _, rfl, rfl, h, c, _, rfl, hH, by decide, by decide, fun H1 r S1 hH1 hr => ⟨_, _, rfl, rfl, ?_⟩⟩
    have hr4 : r < 4 := by omega
    have en : (2 : Int) + (r : Int) = ((r + 2 : Nat) : Int) := by omega
    simp only [gName, en]
    -- goals = [many - 1]
    refine ⟨_, rfl, _, _, rfl, rfl, line_le (by show 1 ≤ _; omega), fun q hq => ?_⟩
    have eg : ((r + 2 : Nat) : Int) - 1 = ((r + 1 : Nat) : Int) := by omega
    simp only [eg]
    have s2 : Same H1 (upd H1 q (.lst [.int ((r + 1 : Nat) : Int)])) := Same.new hq
    have hq2 : (upd H1 q (.lst [.int ((r + 1 : Nat) : Int)])) q = some (.lst (iVs [r + 1])) := upd_same
    generalize upd H1 q (.lst [.int ((r + 1 : Nat) : Int)]) = H2 at *
    dsimp only [gName]
    refine ⟨_, rfl, _, _, rfl, rfl, _, rfl, ?_⟩
    rw [decide_eq_false (by omega : ¬ (1 : Int) < 1)]
    refine iteF (iteF ?_)
    refine ⟨line_le (by show 0 ≤ _; omega), fun p hp => ?_⟩
    have s3 : Same H2 (upd H2 p (.lst [])) := Same.new hp
    have hp3 : (upd H2 p (.lst [])) p = some (.lst []) := upd_same
    generalize upd H2 p (.lst []) = H3 at *
    have S3 := (S1.trans (SameB.of s2)).trans (SameB.of s3)
    have hH3 := (hH1.same s2).same s3
    have hqh : q ≠ h := hH1.nh hq
    have hph : p ≠ h := (hH1.same s2).nh hp
    have hqp : q ≠ p := ne_of_none hq2 hp
    have hq0 : H q = none := S1.free hq hqh
    have hp0 : H p = none := (S1.trans (SameB.of s2)).free hp hph
    dsimp only [gName]
    -- for place in range(1, many)
    refine ⟨_, rfl, 1, ((r + 2 : Nat) : Int), rfl, ⟨by omega, by omega, by omega, by omega⟩, ?_⟩
    rw [show (((r + 2 : Nat) : Int) - 1).toNat = r + 1 by omega]
    refine for_range (lo := 1) (n := r + 1) (fun i σ H4 => ∃ (y7 : Option V) (xs : List V) (es : Arr), σ = [some (.ref h), some (.int 5), some (.int 8), some (.int 1), some (.int ((r + 2 : Nat) : Int)), some (.ref q), some (.ref p), y7, none, none, none, none] ∧
        SameB h H H4 ∧ Hand H4 h c ∧ H4 q = some (.lst (iVs [r + 1])) ∧ H4 p = some (.lst xs) ∧ ANs H4 xs es ∧ es.length ≤ i ∧ Fine es (i + 1) ∧ (i = r + 1 → ∃ e ∈ es, e.2 = r + 1))
      ⟨none, [], [], rfl, S3, hH3, s3 _ _ hq2, hp3, .nil, Nat.le_refl _, Fine.nil _, fun e => by omega⟩ ?_ ?_
    · rintro i σ H4 hi ⟨y7, xs, es, rfl, S4, hH4, hq4, hp4, hX, hel, hF, _⟩
      have ei : (1 : Int) + (i : Int) = ((i + 1 : Nat) : Int) := by omega
      simp only [ei]
      dsimp only [gName]
      refine if_by (fun H' => SameB h H H' ∧ Hand H' h c ∧ H' q = some (.lst (iVs [r + 1])) ∧ H' p = some (.lst xs) ∧ ANs H' xs es) ?_ ?_
      · rintro H5 ⟨S5, hH5, hq5, hp5, hX5⟩
        refine ⟨_, rfl, .inl ⟨rfl, _, SqL.of hp5⟩, _, rfl, _, rfl, _, rfl, _, rfl, h, c, p, q, xs, es, r + 1, i + 1, rfl, hH5, hph, hqh, hp5, hX5, hq5, by omega, by omega, fun H6 t S6 hH6 ht => ⟨_, rfl, line_le (by show 2 ≤ _; omega), fun a ha => ?_⟩⟩
        have hp6 := S6 _ _ hp5 hph
        have hq6 := S6 _ _ hq5 hqh
        have hX6 := hX5.kt (S6.kt hH5.lst.choose_spec)
        have s7 : Same H6 (upd H6 a (.tup [.int (t : Int), .int ((i + 1 : Nat) : Int)])) := Same.new ha
        have hA : AN (upd H6 a (.tup [.int (t : Int), .int ((i + 1 : Nat) : Int)])) (.ref a) (t, i + 1) := AN.new
        generalize upd H6 a (.tup [.int (t : Int), .int ((i + 1 : Nat) : Int)]) = H7 at *
        have hp7 := s7 _ _ hp6
        refine ⟨p, xs, _, rfl, rfl, hp7, line_lt (by rw [hX.len]; omega), ?_⟩
        have k8 : Kt H7 (upd H7 p (.lst (xs ++ [.ref a]))) := Kt.lst hp7
        refine ⟨_, xs ++ [.ref a], es ++ [(t, i + 1)], rfl, ((S5.trans S6).trans (SameB.of s7)).mut hp0, (hH6.same s7).mut hph (hH.nc hp0), ?_, upd_same, ?_, ?_, hF.snoc (by omega) ht, fun e => ⟨(t, i + 1), by simp, by show i + 1 = _; omega⟩⟩
        · rw [upd_ne hqp]
          exact s7 _ _ hq6
        · exact ((hX6.kt (Kt.same s7)).kt k8).snoc (hA.kt k8)
        · rw [List.length_append]
          show es.length + 1 ≤ _
          omega
      · intro go
        refine ⟨_, rfl, _, rfl, q, _, rfl, .inl (SqL.of hq4), rfl, iVs_flat _, _, rfl, ?_⟩
        have e2 : (if false = true then !inV (V.int ((i + 1 : Nat) : Int)) (iVs [r + 1]) else inV (V.int ((i + 1 : Nat) : Int)) (iVs [r + 1])) = decide (i = r) := by
          rw [if_neg Bool.false_ne_true, inV_iff, List.contains_cons]
          by_cases e : i = r <;> simp [e]
        rw [e2]
        by_cases hir : i = r
        · rw [decide_eq_true hir]
          exact iteT (iteT (go _ ⟨S4, hH4, hq4, hp4, hX⟩))
        · rw [decide_eq_false hir]
          refine iteF ?_
          refine ⟨_, rfl, h, c, 6, rfl, hH4, by decide, by decide, fun H5 r5 S5 hH5 hr5 => ⟨_, _, rfl, rfl, _, rfl, ?_⟩⟩
          have k5 : Kt H4 H5 := S5.kt hH4.lst.choose_spec
          have st : SameB h H H5 ∧ Hand H5 h c ∧ H5 q = some (.lst (iVs [r + 1])) ∧ H5 p = some (.lst xs) ∧ ANs H5 xs es := ⟨S4.trans S5, hH5, S5 _ _ hq4 hqh, S5 _ _ hp4 hph, hX.kt k5⟩
          cases hb : decide ((0 : Int) < (r5 : Int)) with
          | true => exact iteT (go _ st)
          | false =>
            refine iteF ?_
            exact ⟨_, xs, es, rfl, st.1, st.2.1, st.2.2.1, st.2.2.2.1, st.2.2.2.2, by omega, hF.up, fun e => by omega⟩
    · rintro σ H4 ⟨y7, xs, es, rfl, S4, hH4, hq4, hp4, hX, hel, hF, hg⟩
      have fit := hF.fit (g := r + 1) (by omega) (by omega) (hg rfl)
      have hxl := hX.len
      -- for turn in range(draw(max(1, arrows - len(pairs)) + 1))
      refine ⟨_, rfl, _, rfl, _, rfl, p, _, rfl, .inl (SqL.of hp4), _, _, rfl, rfl, 1, _, rfl, _, _, rfl, rfl, h, c, _, rfl, hH4, ?_, ?_, fun H5 u S5 hH5 hu => ?_⟩
      · split <;> omega
      · split <;> omega
      have hu8 : u + es.length ≤ 8 := by
        split at hu <;> omega
      refine ⟨(u : Int), rfl, by omega, by omega, for_range (lo := 0) (n := u) (fun i σ H6 => ∃ (y8 y9 y10 y11 : Option V) (xs : List V) (es' : Arr), σ = [some (.ref h), some (.int 5), some (.int 8), some (.int 1), some (.int ((r + 2 : Nat) : Int)), some (.ref q), some (.ref p), y7, y8, y9, y10, y11] ∧
          SameB h H H6 ∧ Hand H6 h c ∧ H6 q = some (.lst (iVs [r + 1])) ∧ H6 p = some (.lst xs) ∧ ANs H6 xs es' ∧ es'.length ≤ es.length + i ∧ Fit (r + 2) es' (r + 1))
        ⟨_, _, _, _, xs, es, rfl, S4.trans S5, hH5, S5 _ _ hq4 hqh, S5 _ _ hp4 hph, hX.kt (S5.kt hH4.lst.choose_spec), Nat.le_refl _, fit⟩ ?_ ?_⟩
      · clear hX hxl hp4 fit hq4
        rintro i σ H6 hi ⟨y8, y9, y10, y11, xs, es', rfl, S6, hH6, hq6, hp6, hX, hel', fit⟩
        dsimp only [gName]
        refine ⟨_, rfl, h, c, 5, rfl, hH6, by decide, by decide, fun H7 wy S7 hH7 hwy => ?_⟩
        dsimp only [gName]
        refine ⟨_, rfl, _, rfl, h, c, _, rfl, hH7, by omega, by omega, fun H8 o S8 hH8 ho => ?_⟩
        dsimp only [gName]
        refine ⟨_, rfl, _, _, rfl, rfl, _, rfl, _, rfl, _, _, rfl, rfl, h, c, _, rfl, hH8, by omega, by omega, fun H9 d S9 hH9 hd => ⟨_, _, rfl, rfl, _, rfl, _, _, rfl, rfl, (by show (0 : Int) < _; omega), ?_⟩⟩
        have ho2 : o < r + 2 := by omega
        have hd2 : d + 1 < r + 2 := by omega
        obtain ⟨m1, m2⟩ := mod_ne ho2 hd2
        simp only [modC]
        generalize (o + 1 + d) % (r + 2) = ot at *
        have S69 := (S7.trans S8).trans S9
        have k69 : Kt H6 H9 := S69.kt hH6.lst.choose_spec
        have hpos := fit.ne_nil
        have hxl := hX.len
        dsimp only [gName]
        refine seq_by (PSt h c q p r H xs es' (.int (wy : Int)) y7 (some (.int (0 + (i : Int))))) ?_ ?_
        · rintro σ H10 ⟨a, b, rfl, S10, hH10, hq10, hp10, hX10, ha, hb, hab⟩
          refine seq_by (PSt h c q p r H xs es' (.int (wy : Int)) y7 (some (.int (0 + (i : Int))))) ?_ ?_
          · rintro σ H11 ⟨a, b, rfl, S11, hH11, hq11, hp11, hX11, ha, hb, hab⟩
            refine seq_by (PSt h c q p r H xs es' (.int (wy : Int)) y7 (some (.int (0 + (i : Int))))) ?_ ?_
            · rintro σ H12 ⟨a, b, rfl, S12, hH12, hq12, hp12, hX12, ha, hb, hab⟩
              refine ⟨_, rfl, .inl ⟨rfl, _, SqL.of hp12⟩, _, rfl, _, rfl, line_le (by show 2 ≤ _; omega), fun a2 ha2 => ?_⟩
              have s13 : Same H12 (upd H12 a2 (.tup [.int (a : Int), .int (b : Int)])) := Same.new ha2
              have hA : AN (upd H12 a2 (.tup [.int (a : Int), .int (b : Int)])) (.ref a2) (a, b) := AN.new
              generalize upd H12 a2 (.tup [.int (a : Int), .int (b : Int)]) = H13 at *
              have hp13 := s13 _ _ hp12
              refine ⟨p, xs, _, rfl, rfl, hp13, line_lt (by omega), ?_⟩
              have k14 : Kt H13 (upd H13 p (.lst (xs ++ [.ref a2]))) := Kt.lst hp13
              refine ⟨_, _, _, _, xs ++ [.ref a2], es' ++ [(a, b)], rfl, (S12.trans (SameB.of s13)).mut hp0, (hH12.same s13).mut hph (hH.nc hp0), ?_, upd_same, ?_, ?_, fit.snoc ha hb hab⟩
              · rw [upd_ne hqp]
                exact s13 _ _ hq12
              · exact ((hX12.kt (Kt.same s13)).kt k14).snoc (hA.kt k14)
              · rw [List.length_append]
                show es'.length + 1 ≤ _
                omega
            · intro go
              refine ⟨_, rfl, _, _, rfl, rfl, _, rfl, ?_⟩
              cases hb1 : decide ((2 : Int) < (wy : Int)) with
              | false => exact iteF (iteF (go _ _ ⟨a, b, rfl, S11, hH11, hq11, hp11, hX11, ha, hb, hab⟩))
              | true =>
                refine iteT ?_
                refine ⟨_, rfl, rfl, _, rfl, ?_⟩
                by_cases hb0 : b = 0
                · rw [decide_eq_true (show V.int (b : Int) = V.int 0 by rw [hb0]; rfl)]
                  refine iteT ?_
                  refine ⟨_, rfl, _, _, rfl, ?_⟩
                  exact go _ _ ⟨0, a, rfl, S11, hH11, hq11, hp11, hX11, by omega, ha, by omega⟩
                · rw [decide_eq_false (fun e => hb0 (by have := V.int.inj e; omega))]
                  exact iteF (go _ _ ⟨a, b, rfl, S11, hH11, hq11, hp11, hX11, ha, hb, hab⟩)
          · intro go
            refine ⟨_, rfl, rfl, _, rfl, ?_⟩
            cases hb1 : decide (V.int (wy : Int) = V.int 1) with
            | false => exact iteF (go _ _ ⟨a, b, rfl, S10, hH10, hq10, hp10, hX10, ha, hb, hab⟩)
            | true =>
              refine iteT ?_
              refine ⟨_, rfl, _, rfl, _, rfl, p, _, rfl, .inl (SqL.of hp10), h, c, _, rfl, hH10, by omega, by omega, fun H11 k S11 hH11 hk => ?_⟩
              have k11 : Kt H10 H11 := S11.kt hH10.lst.choose_spec
              have hkl : k < xs.length := by omega
              have hX11 := hX10.kt k11
              obtain ⟨e, he, b1, hb1e, hbt⟩ := hX11.get (List.getElem?_eq_getElem hkl)
              have hel := fit.lt e (List.mem_of_getElem? he)
              have hen := fit.ne e (List.mem_of_getElem? he)
              refine ⟨p, xs, (k : Int), .ref b1, rfl, rfl, SqL.of (S11 _ _ hp10 hph), atI_nat (by rw [List.getElem?_eq_getElem hkl, hb1e]), b1, _, rfl, SqT.of hbt, rfl, _, _, rfl, _, _, rfl, rfl, ?_⟩
              exact go _ _ ⟨e.2, e.1, rfl, S10.trans S11, hH11, S11 _ _ hq10 hqh, S11 _ _ hp10 hph, hX11, hel.2, hel.1, fun z => hen z.symm⟩
        · intro go
          have st : PSt h c q p r H xs es' (.int (wy : Int)) y7 (some (.int (0 + (i : Int)))) _ H9 := ⟨o, ot, rfl, S6.trans S69, hH9, S69 _ _ hq6 hqh, S69 _ _ hp6 hph, hX.kt k69, ho2, m1, m2⟩
          refine ⟨_, rfl, rfl, _, rfl, ?_⟩
          cases hb1 : decide (V.int (wy : Int) = V.int 0) with
          | false => exact iteF (go _ _ st)
          | true =>
            refine iteT ?_
            have hp9 := S69 _ _ hp6 hph
            refine ⟨_, rfl, _, rfl, _, rfl, p, _, rfl, .inl (SqL.of hp9), h, c, _, rfl, hH9, by omega, by omega, fun H11 k S11 hH11 hk => ?_⟩
            have k11 : Kt H9 H11 := S11.kt hH9.lst.choose_spec
            have hkl : k < xs.length := by omega
            have hX11 := (hX.kt k69).kt k11
            obtain ⟨e, he, b1, hb1e, hbt⟩ := hX11.get (List.getElem?_eq_getElem hkl)
            have hel := fit.lt e (List.mem_of_getElem? he)
            have hen := fit.ne e (List.mem_of_getElem? he)
            refine ⟨p, xs, (k : Int), .ref b1, rfl, rfl, SqL.of (S11 _ _ hp9 hph), atI_nat (by rw [List.getElem?_eq_getElem hkl, hb1e]), b1, _, rfl, SqT.of hbt, rfl, _, _, rfl, _, _, rfl, rfl, ?_⟩
            exact go _ _ ⟨e.1, e.2, rfl, (S6.trans S69).trans S11, hH11, S11 _ _ (S69 _ _ hq6 hqh) hqh, S11 _ _ hp9 hph, hX11, hel.1, hel.2, hen⟩
      · rintro σ H6 ⟨y8, y9, y10, y11, xs, es', rfl, S6, hH6, hq6, hp6, hX6, hel', fit'⟩
        have hxl6 := hX6.len
        refine ⟨_, rfl, _, rfl, _, rfl, _, rfl, h, c, p, xs, rfl, hH6, SqL.of hp6, by omega, fun H7 l ys S7 hH7 hl0 hl hperm => ?_⟩
        obtain ⟨es2, p2, hY⟩ := All2.perm hperm (hX6.kt (S7.kt hH6.lst.choose_spec))
        refine ⟨_, rfl, h, c, l, q, r + 2, r + 1, ys, es2, rfl, hH7, hH6.nh hl0, hqh, hl, hY, S7 _ _ hq6 hqh, ⟨fit'.perm p2, by omega, by omega, by rw [p2.length_eq]; omega⟩, fun H8 v S8 hH8 hD => ?_⟩
        exact qq H8 v ((S6.trans S7).trans S8) hH8 hD
end
end Ut
/-! _law_rails, _law_bundles. -/
namespace Ut
open PySem PySem.Spec PyProof.Rows L2
theorem Fine.snoc1 {es : Arr} {b t z : Nat} (h : Fine es b) (htb : t < b) (hz : z < b) (hne : t ≠ z) (ht : t = 0 ∨ ∃ e ∈ es, e.2 = t) : Fine (es ++ [(t, z)]) b := by
  refine ⟨fun e he => ?_, fun R h0 hc e he => ?_⟩
  · rcases List.mem_append.mp he with he | he
    · exact h.1 e he
    · have : e = (t, z) := by simpa using he
      subst this
      exact ⟨htb, hz, hne⟩
  · have hall := h.2 R h0 fun e he => hc e (List.mem_append_left _ he)
    rcases List.mem_append.mp he with he | he
    · exact hall e he
    · have : e = (t, z) := by simpa using he
      subst this
      refine hc _ (List.mem_append_right _ (List.mem_singleton.mpr rfl)) ?_
      rcases ht with rfl | ⟨e, he2, rfl⟩
      · exact h0
      · exact hall e he2
def ext2 (i : Nat) : Nat := if i < 2 then i else 2
theorem ext2_y {i : Nat} (h : i < 2) : ext2 (i + 1) = ext2 i + 1 := by
  unfold ext2
  rw [if_pos h]
  split <;> omega
theorem ext2_n {i : Nat} (h : ¬ i < 2) : ext2 (i + 1) = ext2 i := by
  unfold ext2
  rw [if_neg h, if_neg (by omega)]
theorem ext2_le (i : Nat) : ext2 i ≤ 2 := by
  unfold ext2
  split <;> omega
section
variable {P : Program} {w : World} {K : PySem.W.Frag} {mg : Str → Option Value} {base : Heap}
def sp_Lrails : Sp := fun vs H Q _ => ∃ (h c : Addr), vs = [.ref h] ∧ Hand H h c ∧ ∀ H' v, SameB h H H' → Hand H' h c → Drawn H' v → Q v H'
theorem cd_Lrails (T : Tx K mg) : Cd P w K mg base CX0 "_law_rails" 4 ["_law_hand_here"] sp_Lrails := by
  have G_Ldraw : Cd P w K mg base CX0 "_law_draw" 1 ["_law_hand_here", "_law_many"] sp_Ldraw := cd_Ldraw T
  have G_Lshuffled : Cd P w K mg base CX0 "_law_shuffled" 2 ["_law_hand_here", "_law_things"] (sp_Lshuffled K) := cd_Lshuffled T
  have G_Lrenamed : Cd P w K mg base CX0 "_law_renamed" 3 ["_law_hand_here", "_law_many", "_law_pairs", "_law_goals"] sp_Lrenamed := cd_Lrenamed T
  refine Cd.of T.d_Lrails (fun _ _ _ _ _ _ us hl => match us, hl with | [_], _ => rfl) fun f fd F => ?_
  refine F.ok sc_Lrails (fun vs H Q E h => ?_) (fun cdv A outer s H vs Q E hr h => ?_)
  · obtain ⟨h, c, rfl, _⟩ := h
    rfl
  · obtain ⟨h, c, rfl, hH, qq⟩ := h
    refine ⟨_, (pss_cons (ps_set (i := 1) sc_Lrails.nd rfl (by first | exact Or.inl rfl | exact Or.inr rfl) (pe_lst pa_nil))
      (pss_cons (ps_set (i := 2) sc_Lrails.nd rfl (by first | exact Or.inl rfl | exact Or.inr rfl) pe_int)
      (pss_cons (ps_for PassesOwn.never rfl (pi_range1 (by rfl) T.b_range (pa_cons (pe_op op_add pe_int (pe_callD G_Ldraw (hr.mono (by decide)) pass0 (pa_cons (pv 0) (pa_cons pe_int pa_nil)))) pa_nil)) (pg_name (i := 3) sc_Lrails.nd rfl (by first | exact Or.inl rfl | exact Or.inr rfl))
      (pss_cons (ps_set (i := 4) sc_Lrails.nd rfl (by first | exact Or.inl rfl | exact Or.inr rfl) pe_int)
      (pss_cons (ps_for PassesOwn.never rfl (pi_range1 (by rfl) T.b_range (pa_cons (pe_callD G_Ldraw (hr.mono (by decide)) pass0 (pa_cons (pv 0) (pa_cons (pe_op op_add pe_int (pe_callTy (T := "int") call_intU (by rfl) T.b_int (by decide +kernel) (pa_cons (pe_cmpR op_lt (pv 3) pe_int (nomark _)) pa_nil))) pa_nil))) pa_nil)) (pg_name (i := 5) sc_Lrails.nd rfl (by first | exact Or.inl rfl | exact Or.inr rfl))
      (pss_cons (ps_expr (pe_bm PySem.F.plainAttrs_list PySem.F.slot_list_append PySem.F.type_list_append mt_append (pv 1) (pa_cons (pe_tup (pa_cons (pv 4) (pa_cons (pv 2) pa_nil))) pa_nil)))
      (pss_cons (ps_set (i := 4) sc_Lrails.nd rfl (by first | exact Or.inl rfl | exact Or.inr rfl) (pv 2))
      (pss_one (ps_set (i := 2) sc_Lrails.nd rfl (by first | exact Or.inl rfl | exact Or.inr rfl) (pe_op op_add (pv 2) pe_int))))))
      (pss_one (ps_expr (pe_bm PySem.F.plainAttrs_list PySem.F.slot_list_append PySem.F.type_list_append mt_append (pv 1) (pa_cons (pe_tup (pa_cons (pv 4) (pa_cons pe_int pa_nil))) pa_nil)))))))
      (pss_cons (ps_for PassesOwn.never rfl (pi_range1 (by rfl) T.b_range (pa_cons (pe_callD G_Ldraw (hr.mono (by decide)) pass0 (pa_cons (pv 0) (pa_cons pe_int pa_nil))) pa_nil)) (pg_name (i := 3) sc_Lrails.nd rfl (by first | exact Or.inl rfl | exact Or.inr rfl))
      (pss_cons (ps_set (i := 6) sc_Lrails.nd rfl (by first | exact Or.inl rfl | exact Or.inr rfl) (pe_callD G_Ldraw (hr.mono (by decide)) pass0 (pa_cons (pv 0) (pa_cons (pv 2) pa_nil))))
      (pss_one (ps_expr (pe_bm PySem.F.plainAttrs_list PySem.F.slot_list_append PySem.F.type_list_append mt_append (pv 1) (pa_cons (pe_tup (pa_cons (pv 6) (pa_cons (pe_op op_mod (pe_op op_add (pe_op op_add (pv 6) pe_int) (pe_callD G_Ldraw (hr.mono (by decide)) pass0 (pa_cons (pv 0) (pa_cons (pe_op op_sub (pv 2) pe_int) pa_nil)))) (pv 2)) pa_nil))) pa_nil))))))
      (pss_one (ps_ret (pe_callD G_Lrenamed (hr.mono (by decide)) pass0 (pa_cons (pv 0) (pa_cons (pv 2) (pa_cons (pe_callD G_Lshuffled (hr.mono (by decide)) pass0 (pa_cons (pv 0) (pa_cons (pv 1) pa_nil))) (pa_cons (pe_lst (pa_cons pe_int pa_nil)) pa_nil))))))))))), ?_⟩
    refine ⟨line_le (by show 0 ≤ _; omega), fun p hp => ?_⟩
    have s1 : Same H (upd H p (.lst [])) := Same.new hp
    have hp1 : (upd H p (.lst [])) p = some (.lst []) := upd_same
    generalize upd H p (.lst []) = H1 at *
    have hH1 := hH.same s1
    have hph : p ≠ h := hH.nh hp
    dsimp only [gName]
    refine ⟨_, rfl, h, c, 5, rfl, hH1, by decide, by decide, fun H2 u S2 hH2 hu => ⟨_, _, rfl, rfl, _, rfl, by omega, by omega, ?_⟩⟩
    rw [show ((1 : Int) + (u : Int)).toNat = u + 1 by omega]
    refine for_range (lo := 0) (n := u + 1) (fun i σ H3 => ∃ (y3 y4 y5 : Option V) (xs : List V) (es : Arr) (L : Nat), σ = [some (.ref h), some (.ref p), some (.int (L : Int)), y3, y4, y5, none] ∧ SameB h H H3 ∧ Hand H3 h c ∧ H3 p = some (.lst xs) ∧ ANs H3 xs es ∧
        Fine es L ∧ 2 ≤ L ∧ L ≤ 2 + i + ext2 i ∧ es.length ≤ 2 * i + ext2 i ∧ (0 < i → ∃ e ∈ es, e.2 = 1))
      ⟨none, none, none, [], [], 2, rfl, (SameB.of s1).trans S2, hH2, S2 _ _ hp1 hph, .nil, Fine.nil _, by omega, by omega, by show 0 ≤ _; omega, fun e => by omega⟩ ?_ ?_
    · rintro i σ H3 hi ⟨y3, y4, y5, xs, es, L, rfl, S3, hH3, hp3, hX, hF, hL2, hL, hel, h1⟩
      dsimp only [gName]
      refine ⟨_, rfl, _, rfl, _, _, rfl, rfl, .inr ⟨_, rfl, _, _, rfl, rfl, h, c, _, rfl, hH3, by split <;> omega, by split <;> omega, fun H4 v S4 hH4 hv => ?_⟩⟩
      have hx := ext2_le i
      have hx' := ext2_le (i + 1)
      have hv2 : v + ext2 i ≤ 1 + ext2 (i + 1) := by
        by_cases q : i < 2
        · rw [ext2_y q]
          rw [decide_eq_true (by omega : (0 : Int) + (i : Int) < 2), if_pos rfl] at hv
          omega
        · rw [ext2_n q]
          rw [decide_eq_false (by omega : ¬ (0 : Int) + (i : Int) < 2), if_neg Bool.false_ne_true] at hv
          omega
      refine ⟨(v : Int), rfl, by omega, by omega, for_range (lo := 0) (n := v) (fun j σ H5 => ∃ (y5 : Option V) (xs : List V) (es' : Arr) (L' t : Nat), σ = [some (.ref h), some (.ref p), some (.int (L' : Int)), some (.int (0 + (i : Int))), some (.int (t : Int)), y5, none] ∧ SameB h H H5 ∧ Hand H5 h c ∧ H5 p = some (.lst xs) ∧ ANs H5 xs es' ∧
          Fine es' L' ∧ L' = L + j ∧ es'.length = es.length + j ∧ t < L' ∧ t ≠ 1 ∧ (t = 0 ∨ ∃ e ∈ es', e.2 = t) ∧ ∀ e ∈ es, e ∈ es')
        ⟨y5, xs, es, L, 0, rfl, S3.trans S4, hH4, S4 _ _ hp3 hph, hX.kt (S4.kt hH3.lst.choose_spec), hF, rfl, rfl, by omega, by omega, .inl rfl, fun e he => he⟩ ?_ ?_⟩
      · clear hX hp3
        rintro j σ H5 hj ⟨y5, xs, es', L', t, rfl, S5, hH5, hp5, hX, hF', hL', hel', htl, ht1, ht, hsub⟩
        have hxl := hX.len
        refine ⟨_, rfl, .inl ⟨rfl, _, SqL.of hp5⟩, _, rfl, _, rfl, line_le (by show 2 ≤ _; omega), fun a ha => ?_⟩
        have s6 : Same H5 (upd H5 a (.tup [.int (t : Int), .int (L' : Int)])) := Same.new ha
        have hA : AN (upd H5 a (.tup [.int (t : Int), .int (L' : Int)])) (.ref a) (t, L') := AN.new
        generalize upd H5 a (.tup [.int (t : Int), .int (L' : Int)]) = H6 at *
        have hp6 := s6 _ _ hp5
        refine ⟨p, xs, _, rfl, rfl, hp6, line_lt (by omega), ?_⟩
        have k7 : Kt H6 (upd H6 p (.lst (xs ++ [.ref a]))) := Kt.lst hp6
        refine ⟨_, rfl, _, rfl, _, _, rfl, rfl, ?_⟩
        refine ⟨_, xs ++ [.ref a], es' ++ [(t, L')], L' + 1, L', rfl, (S5.trans (SameB.of s6)).mut hp, (hH5.same s6).mut hph (hH.nc hp), upd_same, ((hX.kt (Kt.same s6)).kt k7).snoc (hA.kt k7), hF'.snoc (by omega) ht, by omega, ?_, by omega, by omega, .inr ⟨(t, L'), by simp, rfl⟩, fun e he => List.mem_append_left _ (hsub e he)⟩
        rw [List.length_append]
        show es'.length + 1 = _
        omega
      · rintro σ H5 ⟨y5, xs, es', L', t, rfl, S5, hH5, hp5, hX5, hF', hL', hel', htl, ht1, ht, hsub⟩
        have hxl := hX5.len
        refine ⟨_, rfl, .inl ⟨rfl, _, SqL.of hp5⟩, _, rfl, line_le (by show 2 ≤ _; omega), fun a ha => ?_⟩
        have s6 : Same H5 (upd H5 a (.tup [.int (t : Int), .int 1])) := Same.new ha
        have hA : AN (upd H5 a (.tup [.int (t : Int), .int 1])) (.ref a) (t, 1) := ⟨a, rfl, upd_same⟩
        generalize upd H5 a (.tup [.int (t : Int), .int 1]) = H6 at *
        have hp6 := s6 _ _ hp5
        refine ⟨p, xs, _, rfl, rfl, hp6, line_lt (by omega), ?_⟩
        have k7 : Kt H6 (upd H6 p (.lst (xs ++ [.ref a]))) := Kt.lst hp6
        refine ⟨_, _, _, xs ++ [.ref a], es' ++ [(t, 1)], L', rfl, (S5.trans (SameB.of s6)).mut hp, (hH5.same s6).mut hph (hH.nc hp), upd_same, ((hX5.kt (Kt.same s6)).kt k7).snoc (hA.kt k7), hF'.snoc1 htl (by omega) ht1 ht, by omega, by omega, ?_, fun _ => ⟨(t, 1), by simp, rfl⟩⟩
        rw [List.length_append]
        show es'.length + 1 ≤ _
        omega
    · rintro σ H3 ⟨y3, y4, y5, xs, es, L, rfl, S3, hH3, hp3, hX3, hF, hL2, hL, hel, h1⟩
      have fit := hF.fit (g := 1) (by omega) (by omega) (h1 (by omega))
      have hx2 := ext2_le (u + 1)
      have hL11 : L ≤ 11 := by omega
      have hel14 : es.length ≤ 14 := by omega
      refine ⟨_, rfl, h, c, 3, rfl, hH3, by decide, by decide, fun H4 v S4 hH4 hv => ⟨(v : Int), rfl, by omega, by omega, for_range (lo := 0) (n := v) (fun j σ H5 => ∃ (y3 y6 : Option V) (xs : List V) (es' : Arr), σ = [some (.ref h), some (.ref p), some (.int (L : Int)), y3, y4, y5, y6] ∧ SameB h H H5 ∧ Hand H5 h c ∧ H5 p = some (.lst xs) ∧ ANs H5 xs es' ∧
          es'.length ≤ es.length + j ∧ Fit L es' 1)
        ⟨y3, none, xs, es, rfl, S3.trans S4, hH4, S4 _ _ hp3 hph, hX3.kt (S4.kt hH3.lst.choose_spec), Nat.le_refl _, fit⟩ ?_ ?_⟩⟩
      · rintro j σ H5 hj ⟨y3, y6, xs, es', rfl, S5, hH5, hp5, hX, hel', fit⟩
        have hxl := hX.len
        dsimp only [gName]
        refine ⟨_, rfl, _, rfl, h, c, _, rfl, hH5, by omega, by omega, fun H6 o S6 hH6 ho => ?_⟩
        have hp6 := S6 _ _ hp5 hph
        dsimp only [gName]
        refine ⟨_, rfl, .inl ⟨rfl, _, SqL.of hp6⟩, _, rfl, _, rfl, _, _, rfl, rfl, _, rfl, _, rfl, _, _, rfl, rfl, h, c, _, rfl, hH6, by omega, by omega, fun H7 d S7 hH7 hd => ⟨_, _, rfl, rfl, _, rfl, _, _, rfl, rfl, (by show (0 : Int) < _; omega), line_le (by show 2 ≤ _; omega), fun a ha => ?_⟩⟩
        simp only [modC] at *
        obtain ⟨m1, m2⟩ := mod_ne (o := o) (d := d) (n := L) (by omega) (by omega)
        generalize (o + 1 + d) % L = ot at *
        have S57 := S6.trans S7
        have k57 : Kt H5 H7 := S57.kt hH5.lst.choose_spec
        have s8 : Same H7 (upd H7 a (.tup [.int (o : Int), .int (ot : Int)])) := Same.new ha
        have hA : AN (upd H7 a (.tup [.int (o : Int), .int (ot : Int)])) (.ref a) (o, ot) := AN.new
        have hp8 : (upd H7 a (.tup [.int (o : Int), .int (ot : Int)])) p = some (.lst xs) := s8 _ _ (S57 _ _ hp5 hph)
        generalize upd H7 a (.tup [.int (o : Int), .int (ot : Int)]) = H8 at *
        refine ⟨p, xs, _, rfl, rfl, hp8, line_lt (by omega), ?_⟩
        have k9 : Kt H8 (upd H8 p (.lst (xs ++ [.ref a]))) := Kt.lst hp8
        refine ⟨_, _, xs ++ [.ref a], es' ++ [(o, ot)], rfl, ((S5.trans S57).trans (SameB.of s8)).mut hp, (hH7.same s8).mut hph (hH.nc hp), upd_same, (((hX.kt k57).kt (Kt.same s8)).kt k9).snoc (hA.kt k9), ?_, fit.snoc (by omega) m1 m2⟩
        rw [List.length_append]
        show es'.length + 1 ≤ _
        omega
      · rintro σ H5 ⟨y3, y6, xs, es', rfl, S5, hH5, hp5, hX, hel', fit⟩
        have hxl := hX.len
        refine ⟨_, rfl, _, rfl, _, rfl, _, rfl, h, c, p, xs, rfl, hH5, SqL.of hp5, by omega, fun H7 l ys S7 hH7 hl0 hl hperm => ⟨line_le (by show 1 ≤ _; omega), fun q hq => ?_⟩⟩
        obtain ⟨es2, p2, hY⟩ := All2.perm hperm (hX.kt (S7.kt hH5.lst.choose_spec))
        have s8 : Same H7 (upd H7 q (.lst [.int 1])) := Same.new hq
        refine ⟨h, c, l, q, L, 1, ys, es2, rfl, hH7.same s8, hH5.nh hl0, hH7.nh hq, s8 _ _ hl, ANs.kt (Kt.same s8) hY, upd_same, ⟨fit.perm p2, hL2, by omega, by rw [p2.length_eq]; omega⟩, fun H9 v9 S9 hH9 hD => ?_⟩
        exact qq H9 v9 (((S5.trans S7).trans (SameB.of s8)).trans S9) hH9 hD
end
end Ut
/-! _law_bundles, _law_drawn. -/
namespace Ut
open PySem PySem.Spec PyProof.Rows L2
theorem rep_ans {H : Hp} {v : V} {e : Nat × Nat} (h : AN H v e) : ∀ k : Nat, ANs H (List.replicate k [v]).flatten (List.replicate k e)
  | 0 => .nil
  | k + 1 => by
    rw [List.replicate_succ, List.replicate_succ, List.flatten_cons]
    exact .cons h (rep_ans h k)
theorem rep_len {v : V} : ∀ k : Nat, (List.replicate k [v]).flatten.length = k
  | 0 => rfl
  | k + 1 => by
    rw [List.replicate_succ, List.flatten_cons, List.length_append, rep_len k]
    show 1 + k = k + 1
    omega
structure SzOk (ss : List Nat) : Prop where
  l3 : ss.length ≤ 3
  l0 : 0 < ss.length
  pos : ∀ x ∈ ss, 0 < x
  sum : ss.sum ≤ 12
theorem SzOk.perm {ss ms : List Nat} (h : SzOk ss) (p : ms.Perm ss) : SzOk ms := ⟨by rw [p.length_eq]; exact h.l3, by rw [p.length_eq]; exact h.l0, fun x hx => h.pos x (p.mem_iff.mp hx), by rw [p.sum_nat]; exact h.sum⟩
theorem take_sum (ss : List Nat) (i : Nat) : (ss.take i).sum ≤ ss.sum := by
  have e : ss.sum = (ss.take i).sum + (ss.drop i).sum := by rw [← List.sum_append, List.take_append_drop]
  omega
/-- the arrows of the bundles so far -/
structure Bn (G i : Nat) (es : Arr) : Prop where
  lt : ∀ e ∈ es, e.1 < G + 1 ∧ e.2 < G + 1
  ne : ∀ e ∈ es, e.1 ≠ e.2
  up : ∀ k, k < i → (k, k + 1) ∈ es
theorem Bn.fit {G : Nat} {es : Arr} (h : Bn G G es) (g0 : G ≠ 0) : Fit (G + 1) es G := by
  refine ⟨h.lt, h.ne, fun R h0 hc => ?_, g0, by omega⟩
  have : ∀ k, k ≤ G → R k := by
    intro k
    induction k with
    | zero => exact fun _ => h0
    | succ k ih => exact fun hk => hc _ (h.up k (by omega)) (ih (by omega))
  exact this G (Nat.le_refl _)
theorem Bn.more {G i z : Nat} {es : Arr} (h : Bn G i es) (hz : 0 < z) (hi : i < G) : Bn G (i + 1) (es ++ List.replicate z (i, i + 1)) := by
  refine ⟨fun e he => ?_, fun e he => ?_, fun k hk => ?_⟩
  · rcases List.mem_append.mp he with he | he
    · exact h.lt e he
    · rw [List.eq_of_mem_replicate he]
      exact ⟨by show i < _; omega, by show i + 1 < _; omega⟩
  · rcases List.mem_append.mp he with he | he
    · exact h.ne e he
    · rw [List.eq_of_mem_replicate he]
      show i ≠ i + 1
      omega
  · by_cases e : k = i
    · rw [e]
      exact List.mem_append_right _ (List.mem_replicate.mpr ⟨by omega, rfl⟩)
    · exact List.mem_append_left _ (h.up k (by omega))
section
variable {P : Program} {w : World} {K : PySem.W.Frag} {mg : Str → Option Value} {base : Heap}
def sp_Lbundles : Sp := fun vs H Q _ => ∃ (h c s : Addr) (m : Nat) (ss : List Nat), vs = [.ref h, .ref s, .int (m : Int)] ∧ Hand H h c ∧ s ≠ h ∧ H s = some (.lst (iVs ss)) ∧ SzOk ss ∧ m ≤ 2 ∧ ∀ H' v, SameB h H H' → Hand H' h c → Drawn H' v → Q v H'
theorem cd_Lbundles (T : Tx K mg) : Cd P w K mg base CX0 "_law_bundles" 4 ["_law_hand_here", "_law_sizes", "_law_more"] sp_Lbundles := by
  have G_Lshuffled : Cd P w K mg base CX0 "_law_shuffled" 2 ["_law_hand_here", "_law_things"] (sp_Lshuffled K) := cd_Lshuffled T
  have G_Lrenamed : Cd P w K mg base CX0 "_law_renamed" 3 ["_law_hand_here", "_law_many", "_law_pairs", "_law_goals"] sp_Lrenamed := cd_Lrenamed T
  refine Cd.of T.d_Lbundles (fun _ _ _ _ _ _ us hl => match us, hl with | [_, _, _], _ => rfl) fun f fd F => ?_
  refine F.ok sc_Lbundles (fun vs H Q E h => ?_) (fun cdv A outer s H vs Q E hr h => ?_)
  · obtain ⟨h, c, s, m, ss, rfl, _⟩ := h
    rfl
  · obtain ⟨h, c, s, m, ss, rfl, hH, hsh, hs, Z, hm, qq⟩ := h
    have hl3 := Z.l3
    have hl0 := Z.l0
    have hsum := Z.sum
    refine ⟨_, (pss_cons (ps_set (i := 3) sc_Lbundles.nd rfl (by first | exact Or.inl rfl | exact Or.inr rfl) (pe_callB (id := "len") call_lenU (by rfl) T.b_len (by decide +kernel) (pa_cons (pv 1) pa_nil)))
      (pss_cons (ps_set (i := 4) sc_Lbundles.nd rfl (by first | exact Or.inl rfl | exact Or.inr rfl) (pe_op op_rep (pe_lst (pa_cons (pe_tup (pa_cons pe_int (pa_cons (pv 3) pa_nil))) pa_nil)) (pv 2)))
      (pss_cons (ps_for PassesOwn.never rfl (pi_range1 (by rfl) T.b_range (pa_cons (pe_callB (id := "len") call_lenU (by rfl) T.b_len (by decide +kernel) (pa_cons (pv 1) pa_nil)) pa_nil)) (pg_name (i := 5) sc_Lbundles.nd rfl (by first | exact Or.inl rfl | exact Or.inr rfl))
      (pss_one (ps_expr (pe_bm PySem.F.plainAttrs_list PySem.F.slot_list_extend PySem.F.type_list_extend mt_extend (pv 4) (pa_cons (pe_op op_rep (pe_lst (pa_cons (pe_tup (pa_cons (pv 5) (pa_cons (pe_op op_add (pv 5) pe_int) pa_nil))) pa_nil)) (pe_ix ix_list (pv 1) (pv 5) (fun _ _ => rfl))) pa_nil)))))
      (pss_one (ps_ret (pe_callD G_Lrenamed (hr.mono (by decide)) pass0 (pa_cons (pv 0) (pa_cons (pe_op op_add (pv 3) pe_int) (pa_cons (pe_callD G_Lshuffled (hr.mono (by decide)) pass0 (pa_cons (pv 0) (pa_cons (pv 4) pa_nil))) (pa_cons (pe_lst (pa_cons (pv 3) pa_nil)) pa_nil)))))))))), ?_⟩
    refine ⟨_, rfl, s, _, rfl, .inl (SqL.of hs), ?_⟩
    simp only [iVs_len]
    generalize hG : ss.length = G at *
    dsimp only [gName]
    -- pairs = [(0, goal)] * more
    refine ⟨_, rfl, line_le (by show 2 ≤ _; omega), fun a ha => ?_⟩
    have s1 : Same H (upd H a (.tup [.int 0, .int (G : Int)])) := Same.new ha
    have hA : AN (upd H a (.tup [.int 0, .int (G : Int)])) (.ref a) (0, G) := ⟨a, rfl, upd_same⟩
    generalize upd H a (.tup [.int 0, .int (G : Int)]) = H1 at *
    refine ⟨line_le (by show 1 ≤ _; omega), fun b hb => ?_⟩
    have s2 : Same H1 (upd H1 b (.lst [.ref a])) := Same.new hb
    have hb2 : (upd H1 b (.lst [.ref a])) b = some (.lst [.ref a]) := upd_same
    generalize upd H1 b (.lst [.ref a]) = H2 at *
    refine ⟨_, rfl, b, (m : Int), [.ref a], rfl, rfl, hb2, by omega, by omega, line_le (by show 1 * (m : Int).toNat ≤ _; omega), fun p hp => ?_⟩
    rw [Int.toNat_natCast]
    have hA2 := rep_ans (hA.kt (Kt.same s2)) m
    have hL2 := rep_len (v := V.ref a) m
    generalize (List.replicate m [V.ref a]).flatten = xs at *
    have s3 : Same H2 (upd H2 p (.lst xs)) := Same.new hp
    have hp3 : (upd H2 p (.lst xs)) p = some (.lst xs) := upd_same
    have hA3 := ANs.kt (Kt.same s3) hA2
    generalize upd H2 p (.lst xs) = H3 at *
    have s03 := (s1.trans s2).trans s3
    have hp0 : H p = none := (s1.trans s2).free hp
    have hph : p ≠ h := hH.nh hp0
    dsimp only [gName]
    refine ⟨_, rfl, s, _, rfl, .inl (SqL.of (s03 _ _ hs)), (G : Int), by rw [iVs_len, hG], by omega, by omega, for_range (lo := 0) (n := G) (fun i σ H4 => ∃ (y5 : Option V) (xs : List V) (es : Arr), σ = [some (.ref h), some (.ref s), some (.int (m : Int)), some (.int (G : Int)), some (.ref p), y5] ∧ Same H H4 ∧ H4 p = some (.lst xs) ∧ ANs H4 xs es ∧
        es.length = m + (ss.take i).sum ∧ Bn G i es)
      ⟨none, xs, _, rfl, s03, hp3, hA3, by simp, ⟨fun e he => ?_, fun e he => ?_, fun k hk => by omega⟩⟩ ?_ ?_⟩
    · rw [List.eq_of_mem_replicate he]
      exact ⟨by show 0 < _; omega, by show G < _; omega⟩
    · rw [List.eq_of_mem_replicate he]
      show 0 ≠ G
      omega
    · clear hA3 hp3 hL2 hA2
      rintro i σ H4 hi ⟨y5, xs, es, rfl, s4, hp4, hX, hel, hB⟩
      have hxl := hX.len
      have hil : i < ss.length := by omega
      have hget : ss[i]? = some ss[i] := List.getElem?_eq_getElem hil
      have hpos := Z.pos _ (List.getElem_mem hil)
      have htk : (ss.take (i + 1)).sum = (ss.take i).sum + ss[i] := by
        rw [List.take_add_one, hget, List.sum_append]
        simp
      have hts := take_sum ss (i + 1)
      generalize ss[i] = z at *
      have ei : (0 : Int) + (i : Int) = (i : Int) := Int.zero_add _
      simp only [ei]
      dsimp only [gName]
      refine ⟨_, rfl, .inl ⟨rfl, _, SqL.of hp4⟩, _, rfl, _, rfl, _, _, rfl, rfl, line_le (by show 2 ≤ _; omega), fun a ha => ?_⟩
      have s5 : Same H4 (upd H4 a (.tup [.int (i : Int), .int ((i : Int) + 1)])) := Same.new ha
      have hA : AN (upd H4 a (.tup [.int (i : Int), .int ((i : Int) + 1)])) (.ref a) (i, i + 1) := ⟨a, rfl, upd_same⟩
      generalize upd H4 a (.tup [.int (i : Int), .int ((i : Int) + 1)]) = H5 at *
      refine ⟨line_le (by show 1 ≤ _; omega), fun b hb => ?_⟩
      have s6 : Same H5 (upd H5 b (.lst [.ref a])) := Same.new hb
      have hb6 : (upd H5 b (.lst [.ref a])) b = some (.lst [.ref a]) := upd_same
      generalize upd H5 b (.lst [.ref a]) = H6 at *
      have s46 := s5.trans s6
      refine ⟨_, rfl, _, rfl, s, iVs ss, (i : Int), .int (z : Int), rfl, rfl, SqL.of (s46 _ _ (s4 _ _ hs)), atI_nat (by rw [iVs_get, hget]; rfl), b, (z : Int), [.ref a], rfl, rfl, hb6, by omega, by omega, line_le (by show 1 * (z : Int).toNat ≤ _; omega), fun d hd => ?_⟩
      rw [Int.toNat_natCast]
      have hA6 := rep_ans (hA.kt (Kt.same s6)) z
      have hL6 := rep_len (v := V.ref a) z
      generalize (List.replicate z [V.ref a]).flatten = ys at *
      have s7 : Same H6 (upd H6 d (.lst ys)) := Same.new hd
      have hd7 : (upd H6 d (.lst ys)) d = some (.lst ys) := upd_same
      have hA7 := ANs.kt (Kt.same s7) hA6
      generalize upd H6 d (.lst ys) = H7 at *
      have s47 := s46.trans s7
      refine ⟨p, d, xs, ys, rfl, rfl, s47 _ _ hp4, hd7, line_le (by omega), ?_⟩
      have k8 : Kt H7 (upd H7 p (.lst (xs ++ ys))) := Kt.lst (s47 _ _ hp4)
      refine ⟨_, xs ++ ys, es ++ List.replicate z (i, i + 1), rfl, (s4.trans s47).mut hp0, upd_same, ANs.kt k8 ((hX.kt (Kt.same s47)).app hA7), ?_, hB.more hpos hi⟩
      rw [List.length_append, List.length_replicate, htk]
      omega
    · rintro σ H4 ⟨y5, xs, es, rfl, s4, hp4, hX, hel, hB⟩
      have hxl := hX.len
      have hts := take_sum ss G
      have fit := hB.fit (by omega)
      have hH4 := hH.same s4
      refine ⟨_, rfl, _, rfl, _, _, rfl, rfl, _, rfl, _, rfl, h, c, p, xs, rfl, hH4, SqL.of hp4, by omega, fun H7 l ys S7 hH7 hl0 hl hperm => ⟨_, rfl, line_le (by show 1 ≤ _; omega), fun q hq => ?_⟩⟩
      obtain ⟨es2, p2, hY⟩ := All2.perm hperm (hX.kt (S7.kt hH4.lst.choose_spec))
      have s8 : Same H7 (upd H7 q (.lst [.int (G : Int)])) := Same.new hq
      refine ⟨h, c, l, q, G + 1, G, ys, es2, rfl, hH7.same s8, hH4.nh hl0, hH7.nh hq, s8 _ _ hl, ANs.kt (Kt.same s8) hY, upd_same, ⟨fit.perm p2, by omega, by omega, by rw [p2.length_eq]; omega⟩, fun H9 v9 S9 hH9 hD => ?_⟩
      exact qq H9 v9 ((((SameB.of s4).trans S7).trans (SameB.of s8)).trans S9) hH9 hD
def sp_Ldrawn : Sp := fun vs H Q _ => ∃ (h c : Addr), vs = [.ref h] ∧ Hand H h c ∧ ∀ H' v, SameB h H H' → Hand H' h c → Drawn H' v → Q v H'
theorem cd_Ldrawn (T : Tx K mg) : Cd P w K mg base CX0 "_law_drawn" 5 ["_law_hand_here"] sp_Ldrawn := by
  have G_Ldraw : Cd P w K mg base CX0 "_law_draw" 1 ["_law_hand_here", "_law_many"] sp_Ldraw := cd_Ldraw T
  have G_Lshuffled : Cd P w K mg base CX0 "_law_shuffled" 2 ["_law_hand_here", "_law_things"] (sp_Lshuffled K) := cd_Lshuffled T
  have G_Lbundles : Cd P w K mg base CX0 "_law_bundles" 4 ["_law_hand_here", "_law_sizes", "_law_more"] sp_Lbundles := cd_Lbundles T
  have G_Lparts : Cd P w K mg base CX0 "_law_parts" 4 ["_law_hand_here", "_law_places", "_law_arrows", "_law_most"] sp_Lparts := cd_Lparts T
  have G_Lrails : Cd P w K mg base CX0 "_law_rails" 4 ["_law_hand_here"] sp_Lrails := cd_Lrails T
  refine Cd.of T.d_Ldrawn (fun _ _ _ _ _ _ us hl => match us, hl with | [_], _ => rfl) fun f fd F => ?_
  refine F.ok sc_Ldrawn (fun vs H Q E h => ?_) (fun cdv A outer s H vs Q E hr h => ?_)
  · obtain ⟨h, c, rfl, _⟩ := h
    rfl
  · obtain ⟨h, c, rfl, hH, qq⟩ := h
    refine ⟨_, (pss_cons (ps_set (i := 1) sc_Ldrawn.nd rfl (by first | exact Or.inl rfl | exact Or.inr rfl) (pe_callD G_Ldraw (hr.mono (by decide)) pass0 (pa_cons (pv 0) (pa_cons pe_int pa_nil))))
      (pss_cons (ps_if (pt_cmpR op_eq (pv 1) pe_int (nomark _)) (pss_cons (ps_set (i := 2) sc_Ldrawn.nd rfl (by first | exact Or.inl rfl | exact Or.inr rfl) (pe_ix ix_list (pe_lst (pa_cons (pe_lst (pa_cons pe_int (pa_cons pe_int pa_nil))) (pa_cons (pe_lst (pa_cons pe_int (pa_cons pe_int (pa_cons pe_int pa_nil)))) (pa_cons (pe_lst (pa_cons pe_int pa_nil)) (pa_cons (pe_lst (pa_cons pe_int (pa_cons pe_int pa_nil))) (pa_cons (pe_lst (pa_cons pe_int pa_nil)) (pa_cons (pe_lst (pa_cons pe_int (pa_cons pe_int pa_nil))) pa_nil))))))) (pe_callD G_Ldraw (hr.mono (by decide)) pass0 (pa_cons (pv 0) (pa_cons pe_int pa_nil))) (fun _ _ => rfl)))
      (pss_one (ps_ret (pe_callD G_Lbundles (hr.mono (by decide)) pass0 (pa_cons (pv 0) (pa_cons (pe_callD G_Lshuffled (hr.mono (by decide)) pass0 (pa_cons (pv 0) (pa_cons (pv 2) pa_nil))) (pa_cons (pe_callD G_Ldraw (hr.mono (by decide)) pass0 (pa_cons (pv 0) (pa_cons pe_int pa_nil))) pa_nil))))))) pss_nil)
      (pss_cons (ps_if (pt_cmpR op_lt (pv 1) pe_int (nomark _)) (pss_one (ps_ret (pe_callD G_Lparts (hr.mono (by decide)) pass0 (pa_cons (pv 0) (pa_cons pe_int (pa_cons pe_int (pa_cons pe_int pa_nil))))))) pss_nil)
      (pss_one (ps_ret (pe_callD G_Lrails (hr.mono (by decide)) pass0 (pa_cons (pv 0) pa_nil))))))), ?_⟩
    refine ⟨_, rfl, h, c, 6, rfl, hH, by decide, by decide, fun H1 r S1 hH1 hr => ?_⟩
    dsimp only [gName]
    refine ⟨_, rfl, rfl, _, rfl, ?_⟩
    cases hb : decide (V.int (r : Int) = V.int 0) with
    | false =>
      refine iteF ?_
      refine ⟨_, rfl, _, _, rfl, rfl, _, rfl, ?_⟩
      cases hb2 : decide ((r : Int) < 3) with
      | true =>
        refine iteT ?_
        exact ⟨_, rfl, h, c, rfl, hH1, fun H2 v2 S2 hH2 hD => qq _ _ (S1.trans S2) hH2 hD⟩
      | false =>
        refine iteF ?_
        exact ⟨_, rfl, h, c, rfl, hH1, fun H2 v2 S2 hH2 hD => qq _ _ (S1.trans S2) hH2 hD⟩
    | true =>
      refine iteT ?_
      refine ⟨line_le (by show 2 ≤ _; omega), fun l1 h1 => ⟨line_le (by show 3 ≤ _; omega), fun l2 h2 => ⟨line_le (by show 1 ≤ _; omega), fun l3 h3 => ⟨line_le (by show 2 ≤ _; omega), fun l4 h4 => ⟨line_le (by show 1 ≤ _; omega), fun l5 h5 => ⟨line_le (by show 2 ≤ _; omega), fun l6 h6 => ⟨line_le (by show 6 ≤ _; omega), fun l7 h7 => ?_⟩⟩⟩⟩⟩⟩⟩
      have t1 : Same H1 (upd H1 l1 (.lst [.int 3, .int 4])) := Same.new h1
      have g1 : (upd H1 l1 (.lst [.int 3, .int 4])) l1 = some (.lst (iVs [3, 4])) := upd_same
      generalize upd H1 l1 (.lst [.int 3, .int 4]) = A1 at *
      have t2 : Same A1 (upd A1 l2 (.lst [.int 2, .int 2, .int 3])) := Same.new h2
      have g2 : (upd A1 l2 (.lst [.int 2, .int 2, .int 3])) l2 = some (.lst (iVs [2, 2, 3])) := upd_same
      generalize upd A1 l2 (.lst [.int 2, .int 2, .int 3]) = A2 at *
      have t3 : Same A2 (upd A2 l3 (.lst [.int 12])) := Same.new h3
      have g3 : (upd A2 l3 (.lst [.int 12])) l3 = some (.lst (iVs [12])) := upd_same
      generalize upd A2 l3 (.lst [.int 12]) = A3 at *
      have t4 : Same A3 (upd A3 l4 (.lst [.int 2, .int 6])) := Same.new h4
      have g4 : (upd A3 l4 (.lst [.int 2, .int 6])) l4 = some (.lst (iVs [2, 6])) := upd_same
      generalize upd A3 l4 (.lst [.int 2, .int 6]) = A4 at *
      have t5 : Same A4 (upd A4 l5 (.lst [.int 9])) := Same.new h5
      have g5 : (upd A4 l5 (.lst [.int 9])) l5 = some (.lst (iVs [9])) := upd_same
      generalize upd A4 l5 (.lst [.int 9]) = A5 at *
      have t6 : Same A5 (upd A5 l6 (.lst [.int 4, .int 3])) := Same.new h6
      have g6 : (upd A5 l6 (.lst [.int 4, .int 3])) l6 = some (.lst (iVs [4, 3])) := upd_same
      generalize upd A5 l6 (.lst [.int 4, .int 3]) = A6 at *
      have t7 : Same A6 (upd A6 l7 (.lst [.ref l1, .ref l2, .ref l3, .ref l4, .ref l5, .ref l6])) := Same.new h7
      have g7 : (upd A6 l7 (.lst [.ref l1, .ref l2, .ref l3, .ref l4, .ref l5, .ref l6])) l7 = some (.lst [.ref l1, .ref l2, .ref l3, .ref l4, .ref l5, .ref l6]) := upd_same
      generalize upd A6 l7 (.lst [.ref l1, .ref l2, .ref l3, .ref l4, .ref l5, .ref l6]) = A7 at *
      have hA7 : Hand A7 h c := ((((((hH1.same t1).same t2).same t3).same t4).same t5).same t6).same t7
      have t17 : Same H1 A7 := (((((t1.trans t2).trans t3).trans t4).trans t5).trans t6).trans t7
      have hl7 : l7 ≠ h := (((((hH1.same t1).same t2).same t3).same t4).same t5).same t6 |>.nh h7
      have hall : ∀ k, k < 6 → ∃ (l : Addr) (ss : List Nat), [V.ref l1, .ref l2, .ref l3, .ref l4, .ref l5, .ref l6][k]? = some (.ref l) ∧ A7 l = some (.lst (iVs ss)) ∧ SzOk ss ∧ l ≠ h := by
        intro k hk
        have n1 : l1 ≠ h := hH1.nh h1
        have n2 : l2 ≠ h := (hH1.same t1).nh h2
        have n3 : l3 ≠ h := ((hH1.same t1).same t2).nh h3
        have n4 : l4 ≠ h := (((hH1.same t1).same t2).same t3).nh h4
        have n5 : l5 ≠ h := ((((hH1.same t1).same t2).same t3).same t4).nh h5
        have n6 : l6 ≠ h := (((((hH1.same t1).same t2).same t3).same t4).same t5).nh h6
        match k, hk with
        | 0, _ => exact ⟨l1, [3, 4], rfl, t7 _ _ (t6 _ _ (t5 _ _ (t4 _ _ (t3 _ _ (t2 _ _ g1))))), ⟨by decide, by decide, by decide, by decide⟩, n1⟩
        | 1, _ => exact ⟨l2, [2, 2, 3], rfl, t7 _ _ (t6 _ _ (t5 _ _ (t4 _ _ (t3 _ _ g2)))), ⟨by decide, by decide, by decide, by decide⟩, n2⟩
        | 2, _ => exact ⟨l3, [12], rfl, t7 _ _ (t6 _ _ (t5 _ _ (t4 _ _ g3))), ⟨by decide, by decide, by decide, by decide⟩, n3⟩
        | 3, _ => exact ⟨l4, [2, 6], rfl, t7 _ _ (t6 _ _ (t5 _ _ g4)), ⟨by decide, by decide, by decide, by decide⟩, n4⟩
        | 4, _ => exact ⟨l5, [9], rfl, t7 _ _ (t6 _ _ g5), ⟨by decide, by decide, by decide, by decide⟩, n5⟩
        | 5, _ => exact ⟨l6, [4, 3], rfl, t7 _ _ g6, ⟨by decide, by decide, by decide, by decide⟩, n6⟩
      refine ⟨_, rfl, h, c, 6, rfl, hA7, by decide, by decide, fun H2 k S2 hH2 hk => ?_⟩
      obtain ⟨l, ss, hget, hl, hZ, hlh⟩ := hall k (by omega)
      have hl2 := S2 _ _ hl hlh
      have hll := hZ.l3
      refine ⟨l7, _, (k : Int), .ref l, rfl, rfl, SqL.of (S2 _ _ g7 hl7), atI_nat hget, ?_⟩
      have S02 := (S1.trans (SameB.of t17)).trans S2
      dsimp only [gName]
      refine ⟨_, rfl, _, rfl, _, rfl, h, c, l, iVs ss, rfl, hH2, SqL.of hl2, by rw [iVs_len]; omega, fun H3 l' ys S3 hH3 hl0 hl' hperm => ?_⟩
      obtain ⟨ms, rfl, hms⟩ := iVs_perm hperm
      have hlh' : l' ≠ h := hH2.nh hl0
      refine ⟨_, rfl, h, c, 3, rfl, hH3, by decide, by decide, fun H4 m S4 hH4 hm => ⟨h, c, l', m, ms, rfl, hH4, hlh', S4 _ _ hl' hlh', hZ.perm hms, by omega, fun H5 v5 S5 hH5 hD => ?_⟩⟩
      exact qq _ _ (((S02.trans S3).trans S4).trans S5) hH5 hD
end
end Ut
/-! _law_ways. -/
namespace Ut
open PySem PySem.Spec PyProof.Rows L2
/-- what waits in the law's search: no goal in it -/
def Good3 (n g : Nat) (ws : List (List Nat × List Nat)) : Prop := ∀ x ∈ ws, Node n x.2 ∧ x.1.length < x.2.length ∧ g ∉ x.2
/-- the arrows from i on that go on from x -/
def restK (es : Arr) (ps : List Nat) (i : Nat) : List Nat := ((List.range es.length).drop i).filter (okK es ps)
theorem rest_0 (es : Arr) (ps : List Nat) : restK es ps 0 = kidsF es ps := rfl
theorem rest_end (es : Arr) (ps : List Nat) : restK es ps es.length = [] := by
  unfold restK
  rw [List.drop_of_length_le (by simp)]
  rfl
theorem rest_yes {es : Arr} {ps : List Nat} {i : Nat} (hi : i < es.length) (h : okK es ps i = true) : restK es ps i = i :: restK es ps (i + 1) := by
  unfold restK
  rw [List.drop_eq_getElem_cons (by simpa using hi), List.getElem_range, List.filter_cons_of_pos h]
theorem rest_no {es : Arr} {ps : List Nat} {i : Nat} (hi : i < es.length) (h : okK es ps i = false) : restK es ps i = restK es ps (i + 1) := by
  unfold restK
  rw [List.drop_eq_getElem_cons (by simpa using hi), List.getElem_range, List.filter_cons_of_neg (by simp [h])]
theorem perm_mv {α : Type} {A B C D Z : List α} (h : (A ++ B ++ (C ++ D)).Perm Z) : ((A ++ C) ++ B ++ D).Perm Z := by
  refine List.Perm.trans ?_ h
  rw [List.append_assoc, List.append_assoc, List.append_assoc]
  refine List.Perm.append_left A ?_
  rw [← List.append_assoc, ← List.append_assoc]
  exact List.perm_append_comm.append_right D
theorem perm_mv2 {α : Type} {A B C D Z : List α} (h : (A ++ B ++ (C ++ D)).Perm Z) : (A ++ (B ++ C) ++ D).Perm Z := by
  rw [← List.append_assoc, List.append_assoc A B C] at h
  exact h
theorem kid_goal {n g : Nat} {es : Arr} {x : List Nat × List Nat} (N : Node n x.2) (G : Good n es) {k : Nat} (hk : k ∈ kidsF es x.2) (hg : hd es k = g) : compF es g n (kidX es x k) = [x.1 ++ [k]] ∧ cntF es g n (kidX es x k) = 1 := by
  have N2 : Node n (kidX es x k).2 := N.kid G hk
  have hl : (kidX es x k).2.getLast? = some g := by
    show (x.2 ++ [hd es k]).getLast? = some g
    rw [hg]
    simp
  refine ⟨?_, ?_⟩
  · rw [compF_eq N2, if_pos hl]
    rfl
  · rw [cntF_eq N2, if_pos hl]
section
variable {P : Program} {w : World} {K : PySem.W.Frag} {mg : Str → Option Value} {base : Heap}
def sp_Lways : Sp := fun vs H Q _ => ∃ (v : V) (es : Arr) (n g : Nat), vs = [v] ∧ PartsAt H v es n g ∧ Good n es ∧ 0 < n ∧ n ≤ 40 ∧ es.length ≤ 16 ∧ g ≠ 0 ∧
  ∀ H' v', NewLN H H' v' (sortW (allWays es g n)) → Q v' H'
theorem cd_Lways (T : Tx K mg) : Cd P w K mg base CX0 "_law_ways" 1 ["_law_parts_here"] sp_Lways := by
  refine Cd.of T.d_Lways (fun _ _ _ _ _ _ us hl => match us, hl with | [_], _ => rfl) fun f fd F => ?_
  refine F.ok sc_Lways (fun vs H Q E h => ?_) (fun cdv A outer s H vs Q E hr h => ?_)
  · obtain ⟨v, es, n, g, rfl, _⟩ := h
    rfl
  · obtain ⟨v, es, n, g, rfl, ⟨pp, va, cg, rfl, hpp, ⟨ar, xs, rfl, har, hX⟩, hcg⟩, G, hn0, hn40, hes, hg0, q⟩ := h
    have hu := hu_of hr
    have hlenX := hX.len
    have hbig : ∀ x : List Nat × List Nat, Node n x.2 → cntF es g n x ≤ 65536 := fun x N => Nat.le_trans (cntF_bound N G) (Nat.pow_le_pow_right (n := 2) (by decide) hes)
    refine ⟨_, (pss_cons (ps_asg (pv 0) (pg_tup (by rfl) (pgs_cons (pg_name (i := 1) sc_Lways.nd rfl (by first | exact Or.inl rfl | exact Or.inr rfl)) (pgs_cons (pg_name (i := 2) sc_Lways.nd rfl (by first | exact Or.inl rfl | exact Or.inr rfl)) (pgs_cons (pg_name (i := 3) sc_Lways.nd rfl (by first | exact Or.inl rfl | exact Or.inr rfl)) pgs_nil)))))
      (pss_cons (ps_set (i := 4) sc_Lways.nd rfl (by first | exact Or.inl rfl | exact Or.inr rfl) (pe_lst pa_nil))
      (pss_cons (ps_set (i := 5) sc_Lways.nd rfl (by first | exact Or.inl rfl | exact Or.inr rfl) (pe_lst (pa_cons (pe_tup (pa_cons (pe_tup pa_nil) (pa_cons (pe_tup (pa_cons pe_int pa_nil)) pa_nil))) pa_nil)))
      (pss_cons (ps_set (i := 6) sc_Lways.nd rfl (by first | exact Or.inl rfl | exact Or.inr rfl) pe_int)
      (pss_cons (ps_while PassesOwn.never (pt_cmpR op_lt (pv 6) (pe_callB (id := "len") call_lenU (by rfl) T.b_len (by decide +kernel) (pa_cons (pv 5) pa_nil)) (nomark _))
      (pss_cons (ps_asg (pe_ix ix_list (pv 5) (pv 6) (fun _ _ => rfl)) (pg_tup (by rfl) (pgs_cons (pg_name (i := 7) sc_Lways.nd rfl (by first | exact Or.inl rfl | exact Or.inr rfl)) (pgs_cons (pg_name (i := 8) sc_Lways.nd rfl (by first | exact Or.inl rfl | exact Or.inr rfl)) pgs_nil))))
      (pss_cons (ps_set (i := 6) sc_Lways.nd rfl (by first | exact Or.inl rfl | exact Or.inr rfl) (pe_op op_add (pv 6) pe_int))
      (pss_one (ps_for PassesOwn.never rfl (pi_range1 (by rfl) T.b_range (pa_cons (pe_callB (id := "len") call_lenU (by rfl) T.b_len (by decide +kernel) (pa_cons (pv 2) pa_nil)) pa_nil)) (pg_name (i := 9) sc_Lways.nd rfl (by first | exact Or.inl rfl | exact Or.inr rfl))
      (pss_cons (ps_asg (pe_ix ix_tup (pv 2) (pv 9) (fun _ _ => rfl)) (pg_tup (by rfl) (pgs_cons (pg_name (i := 10) sc_Lways.nd rfl (by first | exact Or.inl rfl | exact Or.inr rfl)) (pgs_cons (pg_name (i := 11) sc_Lways.nd rfl (by first | exact Or.inl rfl | exact Or.inr rfl)) pgs_nil))))
      (pss_one (ps_if (PW.pt (pw_and (pt_cmpR op_eq (pv 10) (pe_ix ix_tup (pv 8) (pe_un un_neg pe_int) (fun _ _ => rfl)) (nomark _)) (pw_and1 (pt_cmpR op_in_seq (pv 11) (pv 3) rfl)))) (pss_one (ps_expr (pe_bm PySem.F.plainAttrs_list PySem.F.slot_list_append PySem.F.type_list_append mt_append (pv 4) (pa_cons (pe_op op_catA (pv 7) (pe_tup (pa_cons (pv 9) pa_nil))) pa_nil)))) (pss_one (ps_if (PW.pt (pw_and (pt_cmpR op_eq (pv 10) (pe_ix ix_tup (pv 8) (pe_un un_neg pe_int) (fun _ _ => rfl)) (nomark _)) (pw_and1 (pt_cmpR op_notIn_seq (pv 11) (pv 8) rfl)))) (pss_one (ps_expr (pe_bm PySem.F.plainAttrs_list PySem.F.slot_list_append PySem.F.type_list_append mt_append (pv 5) (pa_cons (pe_tup (pa_cons (pe_op op_catA (pv 7) (pe_tup (pa_cons (pv 9) pa_nil))) (pa_cons (pe_op op_catA (pv 8) (pe_tup (pa_cons (pv 11) pa_nil))) pa_nil))) pa_nil)))) pss_nil))))))))))
      (pss_one (ps_ret (pe_callB (id := "sorted") (cr_sortedW hr.units) (by rfl) T.b_sorted (by decide +kernel) (pa_cons (pv 4) pa_nil))))))))), ?_⟩
    refine ⟨_, rfl, pp, _, rfl, SqT.of hpp, rfl, _, _, rfl, _, _, rfl, _, _, rfl, rfl, ?_⟩
    -- found = []; waiting = [((), (0,))]; at = 0
    refine ⟨line_le (by show 0 ≤ _; omega), fun fl hfl => ?_⟩
    have s1 : Same H (upd H fl (.lst [])) := Same.new hfl
    refine ⟨line_le (by show 0 ≤ _; omega), fun p0 hp0 => ⟨line_le (by show 1 ≤ _; omega), fun p1 hp1 => ⟨line_le (by show 2 ≤ _; omega), fun p2 hp2 => ⟨line_le (by show 1 ≤ _; omega), fun wl hwl => ?_⟩⟩⟩⟩
    generalize hH1 : upd H fl (.lst []) = H1 at *
    generalize hH2 : upd H1 p0 (.tup []) = H2 at *
    generalize hH3 : upd H2 p1 (.tup [.int 0]) = H3 at *
    generalize hH4 : upd H3 p2 (.tup [.ref p0, .ref p1]) = H4 at *
    have s2 : Same H1 H2 := hH2 ▸ Same.new hp0
    have s3 : Same H2 H3 := hH3 ▸ Same.new hp1
    have s4 : Same H3 H4 := hH4 ▸ Same.new hp2
    have s5 : Same H4 (upd H4 wl (.lst [.ref p2])) := Same.new hwl
    have s04 : Same H H4 := ((s1.trans s2).trans s3).trans s4
    have hf1 : H1 fl = some (.lst []) := hH1 ▸ upd_same
    have hb0 : BN (upd H4 wl (.lst [.ref p2])) (.ref p2) ([], [0]) := by
      refine ⟨p2, .ref p0, .ref p1, rfl, s5 _ _ (hH4 ▸ upd_same), ⟨p0, rfl, s5 _ _ (s4 _ _ (s3 _ _ (hH2 ▸ upd_same)))⟩, ⟨p1, rfl, s5 _ _ (s4 _ _ (hH3 ▸ upd_same))⟩⟩
    have hfl4 : H4 fl = some (.lst []) := s4 _ _ (s3 _ _ (s2 _ _ hf1))
    have hwl0 : H wl = none := s04.free hwl
    have nfw : fl ≠ wl := ne_of_none hfl4 hwl
    dsimp only [gName]
    refine ⟨fun m σ H5 => ∃ (y7 y8 y9 y10 y11 : Option V) (fs zs : List V) (FW : List (List Nat)) (ws : List (List Nat × List Nat)) (t : Nat), σ = [some (.ref pp), some (.int (n : Int)), some (.ref ar), some (.ref cg), some (.ref fl), some (.ref wl), some (.int (t : Int)), y7, y8, y9, y10, y11] ∧ Same H H5 ∧ H5 fl = some (.lst fs) ∧ TNs H5 fs FW ∧ H5 wl = some (.lst zs) ∧ BNs H5 zs ws ∧
        Good3 n g ws ∧ t ≤ ws.length ∧ (FW ++ (ws.drop t).flatMap (compF es g n)).Perm (allWays es g n) ∧ FW.length + t + ((ws.drop t).map (cntF es g n)).sum ≤ 65536 ∧ m = ((ws.drop t).map (cntF es g n)).sum,
      ⟨_, none, none, none, none, none, [], [.ref p2], [], [([], [0])], 0, rfl, s04.trans s5, s5 _ _ hfl4, .nil, upd_same, .cons hb0 .nil, ?_, Nat.zero_le _, ?_, ?_, rfl⟩, ?_⟩
    · intro x hx
      obtain rfl := List.mem_singleton.mp hx
      exact ⟨node0 hn0, Nat.zero_lt_one, fun e => hg0 (by simpa using e)⟩
    · show ([] ++ [([], [0])].flatMap (compF es g n)).Perm _
      rw [List.nil_append, List.flatMap_cons, List.flatMap_nil, List.append_nil]
      exact List.Perm.refl _
    · show 0 + 0 + (cntF es g n ([], [0]) + 0) ≤ 65536
      have := hbig ([], [0]) (node0 hn0)
      omega
    rintro m σ H5 ⟨y7, y8, y9, y10, y11, fs, zs, FW, ws, t, rfl, s05, hf5, hF, hw5, hZ, hG3, ht, hP, hsz, hm⟩
    have hzl := hZ.len
    refine ⟨_, rfl, _, rfl, wl, _, rfl, .inl (SqL.of hw5), _, _, rfl, rfl, _, rfl, ?_⟩
    by_cases htl : t < ws.length
    · rw [decide_eq_true (by omega : (t : Int) < (zs.length : Int))]
      refine iteT ⟨fun σ' H' => ∃ m', m' < m ∧ _, fun σ' H' h => h, ?_⟩
      have hdrop : ws.drop t = ws[t] :: ws.drop (t + 1) := List.drop_eq_getElem_cons htl
      have hxm : ws[t] ∈ ws := List.getElem_mem htl
      obtain ⟨y, hy, hB⟩ := hZ.get' (i := t) (b := ws[t]) (List.getElem?_eq_getElem htl)
      generalize ws[t] = x at *
      obtain ⟨N, hxl, hgx⟩ := hG3 x hxm
      obtain ⟨z, hz⟩ : ∃ z, x.2.getLast? = some z := by
        cases e : x.2.getLast? with
        | none => exact absurd (List.getLast?_eq_none_iff.mp e) N.ne
        | some z => exact ⟨z, rfl⟩
      have hzg : ¬ x.2.getLast? = some g := fun e => hgx (List.mem_of_getLast? e)
      have hnl := N.len
      have hce := compF_eq (es := es) (g := g) N
      have hne := cntF_eq (es := es) (g := g) N
      rw [if_neg hzg] at hce hne
      rw [hdrop, List.flatMap_cons] at hP
      rw [hdrop, List.map_cons, List.sum_cons] at hsz hm
      obtain ⟨ba, vw, vp, rfl, hba, hvw, hvp⟩ := hB
      -- way, places = waiting[at]; at = at + 1
      refine ⟨_, rfl, _, rfl, wl, zs, (t : Int), .ref ba, rfl, rfl, SqL.of hw5, atI_nat hy, ba, _, rfl, SqT.of hba, rfl, _, _, rfl, _, _, rfl, rfl, ?_⟩
      refine ⟨_, rfl, _, _, rfl, rfl, ?_⟩
      have et : (t : Int) + 1 = ((t + 1 : Nat) : Int) := by omega
      simp only [et]
      dsimp only [gName]
      obtain ⟨pa, rfl, hpa⟩ := id hvp
      have har5 := s05 _ _ har
      refine ⟨_, rfl, ar, _, rfl, .inr (SqT.of har5), (es.length : Int), by rw [hlenX], by omega, by omega, for_range (lo := 0) (n := es.length) (fun i σ H6 => ∃ (y9 y10 y11 : Option V) (fs zs : List V) (FW : List (List Nat)) (ws : List (List Nat × List Nat)), σ = [some (.ref pp), some (.int (n : Int)), some (.ref ar), some (.ref cg), some (.ref fl), some (.ref wl), some (.int ((t + 1 : Nat) : Int)), some vw, some (.ref pa), y9, y10, y11] ∧ Same H H6 ∧ TN H6 vw x.1 ∧ H6 pa = some (.tup (iVs x.2)) ∧ H6 fl = some (.lst fs) ∧ TNs H6 fs FW ∧ H6 wl = some (.lst zs) ∧ BNs H6 zs ws ∧
          Good3 n g ws ∧ t + 1 ≤ ws.length ∧ (FW ++ (ws.drop (t + 1)).flatMap (compF es g n) ++ (restK es x.2 i).flatMap fun k => compF es g n (kidX es x k)).Perm (allWays es g n) ∧
          FW.length + t + ((ws.drop (t + 1)).map (cntF es g n)).sum + ((restK es x.2 i).map fun k => cntF es g n (kidX es x k)).sum + 1 ≤ 65536 ∧ ((ws.drop (t + 1)).map (cntF es g n)).sum + ((restK es x.2 i).map fun k => cntF es g n (kidX es x k)).sum + 1 ≤ m)
        ⟨y9, y10, y11, fs, zs, FW, ws, rfl, s05, hvw, hpa, hf5, hF, hw5, hZ, hG3, htl, ?_, ?_, ?_⟩ ?_ ?_⟩
      · rw [rest_0, ← hce]
        refine List.Perm.trans ?_ hP
        rw [List.append_assoc]
        exact List.Perm.append_left _ List.perm_append_comm
      · rw [rest_0]
        omega
      · rw [rest_0]
        omega
      · clear hF hZ hG3 hP hsz hm hf5 hw5 hdrop hxm hy ht htl hzl
        rintro i σ H6 hi ⟨y9, y10, y11, fs, zs, FW, ws, rfl, s6, hvw6, hpa6, hf6, hF6, hw6, hZ6, hG6, ht6, hP6, hsz6, hm6⟩
        have hle := cnt_le (es := es) (g := g) (n := n) (ws.drop (t + 1))
        rw [List.length_drop] at hle
        have hfl6 := hF6.len
        have hzl6 := hZ6.len
        simp only [Int.zero_add]
        dsimp only [gName]
        obtain ⟨b, hb, b', rfl, hbt⟩ := (hX.kt (Kt.same s6)).get' (es_get hi)
        have har6 := s6 _ _ har
        refine ⟨_, rfl, _, rfl, ar, xs, (i : Int), .ref b', rfl, rfl, SqT.of har6, atI_nat hb, b', _, rfl, SqT.of hbt, rfl, _, _, rfl, _, _, rfl, rfl, ?_⟩
        -- tail == places[-1] and head in goals
        refine ⟨_, rfl, _, rfl, _, rfl, pa, _, -1, .int (z : Int), rfl, rfl, SqT.of hpa6, at_neg (iVs_last hz), rfl, _, rfl, ?_⟩
        have e1 : decide (V.int (tl es i : Int) = V.int (z : Int)) = (x.2.getLast? == some (tl es i)) := by
          rw [hz]
          by_cases e : tl es i = z
          · rw [e]
            simp
          · have : ¬ V.int (tl es i : Int) = V.int (z : Int) := fun q => e (by have := V.int.inj q; omega)
            rw [decide_eq_false this]
            symm
            rw [beq_eq_false_iff_ne]
            intro q
            exact e (Option.some.inj q).symm
        have no : okK es x.2 i = false → _ := fun hk : okK es x.2 i = false => (⟨_, _, _, fs, zs, FW, ws, rfl, s6, hvw6, hpa6, hf6, hF6, hw6, hZ6, hG6, ht6, by rw [← rest_no hi hk]; exact hP6, by rw [← rest_no hi hk]; exact hsz6, by rw [← rest_no hi hk]; exact hm6⟩ :
          ∃ (y9 y10 y11 : Option V) (fs zs : List V) (FW : List (List Nat)) (ws : List (List Nat × List Nat)), [some (.ref pp), some (.int (n : Int)), some (.ref ar), some (.ref cg), some (.ref fl), some (.ref wl), some (.int ((t + 1 : Nat) : Int)), some vw, some (.ref pa), some (V.int (i : Int)), some (V.int (tl es i : Int)), some (V.int (hd es i : Int))] = [some (.ref pp), some (.int (n : Int)), some (.ref ar), some (.ref cg), some (.ref fl), some (.ref wl), some (.int ((t + 1 : Nat) : Int)), some vw, some (.ref pa), y9, y10, y11] ∧ Same H H6 ∧ TN H6 vw x.1 ∧ H6 pa = some (.tup (iVs x.2)) ∧ H6 fl = some (.lst fs) ∧ TNs H6 fs FW ∧ H6 wl = some (.lst zs) ∧ BNs H6 zs ws ∧
          Good3 n g ws ∧ t + 1 ≤ ws.length ∧ (FW ++ (ws.drop (t + 1)).flatMap (compF es g n) ++ (restK es x.2 (i + 1)).flatMap fun k => compF es g n (kidX es x k)).Perm (allWays es g n) ∧
          FW.length + t + ((ws.drop (t + 1)).map (cntF es g n)).sum + ((restK es x.2 (i + 1)).map fun k => cntF es g n (kidX es x k)).sum + 1 ≤ 65536 ∧ ((ws.drop (t + 1)).map (cntF es g n)).sum + ((restK es x.2 (i + 1)).map fun k => cntF es g n (kidX es x k)).sum + 1 ≤ m)
        rw [e1]
        have test2 : ∀ Q2 : Prop, True := fun _ => trivial
        cases hq : (x.2.getLast? == some (tl es i)) with
        | false =>
          refine iteF (iteF ?_)
          refine ⟨_, rfl, _, rfl, _, rfl, pa, _, -1, .int (z : Int), rfl, rfl, SqT.of hpa6, at_neg (iVs_last hz), rfl, _, rfl, ?_⟩
          rw [e1, hq]
          exact iteF (iteF (no (by unfold okK; rw [hq]; rfl)))
        | true =>
          refine iteT ⟨_, rfl, _, rfl, cg, iVs [g], rfl, .inr (SqT.of (s6 _ _ hcg)), rfl, iVs_flat _, _, rfl, ?_⟩
          have e2 : (if false = true then !inV (V.int (hd es i : Int)) (iVs [g]) else inV (V.int (hd es i : Int)) (iVs [g])) = decide (hd es i = g) := by
            rw [if_neg Bool.false_ne_true, inV_iff, List.contains_cons]
            by_cases e : hd es i = g <;> simp [e]
          rw [e2]
          by_cases ehg : hd es i = g
          · rw [decide_eq_true ehg]
            have hk : okK es x.2 i = true := by
              unfold okK
              rw [hq]
              simpa [ehg] using hgx
            have hkm : i ∈ kidsF es x.2 := mem_kids.mpr ⟨hi, (okK_iff.mp hk).1, (okK_iff.mp hk).2⟩
            obtain ⟨c1, c2⟩ := kid_goal N G hkm ehg
            rw [rest_yes hi hk, List.flatMap_cons, c1] at hP6
            rw [rest_yes hi hk, List.map_cons, List.sum_cons, c2] at hsz6 hm6
            refine iteT ?_
            -- found.append(way + (k,))
            refine ⟨_, rfl, .inl ⟨rfl, _, SqL.of hf6⟩, _, rfl, _, rfl, cat_snoc hvw6 (by omega) fun v7 H7 s7 t7 => ?_⟩
            refine ⟨fl, fs, v7, rfl, rfl, s7 _ _ hf6, line_lt (by omega), ?_⟩
            have k8 : Kt H7 (upd H7 fl (.lst (fs ++ [v7]))) := Kt.lst (s7 _ _ hf6)
            refine ⟨_, _, _, fs ++ [v7], zs, FW ++ [x.1 ++ [i]], ws, rfl, (s6.trans s7).mut hfl, (hvw6.kt (Kt.same s7)).kt k8, k8 _ _ (s7 _ _ hpa6), upd_same, ((hF6.kt (Kt.same s7)).kt k8).snoc (t7.kt k8), ?_, (hZ6.kt (Kt.same s7)).kt k8, hG6, ht6, perm_mv hP6, ?_, ?_⟩
            · rw [upd_ne nfw.symm]
              exact s7 _ _ hw6
            · rw [List.length_append]
              show FW.length + 1 + t + _ + _ + 1 ≤ _
              omega
            · omega
          · rw [decide_eq_false ehg]
            refine iteF ?_
            refine ⟨_, rfl, _, rfl, _, rfl, pa, _, -1, .int (z : Int), rfl, rfl, SqT.of hpa6, at_neg (iVs_last hz), rfl, _, rfl, ?_⟩
            rw [e1, hq]
            refine iteT ⟨_, rfl, _, rfl, pa, iVs x.2, rfl, .inr (SqT.of hpa6), rfl, iVs_flat _, _, rfl, ?_⟩
            have e3 : (if true = true then !inV (V.int (hd es i : Int)) (iVs x.2) else inV (V.int (hd es i : Int)) (iVs x.2)) = !(x.2.contains (hd es i)) := by
              rw [if_pos rfl, inV_iff]
            rw [e3]
            cases hq2 : x.2.contains (hd es i) with
            | true => exact iteF (no (by unfold okK; rw [hq, hq2]; rfl))
            | false =>
              have hk : okK es x.2 i = true := by unfold okK; rw [hq, hq2]; rfl
              have hkm : i ∈ kidsF es x.2 := mem_kids.mpr ⟨hi, (okK_iff.mp hk).1, (okK_iff.mp hk).2⟩
              rw [rest_yes hi hk, List.flatMap_cons] at hP6
              rw [rest_yes hi hk, List.map_cons, List.sum_cons] at hsz6 hm6
              refine iteT ?_
              refine ⟨_, rfl, .inl ⟨rfl, _, SqL.of hw6⟩, _, rfl, _, rfl, cat_snoc hvw6 (by omega) fun v7 H7 s7 t7 => ?_⟩
              refine ⟨_, rfl, _, rfl, cat_snoc (v := .ref pa) ⟨pa, rfl, s7 _ _ hpa6⟩ (by omega) fun v8 H8 s8 t8 => ?_⟩
              refine ⟨line_le (by show 2 ≤ _; omega), fun p hp => ?_⟩
              have s9 : Same H8 (upd H8 p (.tup [v7, v8])) := Same.new hp
              have hB9 : BN (upd H8 p (.tup [v7, v8])) (.ref p) (kidX es x i) := ⟨p, v7, v8, rfl, upd_same, (t7.kt (Kt.same s8)).kt (Kt.same s9), t8.kt (Kt.same s9)⟩
              generalize upd H8 p (.tup [v7, v8]) = H9 at *
              have s69 := (s7.trans s8).trans s9
              have hw9 := s69 _ _ hw6
              refine ⟨wl, zs, _, rfl, rfl, hw9, line_lt (by omega), ?_⟩
              have k10 : Kt H9 (upd H9 wl (.lst (zs ++ [.ref p]))) := Kt.lst hw9
              have hdr : (ws ++ [kidX es x i]).drop (t + 1) = ws.drop (t + 1) ++ [kidX es x i] := List.drop_append_of_le_length ht6
              refine ⟨_, _, _, fs, zs ++ [.ref p], FW, ws ++ [kidX es x i], rfl, (s6.trans s69).mut hwl0, (hvw6.kt (Kt.same s69)).kt k10, k10 _ _ (s69 _ _ hpa6), ?_, (hF6.kt (Kt.same s69)).kt k10, upd_same, ((hZ6.kt (Kt.same s69)).kt k10).snoc (hB9.kt k10), ?_, ?_, ?_, ?_, ?_⟩
              · rw [upd_ne nfw]
                exact s69 _ _ hf6
              · intro y hy
                rcases List.mem_append.mp hy with hy | hy
                · exact hG6 y hy
                · obtain rfl := List.mem_singleton.mp hy
                  refine ⟨N.kid G hkm, ?_, ?_⟩
                  · show (x.1 ++ [i]).length < (x.2 ++ [hd es i]).length
                    rw [List.length_append, List.length_append]
                    show x.1.length + 1 < x.2.length + 1
                    omega
                  · show g ∉ x.2 ++ [hd es i]
                    rw [List.mem_append, List.mem_singleton]
                    rintro (h | h)
                    · exact hgx h
                    · exact ehg h.symm
              · rw [List.length_append]
                omega
              · rw [hdr, List.flatMap_append, List.flatMap_cons, List.flatMap_nil, List.append_nil]
                exact perm_mv2 hP6
              · rw [hdr, List.map_append, List.sum_append, List.map_cons, List.sum_cons]
                show _ + _ + (_ + (_ + 0)) + _ + 1 ≤ _
                omega
              · rw [hdr, List.map_append, List.sum_append, List.map_cons, List.sum_cons]
                show _ + (_ + 0) + _ + 1 ≤ _
                omega
      · rintro σ H6 ⟨y9, y10, y11, fs, zs, FW, ws, rfl, s6, hvw6, hpa6, hf6, hF6, hw6, hZ6, hG6, ht6, hP6, hsz6, hm6⟩
        rw [rest_end] at hP6 hsz6 hm6
        have hm6 : ((ws.drop (t + 1)).map (cntF es g n)).sum + 0 + 1 ≤ m := hm6
        have hsz6 : FW.length + t + ((ws.drop (t + 1)).map (cntF es g n)).sum + 0 + 1 ≤ 65536 := hsz6
        refine ⟨_, ?_, _, _, _, _, _, fs, zs, FW, ws, t + 1, rfl, s6, hf6, hF6, hw6, hZ6, hG6, ht6, ?_, ?_, rfl⟩
        · omega
        · rw [List.flatMap_nil, List.append_nil] at hP6
          exact hP6
        · omega
    · rw [decide_eq_false (by omega : ¬ (t : Int) < (zs.length : Int))]
      refine iteF ?_
      have hP' : FW.Perm (allWays es g n) := by
        rw [List.drop_of_length_le (by omega), List.flatMap_nil, List.append_nil] at hP
        exact hP
      refine ⟨_, rfl, fl, fs, FW, rfl, SqL.of hf5, hF, fun w hw => way_ne G hn0 hg0 (hP'.mem_iff.mp hw), by omega, fun ys p hp hY => ?_⟩
      refine q _ _ ⟨p, rfl, s05.trans (Same.new hp), s05.free hp, ys, upd_same, ?_⟩
      rw [← sortW_eq hP']
      exact hY.kt (Kt.new hp)
end
end Ut
/-! _law_are_apart, _law_told. -/
namespace Ut
open PySem PySem.Spec PyProof.Rows L2
theorem passE {P : Program} {w : World} {X : Cx} {E : XK} (hE : ∀ c d H, ¬ E c d H) : Passes (L2.CX P w) X E := by
  intro pins σ H s e s' I h
  obtain ⟨_, _, H', cls, d, _, _, _, _, _, _, _, h⟩ := h
  exact absurd h (hE cls d H')
theorem u65 {k : Nat} {A : Around} (hr : Room k A) : A.units + 65 < cLine := by
  have := hr.un
  omega
/-! ### ways as data -/
theorem lay_ints : ∀ ns : List Int, PyData.canLayAll0 (ns.map .int) = true
  | [] => by simp [PyData.canLayAll0]
  | n :: ns => by
    rw [List.map_cons]
    unfold PyData.canLayAll0
    rw [lay_ints ns]
    simp [PyData.canLay0]
theorem encW_lay (w : List Nat) : (encW w).canLay0 = true := by
  unfold encW PyData.canLay0
  exact lay_ints _
theorem encWs_lay : ∀ L : List (List Nat), PyData.canLayAll0 (L.map encW) = true
  | [] => by simp [PyData.canLayAll0]
  | w :: L => by
    rw [List.map_cons]
    unfold PyData.canLayAll0
    rw [encWs_lay L, encW_lay]
    rfl
theorem encWs_depth : ∀ L : List (List Nat), PyData.depthAll (L.map encW) ≤ 2
  | [] => by simp [PyData.depthAll]
  | w :: L => by
    have h1 := encWs_depth L
    have h2 := encW_depth w
    simp only [List.map_cons, PyData.depthAll]
    omega
theorem encW_shaped (w : List Nat) : SeqAt.shaped (encW w) = true := by
  have h := encW_depth w
  show ((encW w).canLay0 && decide ((encW w).depth ≤ 64)) = true
  rw [Bool.and_eq_true]
  exact ⟨encW_lay w, decide_eq_true (by omega)⟩
theorem encWs_shaped (L : List (List Nat)) : SeqAt.shaped (.list (L.map encW)) = true := by
  have h1 := encWs_depth L
  have h2 : PyData.depth (.list (L.map encW)) ≤ 64 := by
    simp only [PyData.depth]
    omega
  show (PyData.canLay0 (.list (L.map encW)) && decide (PyData.depth (.list (L.map encW)) ≤ 64)) = true
  rw [Bool.and_eq_true]
  exact ⟨by simp only [PyData.canLay0]; exact encWs_lay L, decide_eq_true h2⟩
theorem any_refl {W : List (List Nat)} {w : List Nat} (h : w ∈ W) : ((W.map encW).any fun z => PyData.eqv z (encW w)) = true := by
  rw [List.any_eq_true]
  exact ⟨encW w, List.mem_map.mpr ⟨w, h, rfl⟩, SeqAt.eqv_refl _ (encW_lay w)⟩
theorem sum_cast : ∀ L : List (List Nat), (L.map fun w => (w.length : Int)).sum = (((L.map List.length).sum : Nat) : Int)
  | [] => rfl
  | w :: L => by
    rw [List.map_cons, List.map_cons, List.sum_cons, List.sum_cons, sum_cast L]
    omega
section
variable {P : Program} {w : World} {K : PySem.W.Frag} {mg : Str → Option Value} {base : Heap}
def sp_Lare_apart : Sp := fun vs H Q _ => ∃ (v : V) (e t : Addr) (es : Arr) (n g most : Nat) (xs ys : List V) (W L : List (List Nat)), vs = [v, .ref e, .ref t, .int (most : Int)] ∧ PartsAt H v es n g ∧ H e = some (.lst xs) ∧ TNs H xs W ∧ H t = some (.lst ys) ∧ TNs H ys L ∧
  es.length ≤ 16 ∧ L.length = most + 1 ∧ most ≤ 10 ∧ (∀ w ∈ L, w ∈ W) ∧ Ways es.length L ∧ Apart L ∧ ∀ H', Same H H' → Q (.bl true) H'
theorem cd_Lare_apart (T : Tx K mg) : Cd P w K mg base CX0 "_law_are_apart" 1 ["_law_parts_here", "_law_every", "_law_told_here", "_law_most"] sp_Lare_apart := by
  refine Cd.of T.d_Lare_apart (fun _ _ _ _ _ _ us hl => match us, hl with | [_, _, _, _], _ => rfl) fun f fd F => ?_
  refine F.ok sc_Lare_apart (fun vs H Q E h => ?_) (fun cdv A outer s H vs Q E hr h => ?_)
  · obtain ⟨v, e, t, es, n, g, most, xs, ys, W, L, rfl, _⟩ := h
    rfl
  · obtain ⟨v, e, t, es, n, g, most, xs, ys, W, L, rfl, ⟨pp, va, cg, rfl, hpp, ⟨ar, as, rfl, har, hA⟩, hcg⟩, he, hX, ht, hY, hes, hL, hmost, hsub, hWs, hAp, q⟩ := h
    have hu := hu_of hr
    have hun := hr.units
    have hlA := hA.len
    have hlY := hY.len
    refine ⟨_, (pss_cons (ps_if (PW.pt (pw_or (pt_not (pt_val (pe_callB (id := "isinstance") call_isi (by rfl) T.b_isinstance (by decide +kernel) (pa_cons (pv 2) (pa_cons (pe_bltn (v := .ty "list") (by rfl) T.b_list (by decide +kernel) rfl) pa_nil))))) (pw_or (pt_cmpR op_ne (pe_callB (id := "len") call_lenU (by rfl) T.b_len (by decide +kernel) (pa_cons (pv 2) pa_nil)) (pe_op op_add (pv 3) pe_int) (nomark _)) (pw_or1 (pt_not (pt_val (pe_callB (id := "all") (cr_all (by rfl)) (by rfl) T.b_all (by decide +kernel) (pa_cons (pe_lc (own := [("_law_way", 4)]) (g := (gName 4)) (tt := tYes) (te := (tOp (rInD K) (tVar 4) (tVar 1))) (by rfl) sc_Lare_apart.nd (pi_list (pv 2)) (blkOk_by (own := [("_law_way", 4)]) (N := ["_law_parts_here", "_law_every", "_law_told_here", "_law_most", "_law_way", "_law_arrows", "_law_k"]) (sc := defScope s_Lare_apart) (by decide +kernel)) (fun _ _ _ _ _ => (pg_name (i := 4) sc_Lare_apart.nd rfl (by first | exact Or.inl rfl | exact Or.inr rfl))) (fun _ _ _ _ _ => pts_nil) (fun _ _ _ _ _ => (pe_cmpR (op_inD (u65 hr)) (pv 4) (pv 1) rfl))) pa_nil)))))))) (pss_one (ps_ret pe_bl)) pss_nil)
      (pss_cons (ps_setLc (i := 5) (own := [("_law_k", 6)]) (g := (gName 6)) (tt := (tB (tCB (rAny K) (tCons (tLc (iList K (tVar 2)) (gName 4) tYes (tOp (rIn K false) (tVar 6) (tVar 4)) [4]) tNil)))) (te := (tVar 6)) (by rfl) sc_Lare_apart.nd rfl rfl (sw_true rfl rfl rfl (by decide +kernel)) (pi_range1 (by rfl) T.b_range (pa_cons (pe_callB (id := "len") call_lenU (by rfl) T.b_len (by decide +kernel) (pa_cons (pe_ix ix_tup (pv 0) pe_int (fun _ _ => rfl)) pa_nil)) pa_nil)) (blkOk_by (own := [("_law_k", 6)]) (N := ["_law_parts_here", "_law_every", "_law_told_here", "_law_most", "_law_way", "_law_arrows", "_law_k"]) (sc := defScope s_Lare_apart) (by decide +kernel)) (fun _ _ _ _ _ => (pg_name (i := 6) sc_Lare_apart.nd rfl (by first | exact Or.inl rfl | exact Or.inr rfl))) (fun _ _ _ _ _ => (pts_one (pt_val (pe_callB (id := "any") (cr_any (by rfl)) (by rfl) T.b_any (by decide +kernel) (pa_cons (pe_lc (own := [("_law_way", 4)]) (g := (gName 4)) (tt := tYes) (te := (tOp (rIn K false) (tVar 6) (tVar 4))) (by rfl) sc_Lare_apart.nd (pi_list (pv 2)) (blkOk_by (own := [("_law_way", 4)]) (N := ["_law_parts_here", "_law_every", "_law_told_here", "_law_most", "_law_way", "_law_arrows", "_law_k"]) (sc := relS scB_Lare_apart (defScope s_Lare_apart)) (by decide +kernel)) (fun _ _ _ _ _ => (pg_name (i := 4) sc_Lare_apart.nd rfl (by first | exact Or.inl rfl | exact Or.inr rfl))) (fun _ _ _ _ _ => pts_nil) (fun _ _ _ _ _ => (pe_cmpR op_in_seq (pv 6) (pv 4) rfl))) pa_nil))))) (fun _ _ _ _ _ => (pv 6)))
      (pss_one (ps_ret (pe_cmpR op_eq (pe_callB (id := "len") call_lenU (by rfl) T.b_len (by decide +kernel) (pa_cons (pv 5) pa_nil)) (pe_callB (id := "sum") (cr_sum (by rfl)) (by rfl) T.b_sum (by decide +kernel) (pa_cons (pe_lc (own := [("_law_way", 4)]) (g := (gName 4)) (tt := tYes) (te := (tCB (rLenU K) (tCons (tVar 4) tNil))) (by rfl) sc_Lare_apart.nd (pi_list (pv 2)) (blkOk_by (own := [("_law_way", 4)]) (N := ["_law_parts_here", "_law_every", "_law_told_here", "_law_most", "_law_way", "_law_arrows", "_law_k"]) (sc := defScope s_Lare_apart) (by decide +kernel)) (fun _ _ _ _ _ => (pg_name (i := 4) sc_Lare_apart.nd rfl (by first | exact Or.inl rfl | exact Or.inr rfl))) (fun _ _ _ _ _ => pts_nil) (fun _ _ _ _ _ => (pe_callB (id := "len") call_lenU (by rfl) T.b_len (by decide +kernel) (pa_cons (pv 4) pa_nil)))) pa_nil)) (nomark _)))))), ?_⟩
    refine ⟨_, rfl, _, _, _, _, true, rfl, .ty "list", .base (.lst ht), kit_ty (by decide +kernel), _, rfl, iteF ?_⟩
    refine ⟨_, rfl, t, _, rfl, .inl (SqL.of ht), _, rfl, _, _, rfl, rfl, rfl, _, rfl, ?_⟩
    rw [decide_eq_true (show V.int (ys.length : Int) = V.int ((most : Int) + 1) by congr 1; omega)]
    refine iteF ?_
    refine ⟨_, rfl, t, rfl, ⟨ys, SqL.of ht⟩, fun D hD => lcL (R := BV) BV.kt (outM L fun _ => true) hD (SqL.of ht) (outM_0 _ _) (fun i => Nat.lt_of_le_of_lt (outM_len _ _ _) (by omega)) ?_ ?_⟩
    · intro u x H7 N hu7 s7 Nx
      obtain ⟨way, hway, hx⟩ := (hY.kt (Kt.same s7)).get hu7
      have hwm := hsub way (List.mem_of_getElem? hway)
      refine ⟨rfl, yesGo ?_⟩
      refine ⟨_, rfl, _, rfl, encW way, W.map encW, hx.dp, .lst (SqL.of (s7 _ _ he)) (TNs.dp (hX.kt (Kt.same s7))), encW_shaped _, encWs_shaped _, ?_⟩
      rw [any_refl hwm]
      exact Nx.yes H7 _ _ (Same.refl _) rfl (outM_1 hway)
    · intro H7 bs s7 hD7 r7
      have e7 := bv_map r7
      rw [hlY, outM_all (Nat.le_refl _)] at e7
      refine ⟨D, L.map (fun _ => true), rfl, SqL.of (by rw [hD7, e7]), _, rfl, ?_⟩
      have e8 : (L.map fun _ => true).all id = true := by
        rw [List.all_map]
        simp
      rw [e8]
      refine iteF ?_
      have hpp7 := s7 _ _ hpp
      have har7 := s7 _ _ har
      -- arrows
      refine ⟨_, rfl, pp, _, 1, .ref ar, rfl, rfl, SqT.of hpp7, rfl, ar, _, rfl, .inr (SqT.of har7), (es.length : Int), by rw [hlA], by omega, by omega, fun D2 hD2 => lcR (lo := 0) (n := es.length) (R := NV) NV.kt (outF (List.range es.length) (fun k => L.any fun way => way.contains k) fun k => k) hD2 (outF_0 _ _ _) (fun i => Nat.lt_of_le_of_lt (outF_len _ _ _ _) (by rw [List.length_range]; omega)) ?_ ?_⟩
      · intro k H8 N hk s8 Nx
        simp only [Int.zero_add]
        have hkr : (List.range es.length)[k]? = some k := List.getElem?_range hk
        have s78 := s7.trans s8
        have ht8 := s78 _ _ ht
        have hY8 := hY.kt (Kt.same s78)
        refine ⟨rfl, ?_⟩
        refine ⟨_, rfl, t, rfl, ⟨_, SqL.of ht8⟩, fun D3 hD3 => lcL (R := BV) BV.kt (outM L fun way => way.contains k) hD3 (SqL.of ht8) (outM_0 _ _) (fun i => Nat.lt_of_le_of_lt (outM_len _ _ _) (by omega)) ?_ ?_⟩
        · intro u x H9 N2 hu9 s9 Nx2
          obtain ⟨way, hway, c, rfl, hc⟩ := (hY8.kt (Kt.same s9)).get hu9
          refine ⟨rfl, yesGo ?_⟩
          refine ⟨_, rfl, _, rfl, c, iVs way, rfl, .inr (SqT.of hc), rfl, iVs_flat way, ?_⟩
          refine Nx2.yes H9 _ _ (Same.refl _) ?_ (outM_1 hway)
          show V.bl (if false = true then _ else _) = _
          rw [if_neg Bool.false_ne_true, inV_iff]
        · intro H9 bs2 s9 hD9 r9
          have e9 := bv_map r9
          rw [hlY, outM_all (Nat.le_refl _)] at e9
          refine ⟨D3, L.map (fun way => way.contains k), rfl, SqL.of (by rw [hD9, e9]), _, rfl, ?_⟩
          have e10 : ((L.map fun way => way.contains k).any id) = L.any fun way => way.contains k := by
            rw [List.any_map]
            rfl
          rw [e10]
          cases hb : L.any fun way => way.contains k with
          | true => exact iteT ⟨_, rfl, Nx.yes H9 _ _ s9 rfl (outF_yes hkr hb)⟩
          | false => exact iteF (Nx.no H9 s9 (outF_no hkr hb))
      · intro H8 ks s8 hD8 r8
        have e8 := nv_map r8
        rw [outF_all (by simp), List.map_id'] at e8
        have e8 : ks = iVs (usedOf es.length L) := e8
        subst e8
        have s78 := s7.trans s8
        have ht8 := s78 _ _ ht
        have hY8 := hY.kt (Kt.same s78)
        refine ⟨_, rfl, D2, _, rfl, .inl (SqL.of hD8), _, rfl, t, rfl, ⟨_, SqL.of ht8⟩, fun D3 hD3 => lcL (R := IV) IV.kt (outM L fun way => (way.length : Int)) hD3 (SqL.of ht8) (outM_0 _ _) (fun i => Nat.lt_of_le_of_lt (outM_len _ _ _) (by omega)) ?_ ?_⟩
        · intro u x H9 N2 hu9 s9 Nx2
          obtain ⟨way, hway, c, rfl, hc⟩ := (hY8.kt (Kt.same s9)).get hu9
          refine ⟨rfl, yesGo ?_⟩
          refine ⟨_, rfl, c, iVs way, rfl, .inr (SqT.of hc), ?_⟩
          rw [iVs_len]
          exact Nx2.yes H9 _ _ (Same.refl _) rfl (outM_1 hway)
        · intro H9 zs s9 hD9 r9
          have e9 := iv_map r9
          rw [hlY, outM_all (Nat.le_refl _)] at e9
          subst e9
          refine ⟨D3, _, rfl, SqL.of hD9, rfl, ?_⟩
          rw [iVs_len, sum_cast, used_sum hWs hAp, decide_eq_true rfl]
          exact q _ (s78.trans s9)
theorem OptLN.same {H H' H'' : Hp} {v : V} : ∀ {o : Option (List (List Nat))}, OptLN H H' v o → Same H' H'' → OptLN H H'' v o
  | none, h, _ => h
  | some L, ⟨p, e, s, h0, xs, hp, hX⟩, s' => ⟨p, e, s.trans s', h0, xs, s' _ _ hp, hX.kt (Kt.same s')⟩
theorem OptLN.from {H0 H H' : Hp} {v : V} (s0 : Same H0 H) : ∀ {o : Option (List (List Nat))}, OptLN H H' v o → OptLN H0 H' v o
  | none, h => h
  | some L, ⟨p, e, s, h0, xs, hp, hX⟩ => ⟨p, e, s0.trans s, s0.free h0, xs, hp, hX⟩
def sp_Ltold (K : PySem.W.Frag) : Sp := fun vs H Q _ => ∃ (v : V) (es : Arr) (n g most : Nat), vs = [v, .int (most : Int)] ∧ Chart K H v es n g ∧ Good n es ∧ 0 < n ∧ n ≤ 40 ∧ es.length ≤ 16 ∧ g ≠ 0 ∧ most ≤ 4 ∧
  ((allWays es g n).length ≤ 12 → ∀ H' p v', Same H H' → H' p = some (.tup [.str "told", v']) → OptLN H H' v' (enoughF es.length (sortW (allWays es g n)) most) → Q (.ref p) H') ∧
  (12 < (allWays es g n).length → ∀ H' p, Same H H' → H' p = some (.tup [.str "many", .int 12]) → Q (.ref p) H')
theorem cd_Ltold {C fI : Addr} (T : Tx K mg) (TM : TmTxt P K mg C fI) : Cd P w K mg base CX0 "_law_told" 7 ["_law_chart", "_law_most"] (sp_Ltold K) := by
  have G_ways_enough : Cd P w K mg base (L2.CX P w) "ways_enough" 6 ["chart", "most"] (sp_ways_enough K C) := cd_ways_enough T TM
  refine Cd.of T.d_Ltold (fun _ _ _ _ _ _ us hl => match us, hl with | [_, _], _ => rfl) fun f fd F => ?_
  refine F.ok sc_Ltold (fun vs H Q E h => ?_) (fun cdv A outer s H vs Q E hr h => ?_)
  · obtain ⟨v, es, n, g, most, rfl, _⟩ := h
    rfl
  · obtain ⟨v, es, n, g, most, rfl, hC, G, hn0, hn40, hes, hg0, hmost, q, qE⟩ := h
    have hr1 : Room 6 _ := hr.mono (by decide)
    refine ⟨_, pss_cons (ps_set (i := 2) sc_Ltold.nd rfl (Or.inl rfl) (pe_tup (pa_cons pe_str pa_nil)))
      (pss_cons (ps_try_as (i := 3) (tb := fun W => tAsg (tTup (tCons (tC (.str "told")) (tCons (tCallS (sp_ways_enough K C) (WE W) (tCons (tVar 0) (tCons (tVar 1) tNil))) tNil))) (gName 2)) (ts := fun a cls d => tAsg (tTup (tCons (tC (.str "many")) (tCons (tMost C a cls d (tVar 3)) tNil))) (gName 2)) (Wout := fun _ _ _ _ => False) rfl rfl sc_Ltold.nd rfl rfl ⟨rfl, by decide, Or.inl TM.gC⟩ takes0
        (fun W pn xe tk _ => pss_one (ps_set (i := 2) sc_Ltold.nd rfl (Or.inl rfl) (by exact (pe_tup (pa_cons pe_str (pa_cons (pe_callDS G_ways_enough hr1 (fun σ => passAt tk σ) (by exact (pa_cons (pv 0) (pa_cons (pv 1) pa_nil)))) pa_nil))))))
        (fun a oe cls d pn hz hf => pss_one (ps_set (i := 2) sc_Ltold.nd rfl (Or.inl rfl) (by exact (pe_tup (pa_cons pe_str (pa_cons (pe_most TM hz hf (pv 3)) pa_nil)))))))
      (pss_one (ps_ret (pv 2)))), ?_⟩
    refine ⟨line_le (by show 1 ≤ _; omega), fun t ht => ?_⟩
    have s1 : Same H (upd H t (.tup [.str "none"])) := Same.new ht
    generalize upd H t (.tup [.str "none"]) = H1 at *
    refine ⟨_, rfl, _, rfl, v, es, n, g, most, rfl, hC.same s1, G, hn0, hn40, hes, hg0, hmost, fun h12 H2 v2 s2 hO => ⟨line_le (by show 2 ≤ _; omega), fun p hp => ⟨_, rfl, ?_⟩⟩, fun h12 H2 d s2 hd => ⟨true, TM.te, fun _ a0 ha0 => ?_, fun q => Bool.noConfusion q⟩⟩
    · have s3 : Same H2 (upd H2 p (.tup [.str "told", v2])) := Same.new hp
      exact q h12 _ p v2 ((s1.trans s2).trans s3) upd_same ((hO.from s1).same s3)
    · have s3 : Same H1 (upd H2 d (TmD (.int 12))) := s2.mut hd
      refine ⟨_, rfl, rfl, rfl, d, .int 12, rfl, upd_same, line_le (by show 2 ≤ _; omega), fun p hp => ⟨_, rfl, ?_⟩⟩
      exact qE h12 _ p ((s1.trans s3).trans (Same.new hp)) upd_same
end
end Ut
/-! repr of None, of a tuple of small numbers. -/
namespace Ut
open PySem PySem.Spec PyProof.Rows L2
def reprS : Option (List Nat) → Str
  | none => "None"
  | some l => (encW l).shown
theorem one_short {k : Nat} (h : k < 16) : (PyData.shown (.int (k : Int))).length ≤ 8 := by
  have all : ∀ j : Fin 16, (PyData.shown (.int ((j : Nat) : Int))).length ≤ 8 := by decide +kernel
  exact all ⟨k, h⟩
theorem all_short : ∀ {l : List Nat}, (∀ k ∈ l, k < 16) → PyData.leavesShortAll 8 ((l.map fun (n : Nat) => (n : Int)).map .int) = true
  | [], _ => by simp [PyData.leavesShortAll]
  | k :: l, h => by
    have ih := all_short (l := l) fun x hx => h x (List.mem_cons_of_mem _ hx)
    have h1 := one_short (h k List.mem_cons_self)
    simp only [List.map_cons, PyData.leavesShortAll, PyData.leavesShort]
    rw [ih, decide_eq_true h1]
    rfl
theorem bulk_ints : ∀ l : List Int, PyData.bulkAll (l.map .int) = l.length
  | [] => rfl
  | k :: l => by
    simp only [List.map_cons, PyData.bulkAll, PyData.bulk, bulk_ints l, List.length_cons]
    omega
theorem show_ints : ∀ {l : List Nat}, (∀ k ∈ l, k < 16) → PyData.showableAll ((l.map fun (n : Nat) => (n : Int)).map .int) = true
  | [], _ => by simp [PyData.showableAll]
  | k :: l, h => by
    have ih := show_ints (l := l) fun x hx => h x (List.mem_cons_of_mem _ hx)
    have hk := h k List.mem_cons_self
    have h1 : ((k : Int)).natAbs.log2 < 1920 := by
      have e : ((k : Int)).natAbs = k := by omega
      rw [e]
      have := Nat.log2_lt (n := k) (k := 4)
      by_cases h0 : k = 0
      · rw [h0]
        decide
      · exact Nat.lt_trans ((this h0).mpr hk) (by decide)
    simp only [List.map_cons, PyData.showableAll, PyData.showable]
    rw [ih, decide_eq_true h1]
    rfl
theorem nodict_ints : ∀ l : List Int, PyData.hasDictAll (l.map .int) = false
  | [] => rfl
  | k :: l => by
    simp only [List.map_cons, PyData.hasDictAll, PyData.hasDict, nodict_ints l]
    rfl
theorem shown_len {l : List Nat} (h : ∀ k ∈ l, k < 16) (hl : l.length ≤ 1000) : (encW l).shown.length ≤ sizeLine := by
  have a := PyData.shown_le_bulk 8 (Nat.le_refl _) (encW l) (by
    unfold encW
    simp only [PyData.leavesShort]
    exact all_short h)
  have b : (encW l).bulk = l.length := by
    unfold encW
    simp only [PyData.bulk]
    rw [bulk_ints, List.length_map]
  rw [b] at a
  exact line_le (by omega)
def rReprO : List V → Hp → VK → Prop := fun xs H Q => ∃ (v : V) (o : Option (List Nat)), xs = [v] ∧ OptTN H v o ∧ (∀ l, o = some l → (∀ k ∈ l, k < 16) ∧ l.length ≤ 1000) ∧ Q (.str (reprS o)) H
theorem cr_reprO {X : Cx} (hu : X.A.units + 64 < cLine) (hg : X.A.guards = some []) : CallR X (.builtin "repr") rReprO := by
  intro pins s σ H xs us Q I r h
  obtain ⟨v, o, rfl, ho, hb, q⟩ := h
  obtain ⟨u, rfl, ru⟩ := vals1 r
  cases o with
  | none =>
    obtain rfl : v = .non := ho
    obtain rfl : u = Value.none := ru
    exact call_repr_gives (T := "NoneType") rfl F.slot_NoneType_repr F.entry_NoneType_repr (F.args_NoneType_repr_1 _) gives_none_repr ⟨.str "None", H, I.tok _, ⟨_, rfl⟩, q⟩
  | some l =>
    obtain ⟨h1, h2⟩ := hb l rfl
    have ht : TN H v l := ho
    obtain ⟨as, hr⟩ := Dp.reads I (encW l) v u ht.dp ru
    obtain ⟨a, rfl, _⟩ := ht
    obtain rfl : u = Value.ref a := ru
    have hd := encW_depth l
    refine repr_of_reads' hr ?_ ?_ hg (by omega) (fun b o e => e) (fun h' t tk k => ⟨.str (encW l).shown, H, I.kept k, ⟨_, rfl⟩, q⟩) (shown_len h1 h2)
    · unfold encW
      simp only [PyData.showable]
      exact show_ints h1
    · intro e
      unfold encW at e
      simp only [PyData.hasDict] at e
      rw [nodict_ints] at e
      cases e
end Ut
/-! law. -/
namespace Ut
open PySem PySem.Spec PyProof.Rows L2
theorem cut_lo {xs : List V} {i : Nat} (h : i ≤ xs.length) : cutV xs none (some (i : Int)) = xs.take i := by
  unfold cutV
  rw [HT.sIx_none, HT.sIx_nat, List.drop_zero, Nat.sub_zero, Nat.min_eq_left h]
theorem cut_hi {xs : List V} {i : Nat} (h : i + 1 ≤ xs.length) : cutV xs (some ((i : Int) + 1)) none = xs.drop (i + 1) := by
  unfold cutV
  rw [show (i : Int) + 1 = ((i + 1 : Nat) : Int) by omega, HT.sIx_none, HT.sIx_nat, Nat.min_eq_left h]
  exact List.take_of_length_le (by rw [List.length_drop]; omega)
theorem min_nat {r : Nat} {b : Bool} (hr : r ≤ 4) : ∃ m : Nat, m ≤ 4 ∧ (if (3 : Int) - (if b = true then 1 else 0) < (r : Int) then (3 : Int) - (if b = true then 1 else 0) else (r : Int)) = (m : Int) := by
  cases b with
  | true =>
    by_cases h : (3 : Int) - (if true = true then 1 else 0) < (r : Int)
    · exact ⟨2, by omega, by rw [if_pos h]; rfl⟩
    · exact ⟨r, hr, if_neg h⟩
  | false =>
    by_cases h : (3 : Int) - (if false = true then 1 else 0) < (r : Int)
    · exact ⟨3, by omega, by rw [if_pos h]; rfl⟩
    · exact ⟨r, hr, if_neg h⟩
theorem meet_perm {ns : List Nat} {W W' : List (List Nat)} (p : W.Perm W') (most : Nat) : meetF ns W most = meetF ns W' most := by
  have e : hits W = hits W' := by
    funext lot
    unfold hits
    exact p.all_eq
  unfold meetF
  rw [e]
theorem meet_small {m most : Nat} {W : List (List Nat)} {l : List Nat} (h : meetF (List.range m) W most = some l) (hm : m ≤ 16) (h4 : most ≤ 900) : (∀ k ∈ l, k < 16) ∧ l.length ≤ 1000 := by
  unfold meetF at h
  obtain ⟨s, hs, hl⟩ := List.mem_flatMap.mp (List.mem_of_find?_eq_some h)
  obtain ⟨_, e, hin⟩ := mem_chosen.mp hl
  have := List.mem_range.mp hs
  exact ⟨fun k hk => Nat.lt_of_lt_of_le (List.mem_range.mp (hin k hk)) hm, by omega⟩
/-- behind the draws: what stands, and stays -/
structure LawSt (K : PySem.W.Frag) (H : Hp) (pv cv : V) (el : Addr) (xs : List V) (es : Arr) (n g : Nat) : Prop where
  parts : PartsAt H pv es n g
  chart : Chart K H cv es n g
  el : H el = some (.lst xs)
  xs : TNs H xs (sortW (allWays es g n))
theorem LawSt.same {K : PySem.W.Frag} {H H' : Hp} {pv cv : V} {el : Addr} {xs : List V} {es : Arr} {n g : Nat} (h : LawSt K H pv cv el xs es n g) (s : Same H H') : LawSt K H' pv cv el xs es n g :=
  ⟨h.parts.kt (Kt.same s), h.chart.same s, s _ _ h.el, h.xs.kt (Kt.same s)⟩
section
variable {P : Program} {w : World} {K : PySem.W.Frag} {mg : Str → Option Value} {base : Heap}
theorem law_body {C fI CM fa a : Addr} {cdv : Value} {s : Shared} {H : Hp} {ns : List Int} (T : Tx K mg) (TM : TmTxt P K mg C fI) (M : MapK K mg CM) (hr : Room 8 (callerA.deeper (envOfC "law" (defScope s_law) s.heap.objs.size fa cdv)))
    (ha : SqL K H a (ns.map V.int)) (hn : ns.length ≤ 1000) :
    ∃ t, PSs (cxOf CX0 P w K mg base ["_law_script", "_law_hand_here", "_law_parts_here", "_law_many", "_law_chart", "_law_every", "_law_most", "_law_single", "_law_way", "_law_word", "_law_told_here", "_law_kept", "_law_at", "_law_fewer"] "law" (defScope s_law) fa cdv callerA [] s H E0).nox (defBody s_law) t ∧
      t { nx := fun _ _ => False, rt := fun v _ => v = .bl true } (L2.start ["_law_script", "_law_hand_here", "_law_parts_here", "_law_many", "_law_chart", "_law_every", "_law_most", "_law_single", "_law_way", "_law_word", "_law_told_here", "_law_kept", "_law_at", "_law_fewer"] [.ref a]) H := by
  have G_Lhand : Cd P w K mg base CX0 "_law_hand" 1 ["_law_script"] (sp_Lhand K) := cd_Lhand T
  have G_Ldraw : Cd P w K mg base CX0 "_law_draw" 1 ["_law_hand_here", "_law_many"] sp_Ldraw := cd_Ldraw T
  have G_Ldrawn : Cd P w K mg base CX0 "_law_drawn" 5 ["_law_hand_here"] sp_Ldrawn := cd_Ldrawn T
  have G_Lways : Cd P w K mg base CX0 "_law_ways" 1 ["_law_parts_here"] sp_Lways := cd_Lways T
  have G_Ltold : Cd P w K mg base CX0 "_law_told" 7 ["_law_chart", "_law_most"] (sp_Ltold K) := cd_Ltold T TM
  have G_Lmeeting : Cd P w K mg base CX0 "_law_meeting" 2 ["_law_every", "_law_many", "_law_most"] sp_Lmeeting := cd_Lmeeting T
  have G_Lare_apart : Cd P w K mg base CX0 "_law_are_apart" 1 ["_law_parts_here", "_law_every", "_law_told_here", "_law_most"] sp_Lare_apart := cd_Lare_apart T
  have G_ways_enough : Cd P w K mg base (L2.CX P w) "ways_enough" 6 ["chart", "most"] (sp_ways_enough K C) := cd_ways_enough T TM
  have G_met_by : Cd P w K mg base CX0 "met_by" 4 ["chart", "lot", "most"] (sp_met_by K) := cd_met_by T
  obtain ⟨fm, fmd, MK, FM⟩ := M.init
  have G_Map_init : FnOk P w K mg base CX0 6 fm fmd ["self", "many", "arrows", "goals"] (sp_Map_init K CM) := fn_Map_init T M FM
  have b_Map_init : Binds K fmd ["self", "many", "arrows", "goals"] [] := FM.binds (fun _ _ _ _ _ _ us hl => match us, hl with | [_, _, _, _], _ => rfl)
  have mgMap := M.mg
  refine ⟨_, (pss_cons (ps_set (i := 1) sc_law.nd rfl (by first | exact Or.inl rfl | exact Or.inr rfl) (pe_callD G_Lhand (hr.mono (by decide)) pass0 (pa_cons (pv 0) pa_nil)))
      (pss_cons (ps_set (i := 2) sc_law.nd rfl (by first | exact Or.inl rfl | exact Or.inr rfl) (pe_callD G_Ldrawn (hr.mono (by decide)) pass0 (pa_cons (pv 1) pa_nil)))
      (pss_cons (ps_set (i := 3) sc_law.nd rfl (by first | exact Or.inl rfl | exact Or.inr rfl) (pe_callB (id := "len") call_lenU (by rfl) T.b_len (by decide +kernel) (pa_cons (pe_ix ix_tup (pv 2) pe_int (fun _ _ => rfl)) pa_nil)))
      (pss_cons (ps_set (i := 4) sc_law.nd rfl (by first | exact Or.inl rfl | exact Or.inr rfl) (pe_make MK G_Map_init (hr.mono (by decide)) (by rfl) mgMap b_Map_init .nil pass0 (pa_cons (pe_ix ix_tup (pv 2) pe_int (fun _ _ => rfl)) (pa_cons (pe_ix ix_tup (pv 2) pe_int (fun _ _ => rfl)) (pa_cons (pe_ix ix_tup (pv 2) pe_int (fun _ _ => rfl)) pa_nil)))))
      (pss_cons (ps_set (i := 5) sc_law.nd rfl (by first | exact Or.inl rfl | exact Or.inr rfl) (pe_callD G_Lways (hr.mono (by decide)) pass0 (pa_cons (pv 2) pa_nil)))
      (pss_cons (ps_set (i := 6) sc_law.nd rfl (by first | exact Or.inl rfl | exact Or.inr rfl) (pe_callD G_Ldraw (hr.mono (by decide)) pass0 (pa_cons (pv 1) (pa_cons pe_int pa_nil))))
      (pss_cons (ps_if (pt_cmpR op_gt (pe_callB (id := "len") call_lenU (by rfl) T.b_len (by decide +kernel) (pa_cons (pv 5) pa_nil)) pe_int (nomark _)) (pss_one (ps_ret (pe_cmpR (op_eqD hr.units) (pe_callD G_Ltold (hr.mono (by decide)) pass0 (pa_cons (pv 4) (pa_cons (pv 6) pa_nil))) (pe_tup (pa_cons pe_str (pa_cons pe_int pa_nil))) (nomark _)))) pss_nil)
      (pss_cons (ps_set (i := 7) sc_law.nd rfl (by first | exact Or.inl rfl | exact Or.inr rfl) (pe_cmpR op_eq (pe_callB (id := "max") (cr_max (by rfl)) (by rfl) T.b_max (by decide +kernel) (pa_cons (pe_lc (own := [("_law_way", 8)]) (g := (gName 8)) (tt := tYes) (te := (tCB (rLenU K) (tCons (tVar 8) tNil))) (by rfl) sc_law.nd (pi_list (pv 5)) (blkOk_by (own := [("_law_way", 8)]) (N := ["_law_script", "_law_hand_here", "_law_parts_here", "_law_many", "_law_chart", "_law_every", "_law_most", "_law_single", "_law_way", "_law_word", "_law_told_here", "_law_kept", "_law_at", "_law_fewer"]) (sc := defScope s_law) (by decide +kernel)) (fun _ _ _ _ _ => (pg_name (i := 8) sc_law.nd rfl (by first | exact Or.inl rfl | exact Or.inr rfl))) (fun _ _ _ _ _ => pts_nil) (fun _ _ _ _ _ => (pe_callB (id := "len") call_lenU (by rfl) T.b_len (by decide +kernel) (pa_cons (pv 8) pa_nil)))) pa_nil)) pe_int (nomark _)))
      (pss_cons (ps_if (PW.pt (pw_and (pt_cmpR op_gt (pe_callB (id := "len") call_lenU (by rfl) T.b_len (by decide +kernel) (pa_cons (pv 5) pa_nil)) pe_int (nomark _)) (pw_and (pt_not (pt_val (pv 7))) (pw_and1 (pt_cmpR op_isN (pe_callD G_Lmeeting (hr.mono (by decide)) pass0 (pa_cons (pv 5) (pa_cons (pv 3) (pa_cons (pv 6) pa_nil)))) pe_non (nomark _)))))) (pss_one (ps_set (i := 6) sc_law.nd rfl (by first | exact Or.inl rfl | exact Or.inr rfl) (pe_callB (id := "min") (call_min2 (by rfl)) (by rfl) T.b_min (by decide +kernel) (pa_cons (pv 6) (pa_cons (pe_op op_sub pe_int (pe_callTy (T := "int") call_intU (by rfl) T.b_int (by decide +kernel) (pa_cons (pe_cmpR op_gt (pe_callB (id := "len") call_lenU (by rfl) T.b_len (by decide +kernel) (pa_cons (pv 5) pa_nil)) pe_int (nomark _)) pa_nil))) pa_nil))))) pss_nil)
      (pss_cons (ps_asg (pe_callD G_Ltold (hr.mono (by decide)) pass0 (pa_cons (pv 4) (pa_cons (pv 6) pa_nil))) (pg_tup (by rfl) (pgs_cons (pg_name (i := 9) sc_law.nd rfl (by first | exact Or.inl rfl | exact Or.inr rfl)) (pgs_cons (pg_name (i := 10) sc_law.nd rfl (by first | exact Or.inl rfl | exact Or.inr rfl)) pgs_nil))))
      (pss_cons (ps_if (pt_cmpR op_ne (pv 9) pe_str (nomark _)) (pss_one (ps_ret pe_bl)) pss_nil)
      (pss_cons (ps_if (pt_cmpR op_notN (pe_callD G_Lmeeting (hr.mono (by decide)) pass0 (pa_cons (pv 5) (pa_cons (pv 3) (pa_cons (pv 6) pa_nil)))) pe_non (nomark _)) (pss_one (ps_ret (pe_cmpR op_isN (pv 10) pe_non (nomark _)))) pss_nil)
      (pss_cons (ps_if (pt_not (pt_val (pe_callD G_Lare_apart (hr.mono (by decide)) pass0 (pa_cons (pv 2) (pa_cons (pv 5) (pa_cons (pv 10) (pa_cons (pv 6) pa_nil))))))) (pss_one (ps_ret pe_bl)) pss_nil)
      (pss_cons (ps_set (i := 11) sc_law.nd rfl (by first | exact Or.inl rfl | exact Or.inr rfl) (pe_callTy (T := "list") call_list_of (by rfl) T.b_list (by decide +kernel) (pa_cons (pv 10) pa_nil)))
      (pss_cons (ps_expr (pe_bm0 PySem.F.plainAttrs_list PySem.F.slot_list_clear PySem.F.type_list_clear mt_clear (pv 10)))
      (pss_cons (ps_if (PW.pt (pw_or (pt_cmpR (op_neD hr.units) (pe_callD G_ways_enough (hr.mono (by decide)) (passE (E := E0) (fun _ _ _ h => h)) (pa_cons (pv 4) (pa_cons (pv 6) pa_nil))) (pv 11) (nomark _)) (pw_or1 (pt_cmpR op_notN (pe_callD G_met_by (hr.mono (by decide)) pass0 (pa_cons (pv 4) (pa_cons (pe_callTy (T := "list") call_list_of (by rfl) T.b_list (by decide +kernel) (pa_cons (pv 11) pa_nil)) (pa_cons (pv 6) pa_nil)))) pe_non (nomark _))))) (pss_one (ps_ret pe_bl)) pss_nil)
      (pss_cons (ps_if (PW.pt (pw_and (pt_cmpR op_lt (pv 6) pe_int (nomark _)) (pw_and1 (pt_cmpR op_ne (pe_callB (id := "repr") (cr_reprO hr.units rfl) (by rfl) T.b_repr (by decide +kernel) (pa_cons (pe_callD G_met_by (hr.mono (by decide)) pass0 (pa_cons (pv 4) (pa_cons (pe_callTy (T := "list") call_list_of (by rfl) T.b_list (by decide +kernel) (pa_cons (pv 11) pa_nil)) (pa_cons (pe_op op_add (pv 6) pe_int) pa_nil)))) pa_nil)) (pe_callB (id := "repr") (cr_reprO hr.units rfl) (by rfl) T.b_repr (by decide +kernel) (pa_cons (pe_callD G_Lmeeting (hr.mono (by decide)) pass0 (pa_cons (pv 11) (pa_cons (pv 3) (pa_cons (pe_op op_add (pv 6) pe_int) pa_nil)))) pa_nil)) (nomark _))))) (pss_one (ps_ret pe_bl)) pss_nil)
      (pss_cons (ps_for PassesOwn.never rfl (pi_range1 (by rfl) T.b_range (pa_cons (pe_callB (id := "len") call_lenU (by rfl) T.b_len (by decide +kernel) (pa_cons (pv 11) pa_nil)) pa_nil)) (pg_name (i := 12) sc_law.nd rfl (by first | exact Or.inl rfl | exact Or.inr rfl))
      (pss_cons (ps_set (i := 13) sc_law.nd rfl (by first | exact Or.inl rfl | exact Or.inr rfl) (pe_op op_cat (pe_slice sl_list (pv 11) po_none (po_some (pv 12))) (pe_slice sl_list (pv 11) (po_some (pe_op op_add (pv 12) pe_int)) po_none)))
      (pss_one (ps_if (pt_cmpR op_ne (pe_callB (id := "repr") (cr_reprO hr.units rfl) (by rfl) T.b_repr (by decide +kernel) (pa_cons (pe_callD G_met_by (hr.mono (by decide)) pass0 (pa_cons (pv 4) (pa_cons (pe_callTy (T := "list") call_list_of (by rfl) T.b_list (by decide +kernel) (pa_cons (pv 13) pa_nil)) (pa_cons (pv 6) pa_nil)))) pa_nil)) (pe_callB (id := "repr") (cr_reprO hr.units rfl) (by rfl) T.b_repr (by decide +kernel) (pa_cons (pe_callD G_Lmeeting (hr.mono (by decide)) pass0 (pa_cons (pv 13) (pa_cons (pv 3) (pa_cons (pv 6) pa_nil)))) pa_nil)) (nomark _)) (pss_one (ps_ret pe_bl)) pss_nil))))
      (pss_one (ps_ret pe_bl)))))))))))))))))))), ?_⟩
  -- hand, parts, many
  refine ⟨_, rfl, a, ns, rfl, ha, hn, fun H1 h c s1 hH1 hh0 hc0 => ?_⟩
  dsimp only [gName]
  refine ⟨_, rfl, h, c, rfl, hH1, fun H2 pv S2 hH2 hD => ?_⟩
  obtain ⟨es, n, g, hP, MP⟩ := hD
  have fit := MP.fit
  have G := fit.good
  have hn2 := MP.n2
  have hn12 := MP.n12
  have hes := MP.len
  have hn0 : 0 < n := by omega
  have hg0 := fit.g0
  obtain ⟨pp, va, cg, rfl, hpp, ⟨ar, as, rfl, har, hA⟩, hcg⟩ := id hP
  dsimp only [gName]
  refine ⟨_, rfl, pp, _, 1, .ref ar, rfl, rfl, SqT.of hpp, rfl, ar, _, rfl, .inr (SqT.of har), ?_⟩
  rw [hA.len]
  dsimp only [gName]
  -- chart
  refine ⟨_, rfl, pp, _, 0, .int (n : Int), rfl, rfl, SqT.of hpp, rfl, _, rfl, pp, _, 1, .ref ar, rfl, rfl, SqT.of hpp, rfl, _, rfl, pp, _, 2, .ref cg, rfl, rfl, SqT.of hpp, rfl, fun x dx hx hdx hne => ?_⟩
  have sm : ∀ b o, H2 b = some o → (upd (upd H2 dx (.own x)) x (.ins CM dx [])) b = some o := fun b o e => by
    rw [upd_ne (ne_of_none e hx), upd_ne (ne_of_none e hdx)]
    exact e
  refine ⟨x, dx, .ref ar, es, n, g, cg, rfl, upd_same, ⟨ar, as, rfl, sm _ _ har, ANs.kt (fun b xs e => sm b _ e) hA⟩, sm _ _ hcg, G, hn2, by omega, by omega, hg0, fit.gn, fit.lead, fun H3 S3 hC3 => ⟨rfl, ?_⟩⟩
  have s23 : Same H2 H3 := fun b o e => S3 b o (sm b o e) (ne_of_none e hx)
  generalize V.ref x = cv at hC3
  have hP3 := hP.kt (Kt.same s23)
  have hH3 := hH2.same s23
  dsimp only [gName]
  -- every
  refine ⟨_, rfl, _, es, n, g, rfl, hP3, G, hn0, by omega, hes, hg0, fun H4 ev hN4 => ?_⟩
  obtain ⟨el, rfl, s34, hel0, xs, hel, hX⟩ := hN4
  have hH4 := hH3.same s34
  have hlt : ∀ w ∈ sortW (allWays es g n), ∀ k ∈ w, k < es.length := fun w hw => way_lt G hn0 ((sortW_perm _).mem_iff.mp hw)
  have L4 : LawSt K H4 (.ref pp) cv el xs es n g := ⟨hP3.kt (Kt.same s34), hC3.same s34, hel, hX⟩
  dsimp only [gName]
  -- most
  refine ⟨_, rfl, h, c, 5, rfl, hH4, by decide, by decide, fun H6 r S6 hH6 hr5 => ?_⟩
  have hr4 : r ≤ 4 := by omega
  have L6 : LawSt K H6 (.ref pp) cv el xs es n g := ⟨L4.parts.kt (S6.kt hH4.lst.choose_spec), L4.chart.sameB S6 hH4.lst.choose_spec, S6 _ _ L4.el (hH3.nh hel0), L4.xs.kt (S6.kt hH4.lst.choose_spec)⟩
  clear L4 hel hX
  dsimp only [gName]
  have hxl := L6.xs.len
  have hAl : (sortW (allWays es g n)).length = (allWays es g n).length := (sortW_perm _).length_eq
  -- if len(every) > 12
  refine ⟨_, rfl, el, _, rfl, .inl (SqL.of L6.el), _, _, rfl, rfl, _, rfl, ?_⟩
  by_cases h12 : (allWays es g n).length ≤ 12
  case neg =>
    rw [decide_eq_true (by omega : (12 : Int) < (xs.length : Int))]
    refine iteT ?_
    refine ⟨_, rfl, _, rfl, cv, es, n, g, r, rfl, L6.chart, G, hn0, by omega, hes, hg0, hr4, fun q => absurd q h12, fun _ H7 p s7 hp7 => ⟨line_le (by show 2 ≤ _; omega), fun p2 hp2 => ?_⟩⟩
    have s8 : Same H7 (upd H7 p2 (.tup [.str "many", .int 12])) := Same.new hp2
    refine ⟨.tuple [.str "many", .int 12], .tuple [.str "many", .int 12], .tup (SqT.of (s8 _ _ hp7)) (.cons (.str _) (.cons (.int _) .nil)), .tup (SqT.of upd_same) (.cons (.str _) (.cons (.int _) .nil)), by decide +kernel, by decide +kernel, ?_⟩
    show V.bl _ = V.bl true
    rw [SeqAt.eqv_refl _ (by decide +kernel)]
  rw [decide_eq_false (by omega : ¬ (12 : Int) < (xs.length : Int))]
  refine iteF ?_
  -- single
  refine ⟨_, rfl, el, rfl, ⟨_, SqL.of L6.el⟩, fun D hD => lcL (R := IV) IV.kt (outM (sortW (allWays es g n)) fun w => (w.length : Int)) hD (SqL.of L6.el) (outM_0 _ _) (fun i => Nat.lt_of_le_of_lt (outM_len _ _ _) (by omega)) ?_ ?_⟩
  · intro u x H9 N2 hu9 s9 Nx2
    obtain ⟨way, hway, cw, rfl, hcw⟩ := (L6.xs.kt (Kt.same s9)).get hu9
    refine ⟨rfl, yesGo ?_⟩
    refine ⟨_, rfl, cw, iVs way, rfl, .inr (SqT.of hcw), ?_⟩
    rw [iVs_len]
    exact Nx2.yes H9 _ _ (Same.refl _) rfl (outM_1 hway)
  intro H7 zs s67 hD7 r7
  have e7 := iv_map r7
  rw [hxl, outM_all (Nat.le_refl _)] at e7
  subst e7
  have hne : 0 < (allWays es g n).length := List.length_pos_iff.mpr (ways_ne G hn0 fit.lead)
  refine ⟨D, _, rfl, SqL.of hD7, by rw [List.length_map]; omega, fun mx _ _ => ⟨rfl, ?_⟩⟩
  generalize decide (V.int mx = V.int 1) = sg
  have L7 := L6.same s67
  clear hD7
  dsimp only [gName]
  -- most, perhaps less
  refine seq_by (fun σ H8 => ∃ m : Nat, σ = [some (.ref a), some (.ref h), some (.ref pp), some (.int (es.length : Int)), some cv, some (.ref el), some (.int (m : Int)), some (.bl sg), none, none, none, none, none, none] ∧ m ≤ 4 ∧ Same H7 H8) ?_ ?_
  · rintro σ H8 ⟨m, rfl, hm4, s78⟩
    have L8 := L7.same s78
    clear L7 L6 r7
    -- word, told
    refine ⟨_, rfl, _, rfl, cv, es, n, g, m, rfl, L8.chart, G, hn0, by omega, hes, hg0, hm4, fun _ H9 p tv s89 hp9 hO => ?_, fun q => absurd q (by omega)⟩
    have L9 := L8.same s89
    refine ⟨p, _, rfl, SqT.of hp9, rfl, _, _, rfl, _, _, rfl, rfl, ?_⟩
    refine ⟨_, rfl, rfl, _, rfl, ?_⟩
    rw [decide_eq_true rfl]
    refine iteF ?_
    -- the law's own lot
    refine ⟨_, rfl, _, rfl, _, rfl, el, xs, sortW (allWays es g n), es.length, m, rfl, L9.el, L9.xs, by omega, by omega, by omega, fun H10 v10 s10 h10 => ?_⟩
    have hmem : ∀ w ∈ sortW (allWays es g n), w ∈ allWays es g n := fun w hw => (sortW_perm _).mem_iff.mp hw
    have hWs : Ways es.length (sortW (allWays es g n)) := ⟨hlt, fun w hw => way_ne G hn0 hg0 (hmem w hw), fun w hw => way_nodup G hn0 (hmem w hw)⟩
    cases hm : meetF (List.range es.length) (sortW (allWays es g n)) m with
    | some lot =>
      rw [hm] at h10
      obtain ⟨b, rfl, hb⟩ := h10
      rw [enough_none (by rw [hm]; simp)] at hO
      obtain rfl : tv = .non := hO
      exact ⟨rfl, _, rfl, iteT ⟨_, rfl, rfl, rfl⟩⟩
    | none =>
      rw [hm] at h10
      obtain rfl : v10 = .non := h10
      refine ⟨rfl, _, rfl, iteF ?_⟩
      obtain ⟨Ps, p1, p2, p3⟩ := menger G hn0 (most := m) ((meet_perm (sortW_perm _).symm m).trans hm)
      obtain ⟨L, hL, hLl, hLs, hAp, hLn⟩ := enough_some hWs hm ⟨Ps, p1, fun p hp => (sortW_perm _).mem_iff.mpr (p2 p hp), p3⟩
      have hLa : ∀ w ∈ L, w ∈ allWays es g n := fun w hw => hmem w (hLs w hw)
      rw [hL] at hO
      obtain ⟨tl, rfl, _, htl0, ys, htl, hY⟩ := hO
      have hyl := hY.len
      have L10 := L9.same s10
      have htl10 := s10 _ _ htl
      have hY10 := hY.kt (Kt.same s10)
      refine ⟨_, rfl, _, rfl, _, rfl, _, rfl, .ref pp, el, tl, es, n, g, m, xs, ys, _, L, rfl, L10.parts, L10.el, L10.xs, htl10, hY10, hes, hLl, by omega, hLs, hWs.sub hLs, hAp, fun H11 s11 => ⟨_, rfl, iteF ?_⟩⟩
      -- kept = list(told); told.clear()
      have htl11 := s11 _ _ htl10
      refine ⟨_, rfl, tl, ys, rfl, .inl (SqL.of htl11), fun kl hkl => ?_⟩
      have s12 : Same H11 (upd H11 kl (.lst ys)) := Same.new hkl
      have hkl12 : (upd H11 kl (.lst ys)) kl = some (.lst ys) := upd_same
      generalize upd H11 kl (.lst ys) = H12 at *
      have htl12 := s12 _ _ htl11
      have ntk : kl ≠ tl := (ne_of_none htl11 hkl).symm
      dsimp only [gName]
      refine ⟨_, rfl, .inl ⟨rfl, _, SqL.of htl12⟩, tl, ys, rfl, rfl, htl12, ?_⟩
      have s13 : Same H8 (upd H12 tl (.lst [])) := ((((s89.trans s10).trans s11)).trans s12).mut htl0
      have hkl13 : (upd H12 tl (.lst [])) kl = some (.lst ys) := by rw [upd_ne ntk]; exact hkl12
      have hY13 : TNs (upd H12 tl (.lst [])) ys L := ((hY10.kt (Kt.same s11)).kt (Kt.same s12)).kt (Kt.lst htl12)
      generalize upd H12 tl (.lst []) = H13 at *
      have L13 := L8.same s13
      clear L8 L9 L10 hY hY10 htl htl10 htl11 htl12 hkl12 hp9
      -- told again, met by none
      refine ⟨_, rfl, _, rfl, cv, es, n, g, m, rfl, L13.chart, G, hn0, by omega, hes, hg0, hm4, fun _ H14 v14 s14 hO => ?_, fun q => absurd q (by omega)⟩
      rw [hL] at hO
      obtain ⟨tl2, rfl, _, _, ys2, htl2, hY2⟩ := hO
      have L14 := L13.same s14
      refine ⟨_, rfl, .list (L.map encW), .list (L.map encW), .lst (SqL.of htl2) (TNs.dp hY2), .lst (SqL.of (s14 _ _ hkl13)) (TNs.dp (hY13.kt (Kt.same s14))), encWs_shaped _, encWs_shaped _, _, rfl, ?_⟩
      rw [SeqAt.eqv_refl _ (by simp only [PyData.canLay0]; exact encWs_lay L)]
      refine iteF ?_
      refine ⟨_, rfl, _, rfl, kl, ys, rfl, .inl (SqL.of (s14 _ _ hkl13)), fun k2 hk2 => ?_⟩
      have s15 : Same H14 (upd H14 k2 (.lst ys)) := Same.new hk2
      refine ⟨_, rfl, cv, k2, ys, L, es, n, g, m, rfl, L14.chart.same s15, upd_same, (hY13.kt (Kt.same s14)).kt (Kt.same s15), G, hn0, by omega, hes, hg0, hLa, by omega, hm4, fun H16 v16 s16 h16 => ?_⟩
      rw [hLn] at h16
      obtain rfl : v16 = .non := h16
      refine ⟨rfl, _, rfl, iteF ?_⟩
      have s1316 := (s14.trans s15).trans s16
      dsimp only [tNext]
      -- repr of one more
      refine seq_by (fun σ H17 => σ = [some (.ref a), some (.ref h), some (.ref pp), some (.int (es.length : Int)), some cv, some (.ref el), some (.int (m : Int)), some (.bl sg), none, some (.str "told"), some (.ref tl), some (.ref kl), none, none] ∧ Same H13 H17) ?_ ?_
      · rintro σ H17 ⟨rfl, s17⟩
        have hkl17 := s17 _ _ hkl13
        refine ⟨_, rfl, kl, _, rfl, .inl (SqL.of hkl17), (ys.length : Int), rfl, by omega, by omega, for_range (lo := 0) (n := ys.length) (fun i σ H18 => ∃ y12 y13 : Option V, σ = [some (.ref a), some (.ref h), some (.ref pp), some (.int (es.length : Int)), some cv, some (.ref el), some (.int (m : Int)), some (.bl sg), none, some (.str "told"), some (.ref tl), some (.ref kl), y12, y13] ∧ Same H13 H18)
          ⟨_, _, rfl, s17⟩ ?_ ?_⟩
        · rintro i σ H18 hi ⟨y12, y13, rfl, s18⟩
          simp only [Int.zero_add]
          dsimp only [gName]
          have hkl18 := s18 _ _ hkl13
          have hY18 := hY13.kt (Kt.same s18)
          refine ⟨_, rfl, _, rfl, (i : Int), rfl, kl, ys, rfl, SqL.of hkl18, fun a1 h1 => ?_⟩
          rw [cut_lo (by omega)]
          have t1 : Same H18 (upd H18 a1 (.lst (ys.take i))) := Same.new h1
          have g1 : (upd H18 a1 (.lst (ys.take i))) a1 = some (.lst (ys.take i)) := upd_same
          generalize upd H18 a1 (.lst (ys.take i)) = A1 at *
          refine ⟨_, rfl, _, rfl, _, _, rfl, rfl, _, rfl, kl, ys, rfl, SqL.of (t1 _ _ hkl18), fun a2 h2 => ?_⟩
          rw [cut_hi (by omega)]
          have t2 : Same A1 (upd A1 a2 (.lst (ys.drop (i + 1)))) := Same.new h2
          have g2 : (upd A1 a2 (.lst (ys.drop (i + 1)))) a2 = some (.lst (ys.drop (i + 1))) := upd_same
          generalize upd A1 a2 (.lst (ys.drop (i + 1))) = A2 at *
          refine ⟨a1, a2, _, _, rfl, rfl, t2 _ _ g1, g2, line_le (by rw [List.length_take, List.length_drop]; omega), fun a3 h3 => ?_⟩
          have hZ18 : TNs H18 (ys.take i ++ ys.drop (i + 1)) (L.take i ++ L.drop (i + 1)) := (hY18.take i).app (hY18.drop (i + 1))
          have hZs : ∀ w ∈ L.take i ++ L.drop (i + 1), w ∈ L := fun w hw => by
            rcases List.mem_append.mp hw with hw | hw
            · exact List.mem_of_mem_take hw
            · exact List.mem_of_mem_drop hw
          have hZl : (L.take i ++ L.drop (i + 1)).length ≤ 1000 := by
            rw [List.length_append, List.length_take, List.length_drop]
            omega
          generalize ys.take i ++ ys.drop (i + 1) = zs at *
          generalize L.take i ++ L.drop (i + 1) = Z at *
          have t3 : Same A2 (upd A2 a3 (.lst zs)) := Same.new h3
          have g3 : (upd A2 a3 (.lst zs)) a3 = some (.lst zs) := upd_same
          generalize upd A2 a3 (.lst zs) = A3 at *
          have t03 := (t1.trans t2).trans t3
          have hZ3 := hZ18.kt (Kt.same t03)
          have L3 := L13.same (s18.trans t03)
          dsimp only [gName]
          refine ⟨_, rfl, _, rfl, a3, zs, rfl, .inl (SqL.of g3), fun a4 h4 => ?_⟩
          have t4 : Same A3 (upd A3 a4 (.lst zs)) := Same.new h4
          refine ⟨_, rfl, cv, a4, zs, Z, es, n, g, m, rfl, L3.chart.same t4, upd_same, hZ3.kt (Kt.same t4), G, hn0, by omega, hes, hg0, fun w hw => hLa w (hZs w hw), hZl, hm4, fun H19 v19 s19 h19 => ⟨v19, _, rfl, h19, fun l hl => meet_small hl hes (by omega), ?_⟩⟩
          have t35 := t4.trans s19
          refine ⟨_, rfl, _, rfl, _, rfl, a3, zs, Z, es.length, m, rfl, t35 _ _ g3, hZ3.kt (Kt.same t35), by omega, by omega, by omega, fun H20 v20 s20 h20 => ⟨v20, _, rfl, h20, fun l hl => meet_small hl hes (by omega), rfl, _, rfl, ?_⟩⟩
          rw [decide_eq_true rfl]
          exact iteF ⟨_, _, rfl, ((s18.trans t03).trans t35).trans s20⟩
        · rintro σ H18 ⟨y12, y13, rfl, s18⟩
          exact rfl
      · intro go
        refine ⟨_, rfl, _, _, rfl, rfl, _, rfl, ?_⟩
        by_cases hm3 : m < 4
        case neg =>
          rw [decide_eq_false (by omega : ¬ (m : Int) < 4)]
          exact iteF (iteF (go _ _ ⟨rfl, s1316⟩))
        rw [decide_eq_true (by omega : (m : Int) < 4)]
        refine iteT ?_
        have hkl16 := s1316 _ _ hkl13
        have hY16 := hY13.kt (Kt.same s1316)
        have L16 := L13.same s1316
        refine ⟨_, rfl, _, rfl, kl, ys, rfl, .inl (SqL.of hkl16), fun a4 h4 => ?_⟩
        have t4 : Same H16 (upd H16 a4 (.lst ys)) := Same.new h4
        refine ⟨_, rfl, _, _, rfl, rfl, cv, a4, ys, L, es, n, g, m + 1, rfl, L16.chart.same t4, upd_same, hY16.kt (Kt.same t4), G, hn0, by omega, hes, hg0, hLa, by omega, by omega, fun H19 v19 s19 h19 => ⟨v19, _, rfl, h19, fun l hl => meet_small hl hes (by omega), ?_⟩⟩
        have t35 := t4.trans s19
        refine ⟨_, rfl, _, rfl, _, rfl, _, _, rfl, rfl, kl, ys, L, es.length, m + 1, rfl, t35 _ _ hkl16, hY16.kt (Kt.same t35), by omega, by omega, by omega, fun H20 v20 s20 h20 => ⟨v20, _, rfl, h20, fun l hl => meet_small hl hes (by omega), rfl, _, rfl, ?_⟩⟩
        rw [decide_eq_true rfl]
        exact iteF (go _ _ ⟨rfl, (s1316.trans t35).trans s20⟩)
  · intro go
    have st := fun (m : Nat) (H' : Hp) (hm : m ≤ 4) (s' : Same H7 H') => go _ H' ⟨m, rfl, hm, s'⟩
    refine ⟨_, rfl, el, _, rfl, .inl (SqL.of L7.el), _, _, rfl, rfl, _, rfl, ?_⟩
    cases hb1 : decide ((6 : Int) < (xs.length : Int)) with
    | false => exact iteF (iteF (st r H7 hr4 (Same.refl _)))
    | true =>
      refine iteT ⟨_, rfl, _, rfl, ?_⟩
      cases sg with
      | true => exact iteF (iteF (st r H7 hr4 (Same.refl _)))
      | false =>
        refine iteT ?_
        refine ⟨_, rfl, _, rfl, _, rfl, el, xs, sortW (allWays es g n), es.length, r, rfl, L7.el, L7.xs, by omega, by omega, by omega, fun H8 v8 s8 h8 => ?_⟩
        cases hm : meetF (List.range es.length) (sortW (allWays es g n)) r with
        | some lot =>
          rw [hm] at h8
          obtain ⟨b, rfl, hb⟩ := h8
          exact ⟨rfl, _, rfl, iteF (st r H8 hr4 s8)⟩
        | none =>
          rw [hm] at h8
          obtain rfl : v8 = .non := h8
          refine ⟨rfl, _, rfl, iteT ?_⟩
          refine ⟨_, rfl, _, rfl, el, _, rfl, .inl (SqL.of (s8 _ _ L7.el)), _, _, rfl, rfl, .inr ⟨_, rfl, _, _, rfl, rfl, _, _, rfl, ?_⟩⟩
          obtain ⟨m, hm4, em⟩ := min_nat (r := r) (b := decide ((8 : Int) < (xs.length : Int))) hr4
          rw [em]
          exact st m H8 hm4 s8
end
end Ut
/-! The call of law by the one who asks: here the guards are known. -/
namespace Ut
open PySem PySem.Spec PyProof.Rows L2
/-- the script alone is told, and only if it is none of the module's objects -/
theorem script_told {P : Program} {w : World} {K : PySem.W.Frag} {h : Heap} {a : Addr} {vs : List Value} {ns : List Int} (KX : K.In h) (hob : h.get? a = some { cls := .type "list", data := .seq vs.toArray }) (hin : IntsAre vs ns) (hz : ns.length ≤ 4000) :
    ∃ H : Hp, SqL K H a (ns.map V.int) ∧ HOk P w H h ∧ (∀ b u, H b = some u → b = a ∧ K.lookup a = none ∧ ∃ o xs, u = .frz o (.lst xs)) := by
  have rv := vals_ints hin
  cases hk : K.lookup a with
  | none =>
    let H : Hp := fun b => if b = a then some (.frz { cls := .type "list", data := .seq vs.toArray } (.lst (ns.map V.int))) else none
    have hHa : H a = some (.frz { cls := .type "list", data := .seq vs.toArray } (.lst (ns.map V.int))) := if_pos rfl
    have hHb : ∀ b u, H b = some u → b = a ∧ u = .frz { cls := .type "list", data := .seq vs.toArray } (.lst (ns.map V.int)) := fun b u e => by
      by_cases hb : b = a
      · rw [hb, hHa] at e
        exact ⟨hb, (Option.some.inj e).symm⟩
      · rw [show H b = none from if_neg hb] at e
        cases e
    refine ⟨H, .inl (.inr ⟨_, hHa⟩), fun b u e => ?_, fun b u e => ?_⟩
    · obtain ⟨rfl, rfl⟩ := hHb b u e
      refine ⟨hob, ?_, vs, _, rv, hob⟩
      rw [List.length_map]
      exact line_le (by omega)
    · obtain ⟨h1, rfl⟩ := hHb b u e
      exact ⟨h1, rfl, _, _, rfl⟩
  | some o =>
    have e := KX a o hk
    rw [hob] at e
    obtain rfl := Option.some.inj e
    refine ⟨fun _ => none, .inr ⟨_, vs.toArray, _, hk, rfl, rfl, rfl, ?_, by simpa using rv⟩, fun b u e => absurd e (by simp), fun b u e => absurd e (by simp)⟩
    have h1 := hin.length
    rw [List.size_toArray]
    exact line_le (by omega)
theorem kind_script {v : Value} : ([(("_law_script" : Str), v)].all fun y => (defScope s_law).names.lookup y.1 == some .local || (defScope s_law).names.lookup y.1 == some .cell) = true := by
  have e : ((defScope s_law).names.lookup ("_law_script" : Str) == some .local || (defScope s_law).names.lookup ("_law_script" : Str) == some .cell) = true := by decide +kernel
  rw [List.all_cons, List.all_nil, Bool.and_true]
  exact e
theorem law_goes {P : Program} {w : World} {K : PySem.W.Frag} {mg mb : Str → Option Value} {fa a C fI CM : Addr} {s : Shared} {vs : List Value} {ns : List Int} (T : Tx K mg) (TM : TmTxt P K mg C fI) (M : MapK K mg CM) (hfa : mg "law" = some (.ref fa))
    (KX : K.In s.heap) (hgl : s.heap.Ns mainGlobals mg) (hbl : s.heap.Ns builtinsNs mb) (hbb : ∀ x : Str, x ≠ "__name__" → mb x = bootBuiltins x) (hlim : s.heap.NoLimit) (hgn : s.gens = #[])
    (hob : s.heap.get? a = some { cls := .type "list", data := .seq vs.toArray }) (hin : IntsAre vs ns) (hz : ns.length ≤ 63) :
    codeAny (model P w) callerA (.call (.ref fa) ⟨[.ref a], []⟩) (fun r s' => r = .ok (.ret (.bool true)) ∧ OldK s.heap s'.heap ∧ s'.os = s.os ∧ AllBare s'.gens) s := by
  obtain ⟨f, fd, hm, F⟩ := T.d_law.ex
  obtain rfl : f = fa := Value.ref.inj (Option.some.inj (hm.symm.trans hfa))
  obtain ⟨oc, od, kV, doc, pm, an, cdv, ct, osl, rfl, lk, hcd⟩ := F.ex
  obtain ⟨H, hS, hok, hH⟩ := script_told (P := P) (w := w) KX hob hin (by omega)
  -- what is not told stands in the ground
  have gone : ∀ {b : Addr} {o : Obj}, s.heap.get? b = some o → (∀ xs n, o.data ≠ .seq xs n) → H b = none := fun {b o} e nd => by
    cases q : H b with
    | none => rfl
    | some u =>
      obtain ⟨rfl, _⟩ := hH b u q
      rw [hob] at e
      obtain rfl := Option.some.inj e
      exact absurd rfl (nd _ _)
  have nsb : ∀ {b : Addr} {m : Str → Option Value}, s.heap.Ns b m → (hidT s.heap H).Ns b m := fun {b m} z => by
    obtain ⟨o, es, ep, e, d, k1, k2⟩ := z
    exact ⟨o, es, ep, hidT_get e (gone e fun xs n q => by rw [d] at q; cases q), d, k1, k2⟩
  have hK : K.In (hidT s.heap H) := fun b o e => hidT_get (KX b o e) (by
    cases q : H b with
    | none => rfl
    | some u =>
      obtain ⟨h1, h2, _⟩ := hH b u q
      rw [h1, h2] at e
      cases e)
  obtain ⟨mc, l1, l2⟩ := hlim
  have hMod : Mod K mg (hidT s.heap H) := ⟨hK, nsb hgl, ⟨mb, nsb hbl, hbb⟩, ⟨mc, nsb l1, l2⟩⟩
  have e0 : Env0 P w K mg (hidT s.heap H) callerA [] s H := ⟨rfl, hMod, fun b o e => of_hidT e, Nat.le_of_eq (hidT_size _ _), trivial, fun b hb => (List.not_mem_nil (show b ∈ ([] : List Addr) from hb)).elim, hok, .of_eq hgn⟩
  have hr : Room 9 callerA := ⟨rfl, by decide, by decide⟩
  refine Att.call_fn (binds := [("_law_script", .ref a)]) KX ⟨mc, l1, l2⟩ lk hcd (by decide) (.of_eq rfl) kind_script (fun s1 x => ?_) sc_law.co sc_law.gen sc_law.kind
  obtain ⟨t, ht, hq⟩ := law_body (P := P) (w := w) (base := hidT s.heap H) (s := s) (cdv := cdv) (fa := f) T TM M (hr.deeper _) hS (by omega)
  have I : Inv (cxOf CX0 P w K mg (hidT s.heap H) ["_law_script", "_law_hand_here", "_law_parts_here", "_law_many", "_law_chart", "_law_every", "_law_most", "_law_single", "_law_way", "_law_word", "_law_told_here", "_law_kept", "_law_at", "_law_fewer"] "law" (defScope s_law) f cdv callerA [] s H E0) [] (L2.start ["_law_script", "_law_hand_here", "_law_parts_here", "_law_many", "_law_chart", "_law_every", "_law_most", "_law_single", "_law_way", "_law_word", "_law_told_here", "_law_kept", "_law_at", "_law_fewer"] [.ref a]) H s1 :=
    inv_start sc_law rfl e0 rfl (us := [.ref a]) (.cons rfl .nil) x
  refine wpAny_mono (ht.run [] s1 _ H _ (I.wish _) hq) (fun fl s' z => ?_) fun e s' z => z.elim
  have z := z.unwish
  cases fl with
  | next =>
    obtain ⟨_, _, _, q⟩ := z
    exact q.elim
  | brk =>
    obtain ⟨_, _, _, q⟩ := z
    exact q.elim
  | cont =>
    obtain ⟨_, _, _, q⟩ := z
    exact q.elim
  | ret u =>
    obtain ⟨v, σ', H', J, ru, q⟩ := z
    obtain rfl : v = .bl true := q
    obtain rfl : u = Value.bool true := ru
    have un : Un [] [] H H' s.heap s'.heap := J.base
    refine ⟨rfl, OldK.of_keep fun b o e => ?_, J.os, J.bare⟩
    cases hb : H b with
    | none => exact un.keep b o e hb (by simp) (by simp)
    | some u =>
      obtain ⟨_, _, ob, ys, rfl⟩ := hH b u hb
      have e1 := (hok b _ hb).1
      have e2 := (J.hok b _ (un.frzs b ob _ hb)).1
      rw [e] at e1
      obtain rfl := Option.some.inj e1
      exact e2
theorem law_walk {l : PySem.W.OpenLaw} {q : Program} {loose : List Str} {XP : (Str → Option Value) → Heap → Prop} {YP : World → Heap → Prop} {d : DefRec} {K : Params → PySem.W.Frag} (hn : l.most = some 63) (hdf : d.params.defaults = []) (hd : d.name = "law")
    (hY : ∀ (w : World) (h : Heap), YP w h → (K w.params).In h)
    (F : ∀ (w : World) (mg : Str → Option Value) (h : Heap), (K w.params).In h → h.Ns mainGlobals mg → ∃ C fI CM : Addr, Tx (K w.params) mg ∧ TmTxt l.prog (K w.params) mg C fI ∧ MapK (K w.params) mg CM) :
    PySem.W.WalkO q loose XP YP l.row.toRowW d [] (fun f vs => PySem.call f vs) := by
  refine Att.attach_call hn hdf fun w _ s mg mb fa _ _ _ _ a vs ns G Y _ _ _ hmg hob hin hz hg => ?_
  have KX := hY w _ Y
  obtain ⟨C, fI, CM, T, TM, M⟩ := F w mg _ KX G.T.g
  rw [hd] at hmg
  exact law_goes T TM M hmg KX G.T.g G.T.b G.T.builtins G.T.nolimit hg hob hin hz
end Ut
/-! What the top has written, from what is found in it. -/
namespace Ut
open PySem PySem.Spec PyProof.Rows L2
section
variable {P : Program} {K : PySem.W.Frag} {h : Heap} {mg : Str → Option Value}
theorem def_mk (X : K.In h) (G : h.Ns mainGlobals mg) {x : Str} {st : Stmt} {f : Addr} {oc kV dc pm cd ct : Value} {od an : Option Addr} {sl : Array (Option Value)} (a : PySem.W.nsIn K mainGlobals x = some (some (.ref f)))
    (l : K.lookup f = some ⟨oc, od, .func (PySem.W.fnOf x x (defArgs st) (defBody st) (defScope st) .none kV dc pm an cd ct), sl⟩) (c : PySem.W.codeIn K cd x = true) (k : PySem.W.keepIn K (.ref f) = true) : DefAt K mg x st :=
  ⟨f, _, PySem.W.mg_of X G a, fun_mk l c k⟩
theorem con_mk (X : K.In h) (G : h.Ns mainGlobals mg) {x : Str} {i : Int} {t : Tok} (a : PySem.W.nsIn K mainGlobals x = some (some (.int i t))) : ∃ t, mg x = some (.int i t) := ⟨t, PySem.W.mg_of X G a⟩
/-- an error of the class at S is one that «except S» names -/
theorem named_self {S : Addr} (b : PySem.W.subIn K (.ref S) (.type "BaseException") = some true) (c : PySem.W.isClsIn K S = true) (t : PySem.W.typeIn K (.ref S) = some (.type "type")) (o : PySem.W.subIn K (.ref S) (.ref S) = some true) :
    PySem.W.exmOne K (.ref S) (.ref S) = some true := by
  have c2 : (PySem.W.clsIn K S).isSome = true := c
  unfold PySem.W.exmOne
  simp only [b]
  show (if (some true == some true) = true then PySem.W.kitCls K (.ref S) (.ref S) else none) = some true
  rw [if_pos (by decide)]
  show (if ((PySem.W.clsIn K S).isSome && PySem.W.typeIn K (.ref S) == some (.type "type")) = true then PySem.W.subIn K (.ref S) (.ref S) else none) = some true
  rw [c2, t, if_pos (by decide)]
  exact o
theorem tm_mk (X : K.In h) (G : h.Ns mainGlobals mg) {C fI N cda cc : Addr} {nm q : Str} {bs bm sub : List Value} {sn : List Str} {ab : Bool} {col : Option Bool} {dd : Option Addr} {k0 k1 k2 k3 k5 : Option Value} {oc kV doc pm ct ccl cl : Value} {od an cdd cld : Option Addr}
    {osl ccs csl : Array (Option Value)} {vs : Array Value} {file : Str} {tf : Tok}
    (aC : PySem.W.nsIn K mainGlobals "TooMany" = some (some (.ref C))) (aS : PySem.W.nsIn K mainGlobals "super" = some none) (xL : K.lookup C = some (excClassObj nm q C N bs bm true sn sub ab col dd k0 k1 k2 k3 k5 "ValueError.__new__")) (hb : PySem.HandSPX.refsVE bm = true)
    (sa : PySem.W.findIn K (.ref C) "__setattr__" = some (some (.builtin "object.__setattr__"))) (ga : PySem.W.findIn K (.ref C) "__getattribute__" = some (some (.builtin "BaseException.__getattribute__"))) (gg : PySem.W.findIn K (.ref C) "__getattr__" = some none) (nm1 : PySem.W.findIn K (.ref C) "most" = some none)
    (iC : PySem.W.findIn K (.ref C) "__init__" = some (some (.ref fI))) (tI : PySem.W.typeIn K (.ref fI) = some (.type "function")) (kC : PySem.W.keepIn K (.ref C) = true) (eC : PySem.W.subIn K (.ref C) (.type "BaseException") = some true) (vC : PySem.W.subIn K (.ref C) (.type "ValueError") = some true)
    (tC : PySem.W.typeIn K (.ref C) = some (.type "type")) (hC : PySem.W.hasDictIn K C = true) (cC : PySem.W.isClsIn K C = true) (sC : PySem.W.subIn K (.ref C) (.ref C) = some true) (mC : PySem.W.mroIn K C (.ref C) = some true)
    (op : PySem.W.nsIn K cStatics "thirdparty.any" = some none) (su : PySem.W.ks_superIn K C C "__init__" = some (some (.builtin "ValueError.__init__"))) (tp : (P.main.scope.names.lookup ("super" : Str)).isSome = false)
    (l1 : K.lookup fI = some ⟨oc, od, .func (PySem.W.ksFn "__init__" "TooMany.__init__" (L2.defArgs tmS) (L2.defBody tmS) (L2.defScope tmS) .none kV doc pm an (.ref cda) ct cc), osl⟩) (c1 : PySem.W.codeIn K (.ref cda) "TooMany.__init__" = true)
    (l2 : K.lookup cda = some ⟨ccl, cdd, .fields vs, ccs⟩) (v2 : vs[2]? = some (.str file tf)) (fl : ((P.main.file : Str) == file) = true) (l3 : K.lookup cc = some ⟨cl, cld, .cell (some (.ref C)), csl⟩) : TmTxt P K mg C fI :=
  { gC := PySem.W.mg_of X G aC, gS := PySem.W.mg_none_of X G aS, cls := ⟨nm, q, N, bs, bm, sn, sub, ab, col, dd, k0, k1, k2, k3, k5, xL, hb⟩, sa := sa, ga := ga, gg := gg, noN := nm1, iC := iC, tC := tI, kC := kC, exC := eC, veC := vC, tyC := tC, hdC := hC,
    te := named_self eC cC tC sC, self := mC, opq := op, sup := su, top := tp, fn := ⟨oc, od, kV, doc, pm, an, cda, cc, ct, osl, ccl, cdd, vs, ccs, file, tf, cl, cld, csl, l1, c1, l2, v2, fl, l3⟩ }
theorem map_mk (X : K.In h) (G : h.Ns mainGlobals mg) {C f1 f2 : Addr} {oc1 kV1 dc1 pm1 cd1 ct1 oc2 kV2 dc2 pm2 cd2 ct2 : Value} {od1 an1 od2 an2 : Option Addr} {sl1 sl2 : Array (Option Value)}
    (aC : PySem.W.nsIn K mainGlobals "Map" = some (some (.ref C))) (pg : PySem.W.plainGet K C Str.empty = true) (hd : PySem.W.hasDictIn K C = true) (po : PySem.W.plainOver K C = true) (sa : PySem.W.findIn K (.ref C) "__setattr__" = some (some (.builtin "object.__setattr__")))
    (n1 : PySem.W.findIn K (.ref C) "kept_many" = some none) (n2 : PySem.W.findIn K (.ref C) "kept_arrows" = some none) (n3 : PySem.W.findIn K (.ref C) "kept_goals" = some none) (n4 : PySem.W.findIn K (.ref C) "kept_left" = some none)
    (mk : PySem.W.makesIn K C = true) (kc : PySem.W.keepIn K (.ref C) = true) (a1 : PySem.W.findIn K (.ref C) "__init__" = some (some (.ref f1))) (i1 : PySem.W.isFn K (.ref f1) = true) (k1 : PySem.W.keepIn K (.ref f1) = true)
    (l1 : K.lookup f1 = some ⟨oc1, od1, .func (PySem.W.fnOf "__init__" "Map.__init__" (defArgs s_Map_init) (defBody s_Map_init) (defScope s_Map_init) .none kV1 dc1 pm1 an1 cd1 ct1), sl1⟩) (c1 : PySem.W.codeIn K cd1 "Map.__init__" = true)
    (a2 : PySem.W.findIn K (.ref C) "keep" = some (some (.ref f2))) (i2 : PySem.W.isFn K (.ref f2) = true) (k2 : PySem.W.keepIn K (.ref f2) = true)
    (l2 : K.lookup f2 = some ⟨oc2, od2, .func (PySem.W.fnOf "keep" "Map.keep" (defArgs s_Map_keep) (defBody s_Map_keep) (defScope s_Map_keep) .none kV2 dc2 pm2 an2 cd2 ct2), sl2⟩) (c2 : PySem.W.codeIn K cd2 "Map.keep" = true) : MapK K mg C :=
  { mg := PySem.W.mg_of X G aC, cls := ⟨pg, hd, po, sa⟩, n_many := n1, n_arrows := n2, n_goals := n3, n_left := n4, init := ⟨f1, _, ⟨mk, a1, i1, kc⟩, fun_mk l1 c1 k1⟩, keep := ⟨f2, _, ⟨a2, i2, k2⟩, fun_mk l2 c2 k2⟩ }
end
end Ut
open PySem PySem.W PyProof.Rows
set_option maxRecDepth 100000 in
set_option maxHeartbeats 0 in
theorem PySem.Challenge.cw_untriedways_k65_whole_ways_apart_holds : PySem.Challenge.rw_untriedways_k65_whole_ways_apart.Holds := by
  w_on; o_law; k_head; (case hw => w_witness2)
  k_fill
  refine Ut.law_walk (l := PySem.Challenge.rw_untriedways_k65_whole_ways_apart) rfl rfl rfl (fun w h Y => PySem.W.kIn_of Y) ?F
  case F =>
    intro w mg h KX G
    have d_is_integer : Ut.DefAt (L2.KOf KX) mg "is_integer" Ut.s_is_integer := by
      refine' Ut.def_mk KX G ?a ?l ?c ?k
      (case a => k_is); (case l => k_is); (case c => k_is); (case k => k_is)
    have d_is_between : Ut.DefAt (L2.KOf KX) mg "is_between" Ut.s_is_between := by
      refine' Ut.def_mk KX G ?a ?l ?c ?k
      (case a => k_is); (case l => k_is); (case c => k_is); (case k => k_is)
    have d_is_index : Ut.DefAt (L2.KOf KX) mg "is_index" Ut.s_is_index := by
      refine' Ut.def_mk KX G ?a ?l ?c ?k
      (case a => k_is); (case l => k_is); (case c => k_is); (case k => k_is)
    have d_check_number : Ut.DefAt (L2.KOf KX) mg "check_number" Ut.s_check_number := by
      refine' Ut.def_mk KX G ?a ?l ?c ?k
      (case a => k_is); (case l => k_is); (case c => k_is); (case k => k_is)
    have d_is_lot : Ut.DefAt (L2.KOf KX) mg "is_lot" Ut.s_is_lot := by
      refine' Ut.def_mk KX G ?a ?l ?c ?k
      (case a => k_is); (case l => k_is); (case c => k_is); (case k => k_is)
    have d_mask_of : Ut.DefAt (L2.KOf KX) mg "mask_of" Ut.s_mask_of := by
      refine' Ut.def_mk KX G ?a ?l ?c ?k
      (case a => k_is); (case l => k_is); (case c => k_is); (case k => k_is)
    have d_lot_of : Ut.DefAt (L2.KOf KX) mg "lot_of" Ut.s_lot_of := by
      refine' Ut.def_mk KX G ?a ?l ?c ?k
      (case a => k_is); (case l => k_is); (case c => k_is); (case k => k_is)
    have d_chosen : Ut.DefAt (L2.KOf KX) mg "chosen" Ut.s_chosen := by
      refine' Ut.def_mk KX G ?a ?l ?c ?k
      (case a => k_is); (case l => k_is); (case c => k_is); (case k => k_is)
    have d_are_arrows : Ut.DefAt (L2.KOf KX) mg "are_arrows" Ut.s_are_arrows := by
      refine' Ut.def_mk KX G ?a ?l ?c ?k
      (case a => k_is); (case l => k_is); (case c => k_is); (case k => k_is)
    have d_are_goals : Ut.DefAt (L2.KOf KX) mg "are_goals" Ut.s_are_goals := by
      refine' Ut.def_mk KX G ?a ?l ?c ?k
      (case a => k_is); (case l => k_is); (case c => k_is); (case k => k_is)
    have d_led_to : Ut.DefAt (L2.KOf KX) mg "led_to" Ut.s_led_to := by
      refine' Ut.def_mk KX G ?a ?l ?c ?k
      (case a => k_is); (case l => k_is); (case c => k_is); (case k => k_is)
    have d_check_one_goal : Ut.DefAt (L2.KOf KX) mg "check_one_goal" Ut.s_check_one_goal := by
      refine' Ut.def_mk KX G ?a ?l ?c ?k
      (case a => k_is); (case l => k_is); (case c => k_is); (case k => k_is)
    have d_longer_ways : Ut.DefAt (L2.KOf KX) mg "longer_ways" Ut.s_longer_ways := by
      refine' Ut.def_mk KX G ?a ?l ?c ?k
      (case a => k_is); (case l => k_is); (case c => k_is); (case k => k_is)
    have d_leads_on : Ut.DefAt (L2.KOf KX) mg "leads_on" Ut.s_leads_on := by
      refine' Ut.def_mk KX G ?a ?l ?c ?k
      (case a => k_is); (case l => k_is); (case c => k_is); (case k => k_is)
    have d_ways_of : Ut.DefAt (L2.KOf KX) mg "ways_of" Ut.s_ways_of := by
      refine' Ut.def_mk KX G ?a ?l ?c ?k
      (case a => k_is); (case l => k_is); (case c => k_is); (case k => k_is)
    have d_is_way : Ut.DefAt (L2.KOf KX) mg "is_way" Ut.s_is_way := by
      refine' Ut.def_mk KX G ?a ?l ?c ?k
      (case a => k_is); (case l => k_is); (case c => k_is); (case k => k_is)
    have d_meeting : Ut.DefAt (L2.KOf KX) mg "meeting" Ut.s_meeting := by
      refine' Ut.def_mk KX G ?a ?l ?c ?k
      (case a => k_is); (case l => k_is); (case c => k_is); (case k => k_is)
    have d_met_by : Ut.DefAt (L2.KOf KX) mg "met_by" Ut.s_met_by := by
      refine' Ut.def_mk KX G ?a ?l ?c ?k
      (case a => k_is); (case l => k_is); (case c => k_is); (case k => k_is)
    have d_ways_enough : Ut.DefAt (L2.KOf KX) mg "ways_enough" Ut.s_ways_enough := by
      refine' Ut.def_mk KX G ?a ?l ?c ?k
      (case a => k_is); (case l => k_is); (case c => k_is); (case k => k_is)
    have d_Lhand : Ut.DefAt (L2.KOf KX) mg "_law_hand" Ut.s_Lhand := by
      refine' Ut.def_mk KX G ?a ?l ?c ?k
      (case a => k_is); (case l => k_is); (case c => k_is); (case k => k_is)
    have d_Ldraw : Ut.DefAt (L2.KOf KX) mg "_law_draw" Ut.s_Ldraw := by
      refine' Ut.def_mk KX G ?a ?l ?c ?k
      (case a => k_is); (case l => k_is); (case c => k_is); (case k => k_is)
    have d_Lshuffled : Ut.DefAt (L2.KOf KX) mg "_law_shuffled" Ut.s_Lshuffled := by
      refine' Ut.def_mk KX G ?a ?l ?c ?k
      (case a => k_is); (case l => k_is); (case c => k_is); (case k => k_is)
    have d_Lparts : Ut.DefAt (L2.KOf KX) mg "_law_parts" Ut.s_Lparts := by
      refine' Ut.def_mk KX G ?a ?l ?c ?k
      (case a => k_is); (case l => k_is); (case c => k_is); (case k => k_is)
    have d_Ltail : Ut.DefAt (L2.KOf KX) mg "_law_tail" Ut.s_Ltail := by
      refine' Ut.def_mk KX G ?a ?l ?c ?k
      (case a => k_is); (case l => k_is); (case c => k_is); (case k => k_is)
    have d_Lrenamed : Ut.DefAt (L2.KOf KX) mg "_law_renamed" Ut.s_Lrenamed := by
      refine' Ut.def_mk KX G ?a ?l ?c ?k
      (case a => k_is); (case l => k_is); (case c => k_is); (case k => k_is)
    have d_Lways : Ut.DefAt (L2.KOf KX) mg "_law_ways" Ut.s_Lways := by
      refine' Ut.def_mk KX G ?a ?l ?c ?k
      (case a => k_is); (case l => k_is); (case c => k_is); (case k => k_is)
    have d_Lchosen : Ut.DefAt (L2.KOf KX) mg "_law_chosen" Ut.s_Lchosen := by
      refine' Ut.def_mk KX G ?a ?l ?c ?k
      (case a => k_is); (case l => k_is); (case c => k_is); (case k => k_is)
    have d_Lmeeting : Ut.DefAt (L2.KOf KX) mg "_law_meeting" Ut.s_Lmeeting := by
      refine' Ut.def_mk KX G ?a ?l ?c ?k
      (case a => k_is); (case l => k_is); (case c => k_is); (case k => k_is)
    have d_Lbundles : Ut.DefAt (L2.KOf KX) mg "_law_bundles" Ut.s_Lbundles := by
      refine' Ut.def_mk KX G ?a ?l ?c ?k
      (case a => k_is); (case l => k_is); (case c => k_is); (case k => k_is)
    have d_Lrails : Ut.DefAt (L2.KOf KX) mg "_law_rails" Ut.s_Lrails := by
      refine' Ut.def_mk KX G ?a ?l ?c ?k
      (case a => k_is); (case l => k_is); (case c => k_is); (case k => k_is)
    have d_Ldrawn : Ut.DefAt (L2.KOf KX) mg "_law_drawn" Ut.s_Ldrawn := by
      refine' Ut.def_mk KX G ?a ?l ?c ?k
      (case a => k_is); (case l => k_is); (case c => k_is); (case k => k_is)
    have d_Ltold : Ut.DefAt (L2.KOf KX) mg "_law_told" Ut.s_Ltold := by
      refine' Ut.def_mk KX G ?a ?l ?c ?k
      (case a => k_is); (case l => k_is); (case c => k_is); (case k => k_is)
    have d_Lare_apart : Ut.DefAt (L2.KOf KX) mg "_law_are_apart" Ut.s_Lare_apart := by
      refine' Ut.def_mk KX G ?a ?l ?c ?k
      (case a => k_is); (case l => k_is); (case c => k_is); (case k => k_is)
    have d_law : Ut.DefAt (L2.KOf KX) mg "law" Ut.s_law := by
      refine' Ut.def_mk KX G ?a ?l ?c ?k
      (case a => k_is); (case l => k_is); (case c => k_is); (case k => k_is)
    have b_len : mg "len" = none := by
      refine' mg_none_of KX G ?a
      (case a => k_is)
    have b_range : mg "range" = none := by
      refine' mg_none_of KX G ?a
      (case a => k_is)
    have b_isinstance : mg "isinstance" = none := by
      refine' mg_none_of KX G ?a
      (case a => k_is)
    have b_int : mg "int" = none := by
      refine' mg_none_of KX G ?a
      (case a => k_is)
    have b_bool : mg "bool" = none := by
      refine' mg_none_of KX G ?a
      (case a => k_is)
    have b_tuple : mg "tuple" = none := by
      refine' mg_none_of KX G ?a
      (case a => k_is)
    have b_list : mg "list" = none := by
      refine' mg_none_of KX G ?a
      (case a => k_is)
    have b_sorted : mg "sorted" = none := by
      refine' mg_none_of KX G ?a
      (case a => k_is)
    have b_all : mg "all" = none := by
      refine' mg_none_of KX G ?a
      (case a => k_is)
    have b_any : mg "any" = none := by
      refine' mg_none_of KX G ?a
      (case a => k_is)
    have b_enumerate : mg "enumerate" = none := by
      refine' mg_none_of KX G ?a
      (case a => k_is)
    have b_abs : mg "abs" = none := by
      refine' mg_none_of KX G ?a
      (case a => k_is)
    have b_max : mg "max" = none := by
      refine' mg_none_of KX G ?a
      (case a => k_is)
    have b_min : mg "min" = none := by
      refine' mg_none_of KX G ?a
      (case a => k_is)
    have b_sum : mg "sum" = none := by
      refine' mg_none_of KX G ?a
      (case a => k_is)
    have b_repr : mg "repr" = none := by
      refine' mg_none_of KX G ?a
      (case a => k_is)
    have c_MOST_PLACES : ∃ t, mg "MOST_PLACES" = some (.int 40 t) := by
      refine' Ut.con_mk KX G ?a
      (case a => k_is)
    have c_MOST_ARROWS : ∃ t, mg "MOST_ARROWS" = some (.int 60 t) := by
      refine' Ut.con_mk KX G ?a
      (case a => k_is)
    have c_MOST_GONE : ∃ t, mg "MOST_GONE" = some (.int 12 t) := by
      refine' Ut.con_mk KX G ?a
      (case a => k_is)
    obtain ⟨CM, mM⟩ : ∃ CM : Addr, Ut.MapK (L2.KOf KX) mg CM := by
      refine' ⟨_, Ut.map_mk KX G ?aC ?pg ?hd ?po ?sa ?n1 ?n2 ?n3 ?n4 ?mk ?kc ?a1 ?i1 ?k1 ?l1 ?c1 ?a2 ?i2 ?k2 ?l2 ?c2⟩
      (case aC => k_is)
      (case pg => k_is)
      (case hd => k_is)
      (case po => k_is)
      (case sa => k_is)
      (case n1 => k_is)
      (case n2 => k_is)
      (case n3 => k_is)
      (case n4 => k_is)
      (case mk => k_is)
      (case kc => k_is)
      (case a1 => k_is)
      (case i1 => k_is)
      (case k1 => k_is)
      (case l1 => k_is)
      (case c1 => k_is)
      (case a2 => k_is)
      (case i2 => k_is)
      (case k2 => k_is)
      (case l2 => k_is)
      (case c2 => k_is)
    obtain ⟨C, fI, mT⟩ : ∃ C fI : Addr, Ut.TmTxt (PySem.Challenge.rw_untriedways_k65_whole_ways_apart).prog (L2.KOf KX) mg C fI := by
      refine' ⟨_, _, Ut.tm_mk KX G ?aC ?aS ?xL ?hb ?sa ?ga ?gg ?nm1 ?iC ?tI ?kC ?eC ?vC ?tC ?hC ?cC ?sC ?mC ?op ?su ?tp ?l1 ?c1 ?l2 ?v2 ?fl ?l3⟩
      (case aC => first | k_is | rfl)
      (case aS => first | k_is | rfl)
      (case xL => first | k_is | rfl)
      (case hb => decide +kernel)
      (case sa => first | k_is | rfl)
      (case ga => first | k_is | rfl)
      (case gg => first | k_is | rfl)
      (case nm1 => first | k_is | rfl)
      (case iC => first | k_is | rfl)
      (case tI => first | k_is | rfl)
      (case kC => first | k_is | rfl)
      (case eC => first | k_is | rfl)
      (case vC => first | k_is | rfl)
      (case tC => first | k_is | rfl)
      (case hC => first | k_is | rfl)
      (case cC => first | k_is | rfl)
      (case sC => first | k_is | rfl)
      (case mC => first | k_is | rfl)
      (case op => first | k_is | rfl)
      (case su => first | k_is | rfl)
      (case tp => decide +kernel)
      (case l1 => first | k_is | rfl)
      (case c1 => first | k_is | rfl)
      (case l2 => first | k_is | rfl)
      (case v2 => rfl)
      (case fl => decide +kernel)
      (case l3 => first | k_is | rfl)
    exact ⟨C, fI, CM, ⟨d_is_integer, d_is_between, d_is_index, d_check_number, d_is_lot, d_mask_of, d_lot_of, d_chosen, d_are_arrows, d_are_goals, d_led_to, d_check_one_goal, d_longer_ways, d_leads_on, d_ways_of, d_is_way, d_meeting, d_met_by, d_ways_enough, d_Lhand, d_Ldraw, d_Lshuffled, d_Lparts, d_Ltail, d_Lrenamed, d_Lways, d_Lchosen, d_Lmeeting, d_Lbundles, d_Lrails, d_Ldrawn, d_Ltold, d_Lare_apart, d_law, b_len, b_range, b_isinstance, b_int, b_bool, b_tuple, b_list, b_sorted, b_all, b_any, b_enumerate, b_abs, b_max, b_min, b_sum, b_repr, c_MOST_PLACES, c_MOST_ARROWS, c_MOST_GONE⟩, mT, mM⟩
