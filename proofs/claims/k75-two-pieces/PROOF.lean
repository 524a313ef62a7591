import PyProof.Rows.All
import Wide.All
import OpenK.AllK
import Wide.FinOn
import HandS.ForMost
import HandS.Walk
import HandS.Codes
import KE.GoesEnum
import HandS.Conv
import HandS.SetFor
import HandS.Strs
import PyProof.DictCompW
import KE.KEqDict
import KE.KDictDisplayH
import HandS.DictComp
import HandS.Lambda
import HandS.Property
import HandS.IsInst
import HandS.More
import HandS.EndTab
import HandS.Defaults
import HandS.Style
import HandS.Star
import HandS.SortInts
import HandS.TupAny
import HandS.Wide
import PySem.Challenge.RW_heardwatch_k75_whole_hearing_in_two_piec
set_option Elab.async false
section
set_option linter.all false
/-! Heardwatch: watches, lots, rows that fit, settling, as plain functions over lists; their mathematics. -/
namespace HW
/-! ### ascending lists -/
theorem asc_head {a b : Nat} {xs ys : List Nat} (h1 : (a :: xs).Pairwise (· < ·)) (h2 : (b :: ys).Pairwise (· < ·)) (hm : ∀ x, x ∈ a :: xs ↔ x ∈ b :: ys) : a = b := by
  have p1 := List.pairwise_cons.mp h1
  have p2 := List.pairwise_cons.mp h2
  have ha : a ∈ b :: ys := (hm a).mp (List.mem_cons_self ..)
  have hb : b ∈ a :: xs := (hm b).mpr (List.mem_cons_self ..)
  rcases List.mem_cons.mp ha with e | e
  · exact e
  · rcases List.mem_cons.mp hb with e' | e'
    · exact e'.symm
    · have := p1.1 b e'
      have := p2.1 a e
      omega
theorem asc_ext : ∀ {l m : List Nat}, l.Pairwise (· < ·) → m.Pairwise (· < ·) → (∀ x, x ∈ l ↔ x ∈ m) → l = m
  | [], [], _, _, _ => rfl
  | [], b :: ys, _, _, h => absurd ((h b).mpr (List.mem_cons_self ..)) (by simp)
  | a :: xs, [], _, _, h => absurd ((h a).mp (List.mem_cons_self ..)) (by simp)
  | a :: xs, b :: ys, h1, h2, h => by
    have e := asc_head h1 h2 h
    subst e
    have p1 := List.pairwise_cons.mp h1
    have p2 := List.pairwise_cons.mp h2
    have : xs = ys := asc_ext p1.2 p2.2 fun x => by
      constructor
      · intro hx
        rcases List.mem_cons.mp ((h x).mp (List.mem_cons_of_mem _ hx)) with e | e
        · have := p1.1 x hx
          omega
        · exact e
      · intro hx
        rcases List.mem_cons.mp ((h x).mpr (List.mem_cons_of_mem _ hx)) with e | e
        · have := p2.1 x hx
          omega
        · exact e
    rw [this]
theorem asc_range (n : Nat) : (List.range n).Pairwise (· < ·) := List.pairwise_lt_range
theorem asc_filter {n : Nat} {p : Nat → Bool} : ((List.range n).filter p).Pairwise (· < ·) := (asc_range n).filter p
theorem asc_of_le {l : List Nat} (h : l.Pairwise (· ≤ ·)) (hn : l.Nodup) : l.Pairwise (· < ·) := by
  induction l with
  | nil => exact .nil
  | cons a r ih =>
    have p := List.pairwise_cons.mp h
    have q := List.nodup_cons.mp hn
    refine List.pairwise_cons.mpr ⟨fun x hx => ?_, ih p.2 q.2⟩
    have := p.1 x hx
    have : a ≠ x := fun e => q.1 (e ▸ hx)
    omega
/-- a sorted list of ints without repetitions is the lot that its members tell -/
theorem sorted_is {is : List Int} {m : List Nat} (hs : is.Pairwise (· ≤ ·)) (hn : is.Nodup) (ha : m.Pairwise (· < ·)) (hm : ∀ x : Int, x ∈ is ↔ ∃ g ∈ m, x = (g : Int)) : is = m.map fun g : Nat => (g : Int) := by
  have h0 : ∀ x ∈ is, 0 ≤ x := fun x hx => by
    obtain ⟨g, _, e⟩ := (hm x).mp hx
    omega
  have e1 : (is.map Int.toNat).map (fun g : Nat => (g : Int)) = is := by
    rw [List.map_map]
    conv => rhs; rw [← List.map_id is]
    refine List.map_congr_left fun x hx => ?_
    have := h0 x hx
    simp only [Function.comp, id]
    omega
  have e2 : is.map Int.toNat = m := by
    refine asc_ext ?_ ha fun g => ?_
    · refine asc_of_le ?_ ?_
      · rw [List.pairwise_map]
        refine hs.imp_of_mem fun {a b} ha hb hab => ?_
        omega
      · rw [List.Nodup, List.pairwise_map]
        refine List.Pairwise.imp_of_mem (fun {a b} ha hb hab => ?_) hn
        have := h0 a ha
        have := h0 b hb
        omega
    · rw [List.mem_map]
      constructor
      · rintro ⟨x, hx, e⟩
        obtain ⟨k, hk, e'⟩ := (hm x).mp hx
        have : k = g := by omega
        rw [← this]
        exact hk
      · intro hg
        exact ⟨(g : Int), (hm _).mpr ⟨g, hg, rfl⟩, by omega⟩
  rw [← e1, e2]

/-! ### watches -/
structure Wt where
  mv : List (List Nat)
  wd : List Nat
  deriving DecidableEq
def Wt.n (w : Wt) : Nat := w.mv.length
def Wt.goals (w : Wt) (p : Nat) : List Nat := w.mv.getD p []
def Wt.word (w : Wt) (g : Nat) : Nat := w.wd.getD g 0
structure Wt.Ok (w : Wt) (k : Nat) : Prop where
  n1 : 1 ≤ w.n
  n6 : w.n ≤ 6
  k1 : 1 ≤ k
  k4 : k ≤ 4
  line : ∀ l ∈ w.mv, l.length = k ∧ ∀ g ∈ l, g < w.n
  wl : w.wd.length = w.n
  wv : ∀ v ∈ w.wd, v ≤ 3
section
variable {w : Wt} {k : Nat}
theorem Wt.Ok.goals_len (h : w.Ok k) {p : Nat} (hp : p < w.n) : (w.goals p).length = k := by
  have e : w.goals p = w.mv[p]'hp := by
    unfold Wt.goals
    rw [List.getD_eq_getElem?_getD, List.getElem?_eq_getElem hp]
    rfl
  rw [e]
  exact (h.line _ (List.getElem_mem hp)).1
theorem Wt.Ok.goals_lt (h : w.Ok k) {p g : Nat} (hg : g ∈ w.goals p) : g < w.n := by
  by_cases hp : p < w.n
  · have e : w.goals p = w.mv[p]'hp := by
      unfold Wt.goals
      rw [List.getD_eq_getElem?_getD, List.getElem?_eq_getElem hp]
      rfl
    rw [e] at hg
    exact (h.line _ (List.getElem_mem hp)).2 g hg
  · unfold Wt.goals at hg
    rw [List.getD_eq_getElem?_getD, List.getElem?_eq_none (by unfold Wt.n at hp; omega)] at hg
    simp at hg
theorem Wt.Ok.word_le (h : w.Ok k) (g : Nat) : w.word g ≤ 3 := by
  unfold Wt.word
  rw [List.getD_eq_getElem?_getD]
  cases e : w.wd[g]? with
  | none => simp
  | some v => exact h.wv v (List.mem_of_getElem? e)
end

/-! ### lots -/
/-- the places behind a lot, a verdict being heard -/
def gl (w : Wt) (L : List Nat) (v : Nat) : List Nat := (List.range w.n).filter fun g => w.word g == v && L.any fun p => (w.goals p).contains g
theorem mem_gl {w : Wt} {k : Nat} (h : w.Ok k) {L : List Nat} {v g : Nat} : g ∈ gl w L v ↔ w.word g = v ∧ ∃ p ∈ L, g ∈ w.goals p := by
  unfold gl
  rw [List.mem_filter, List.mem_range]
  simp only [Bool.and_eq_true, beq_iff_eq, List.any_eq_true, List.contains_iff_mem]
  constructor
  · rintro ⟨_, a, p, hp, b⟩
    exact ⟨a, p, hp, b⟩
  · rintro ⟨a, p, hp, b⟩
    exact ⟨h.goals_lt b, a, p, hp, b⟩
theorem asc_gl (w : Wt) (L : List Nat) (v : Nat) : (gl w L v).Pairwise (· < ·) := asc_filter
theorem gl_lt {w : Wt} {L : List Nat} {v g : Nat} (h : g ∈ gl w L v) : g < w.n := by
  unfold gl at h
  exact List.mem_range.mp (List.mem_filter.mp h).1
theorem gl_congr {w : Wt} {k : Nat} (h : w.Ok k) {L M : List Nat} (hm : ∀ x, x ∈ L ↔ x ∈ M) (v : Nat) : gl w L v = gl w M v :=
  asc_ext (asc_gl ..) (asc_gl ..) fun g => by
    rw [mem_gl h, mem_gl h]
    constructor
    · rintro ⟨a, p, hp, b⟩
      exact ⟨a, p, (hm p).mp hp, b⟩
    · rintro ⟨a, p, hp, b⟩
      exact ⟨a, p, (hm p).mpr hp, b⟩
/-- the dict from the verdicts that can be heard next to the places behind them -/
def wb (w : Wt) (L : List Nat) : List (Nat × List Nat) := (List.range 4).filterMap fun v => if gl w L v = [] then none else some (v, gl w L v)
theorem mem_wb {w : Wt} {L : List Nat} {v : Nat} {G : List Nat} : (v, G) ∈ wb w L ↔ v < 4 ∧ G = gl w L v ∧ G ≠ [] := by
  unfold wb
  rw [List.mem_filterMap]
  constructor
  · rintro ⟨u, hu, e⟩
    by_cases hz : gl w L u = []
    · rw [if_pos hz] at e
      cases e
    · rw [if_neg hz] at e
      cases e
      exact ⟨List.mem_range.mp hu, rfl, hz⟩
  · rintro ⟨hv, e, hn⟩
    subst e
    exact ⟨v, List.mem_range.mpr hv, by rw [if_neg hn]⟩
theorem wb_keys (w : Wt) (L : List Nat) : (wb w L).map (·.1) = (List.range 4).filter fun v => decide (gl w L v ≠ []) := by
  unfold wb
  rw [List.map_filterMap]
  generalize List.range 4 = r
  induction r with
  | nil => rfl
  | cons a r ih =>
    by_cases hz : gl w L a = []
    · rw [List.filterMap_cons, List.filter_cons]
      simp only [hz, if_true, Option.map_none]
      simpa using ih
    · rw [List.filterMap_cons, List.filter_cons, if_neg hz, if_pos (by simpa using hz)]
      show a :: _ = a :: _
      rw [ih]
theorem wb_nodup (w : Wt) (L : List Nat) : ((wb w L).map (·.1)).Nodup := by
  rw [wb_keys]
  exact List.nodup_range.filter _
/-- there is a verdict to be heard behind a lot -/
theorem wb_ne {w : Wt} {k : Nat} (h : w.Ok k) {L : List Nat} (hL : ∀ p ∈ L, p < w.n) (hne : L ≠ []) : wb w L ≠ [] := by
  obtain ⟨p, r, rfl⟩ := List.exists_cons_of_ne_nil hne
  have hp := hL p (List.mem_cons_self ..)
  have hl := h.goals_len hp
  have : w.goals p ≠ [] := fun e => by
    rw [e] at hl
    have := h.k1
    simp at hl
    omega
  obtain ⟨g, q, e⟩ := List.exists_cons_of_ne_nil this
  have hg : g ∈ gl w (p :: r) (w.word g) := (mem_gl h).mpr ⟨rfl, p, List.mem_cons_self .., by rw [e]; exact List.mem_cons_self ..⟩
  intro z
  have : (w.word g, gl w (p :: r) (w.word g)) ∈ wb w (p :: r) := mem_wb.mpr ⟨by have := h.word_le g; omega, rfl, fun z => by rw [z] at hg; simp at hg⟩
  rw [z] at this
  simp at this
/-- the places behind a list heard -/
def placesBy (w : Wt) (L : List Nat) : List Nat → List Nat
  | [] => L
  | v :: hs => placesBy w (gl w L v) hs
theorem placesBy_append (w : Wt) : ∀ (a b : List Nat) (L : List Nat), placesBy w L (a ++ b) = placesBy w (placesBy w L a) b
  | [], _, _ => rfl
  | v :: a, b, L => placesBy_append w a b (gl w L v)
theorem placesBy_snoc (w : Wt) (L a : List Nat) (v : Nat) : placesBy w L (a ++ [v]) = gl w (placesBy w L a) v := placesBy_append w a [v] L
/-- a lot: ascending places of the watch -/
structure Lot (w : Wt) (L : List Nat) : Prop where
  asc : L.Pairwise (· < ·)
  lt : ∀ p ∈ L, p < w.n
theorem Lot.first {w : Wt} {k : Nat} (h : w.Ok k) : Lot w [0] := ⟨by simp, fun p hp => by have := h.n1; simp at hp; omega⟩
theorem Lot.gl (w : Wt) (L : List Nat) (v : Nat) : Lot w (gl w L v) := ⟨asc_gl w L v, fun _ h => gl_lt h⟩
theorem Lot.by {w : Wt} : ∀ {hs L : List Nat}, Lot w L → Lot w (placesBy w L hs)
  | [], _, h => h
  | v :: hs, L, _ => Lot.by (hs := hs) (Lot.gl w L v)
theorem Lot.ext {w : Wt} {L M : List Nat} (a : Lot w L) (b : Lot w M) (h : ∀ x, x ∈ L ↔ x ∈ M) : L = M := asc_ext a.asc b.asc h
/-- lots are put together -/
theorem mem_placesBy {w : Wt} {k : Nat} (h : w.Ok k) : ∀ (hs L : List Nat) (g : Nat), g ∈ placesBy w L hs ↔ ∃ p ∈ L, g ∈ placesBy w [p] hs
  | [], L, g => by
    show g ∈ L ↔ ∃ p ∈ L, g ∈ [p]
    constructor
    · intro hg
      exact ⟨g, hg, List.mem_singleton.mpr rfl⟩
    · rintro ⟨p, hp, e⟩
      rw [List.mem_singleton.mp e]
      exact hp
  | v :: hs, L, g => by
    show g ∈ placesBy w (gl w L v) hs ↔ ∃ p ∈ L, g ∈ placesBy w (gl w [p] v) hs
    rw [mem_placesBy h hs]
    constructor
    · rintro ⟨q, hq, hg⟩
      obtain ⟨a, p, hp, b⟩ := (mem_gl h).mp hq
      exact ⟨p, hp, (mem_placesBy h hs _ _).mpr ⟨q, (mem_gl h).mpr ⟨a, p, List.mem_singleton.mpr rfl, b⟩, hg⟩⟩
    · rintro ⟨p, hp, hg⟩
      obtain ⟨q, hq, hg⟩ := (mem_placesBy h hs _ _).mp hg
      obtain ⟨a, p', hp', b⟩ := (mem_gl h).mp hq
      rw [List.mem_singleton.mp hp'] at b
      exact ⟨q, (mem_gl h).mpr ⟨a, p, hp, b⟩, hg⟩
theorem placesBy_nil (w : Wt) : ∀ hs : List Nat, placesBy w [] hs = []
  | [] => rfl
  | v :: hs => by
    have e : HW.gl w [] v = [] := by
      unfold HW.gl
      rw [List.filter_eq_nil_iff]
      intro a _
      simp
    show placesBy w (HW.gl w [] v) hs = []
    rw [e]
    exact placesBy_nil w hs

/-! ### rows -/
/-- the place to which a row leads -/
def led (w : Wt) : Nat → List Nat → Nat
  | p, [] => p
  | p, e :: es => led w ((w.goals p).getD e 0) es
/-- the verdicts behind each event of a row -/
def told (w : Wt) : Nat → List Nat → List Nat
  | _, [] => []
  | p, e :: es => w.word ((w.goals p).getD e 0) :: told w ((w.goals p).getD e 0) es
theorem told_length (w : Wt) : ∀ (es : List Nat) (p : Nat), (told w p es).length = es.length
  | [], _ => rfl
  | e :: es, p => by
    show (told w _ es).length + 1 = es.length + 1
    rw [told_length w es]
theorem goal_mem {w : Wt} {k : Nat} (h : w.Ok k) {p e : Nat} (hp : p < w.n) (he : e < k) : (w.goals p).getD e 0 ∈ w.goals p := by
  have hl := h.goals_len hp
  rw [List.getD_eq_getElem?_getD, List.getElem?_eq_getElem (by omega : e < (w.goals p).length)]
  exact List.getElem_mem _
theorem told_le {w : Wt} {k : Nat} (h : w.Ok k) : ∀ (es : List Nat) (p : Nat), ∀ v ∈ told w p es, v ≤ 3
  | [], _, v, hv => by simp [told] at hv
  | e :: es, p, v, hv => by
    rcases List.mem_cons.mp hv with z | z
    · rw [z]
      exact h.word_le _
    · exact told_le h es _ v z
theorem led_mem {w : Wt} {k : Nat} (h : w.Ok k) : ∀ (es : List Nat) (p : Nat), p < w.n → (∀ e ∈ es, e < k) → ∀ L, p ∈ L → led w p es ∈ placesBy w L (told w p es)
  | [], p, _, _, L, hL => hL
  | e :: es, p, hp, he, L, hL => by
    have hg := goal_mem h hp (he e (List.mem_cons_self ..))
    exact led_mem h es _ (h.goals_lt hg) (fun x hx => he x (List.mem_cons_of_mem _ hx)) _ ((mem_gl h).mpr ⟨rfl, p, hL, hg⟩)
theorem led_lt {w : Wt} {k : Nat} (h : w.Ok k) : ∀ (es : List Nat) (p : Nat), p < w.n → (∀ e ∈ es, e < k) → led w p es < w.n
  | [], p, hp, _ => hp
  | e :: es, p, hp, he => led_lt h es _ (h.goals_lt (goal_mem h hp (he e (List.mem_cons_self ..)))) fun x hx => he x (List.mem_cons_of_mem _ hx)
theorem told_take (w : Wt) : ∀ (es : List Nat) (p m : Nat), (told w p es).take m = told w p (es.take m)
  | [], p, m => by simp [told]
  | e :: es, p, 0 => by simp [told]
  | e :: es, p, m + 1 => by
    show w.word _ :: (told w _ es).take m = w.word _ :: told w _ (es.take m)
    rw [told_take w es]
theorem told_drop (w : Wt) : ∀ (es : List Nat) (p m : Nat), (told w p es).drop m = told w (led w p (es.take m)) (es.drop m)
  | [], p, m => by simp [told, led]
  | e :: es, p, 0 => by simp [led]
  | e :: es, p, m + 1 => by
    show (told w _ es).drop m = told w (led w _ (es.take m)) (es.drop m)
    exact told_drop w es _ m
/-- what was heard of a row can be heard, each beginning of it -/
theorem heard_ne {w : Wt} {k : Nat} (h : w.Ok k) {es : List Nat} {p : Nat} (hp : p < w.n) (he : ∀ e ∈ es, e < k) (m : Nat) : placesBy w [p] ((told w p es).take m) ≠ [] := by
  rw [told_take]
  have := led_mem h (es.take m) p hp (fun x hx => he x (List.mem_of_mem_take hx)) [p] (List.mem_singleton.mpr rfl)
  intro z
  rw [z] at this
  simp at this
/-- so many rows from a place fit -/
def cnt (w : Wt) : Nat → List Nat → Nat
  | _, [] => 1
  | p, v :: hs => ((w.goals p).map fun g => if w.word g = v then cnt w g hs else 0).sum
theorem sum_mul (c : Nat) : ∀ l : List Nat, (l.map fun x => x * c).sum = l.sum * c
  | [] => by simp
  | a :: l => by
    rw [List.map_cons, List.sum_cons, List.sum_cons, sum_mul c l, Nat.add_mul]
theorem cnt_append {w : Wt} {k : Nat} (h : w.Ok k) {q : Nat} (b : List Nat) : ∀ (a : List Nat) (p : Nat), (∀ g ∈ placesBy w [p] a, g = q) → cnt w p (a ++ b) = cnt w p a * cnt w q b
  | [], p, hq => by
    have e : p = q := hq p (List.mem_singleton.mpr rfl)
    rw [e]
    show cnt w q b = 1 * cnt w q b
    rw [Nat.one_mul]
  | v :: a, p, hq => by
    show ((w.goals p).map fun g => if w.word g = v then cnt w g (a ++ b) else 0).sum = ((w.goals p).map fun g => if w.word g = v then cnt w g a else 0).sum * cnt w q b
    rw [← sum_mul, List.map_map]
    congr 1
    refine List.map_congr_left fun g hg => ?_
    show (if w.word g = v then cnt w g (a ++ b) else 0) = (if w.word g = v then cnt w g a else 0) * cnt w q b
    by_cases hv : w.word g = v
    · rw [if_pos hv, if_pos hv]
      exact cnt_append h b a g fun g' hg' => hq g' ((mem_placesBy h a _ _).mpr ⟨g, (mem_gl h).mpr ⟨hv, p, List.mem_singleton.mpr rfl, hg⟩, hg'⟩)
    · rw [if_neg hv, if_neg hv, Nat.zero_mul]

/-! ### the first place and another one exchanged -/
def sw (p i : Nat) : Nat := if i = 0 then p else if i = p then 0 else i
theorem sw_sw (p i : Nat) : sw p (sw p i) = i := by
  unfold sw
  by_cases h0 : i = 0
  · by_cases hp : p = 0
    · simp [h0, hp]
    · simp [h0, hp]
  · by_cases hi : i = p
    · simp [h0, hi]
    · simp [h0, hi]
theorem sw_lt {n p i : Nat} (hp : p < n) (hi : i < n) : sw p i < n := by
  unfold sw
  split
  · exact hp
  · split
    · omega
    · exact hi
theorem sw_inj {p i j : Nat} (h : sw p i = sw p j) : i = j := by rw [← sw_sw p i, h, sw_sw]
theorem sw_zero (p : Nat) : sw p 0 = p := by simp [sw]
def swapW (w : Wt) (p : Nat) : Wt := ⟨(List.range w.n).map fun s => (w.goals (sw p s)).map (sw p), (List.range w.n).map fun s => w.word (sw p s)⟩
theorem swapW_n (w : Wt) (p : Nat) : (swapW w p).n = w.n := by simp [swapW, Wt.n]
theorem swapW_goals {w : Wt} {p s : Nat} (hs : s < w.n) : (swapW w p).goals s = (w.goals (sw p s)).map (sw p) := by
  unfold Wt.goals swapW
  simp only [List.getD_eq_getElem?_getD, List.getElem?_map, List.getElem?_range hs, Option.map_some, Option.getD_some]
  rfl
theorem swapW_word {w : Wt} {p s : Nat} (hs : s < w.n) : (swapW w p).word s = w.word (sw p s) := by
  unfold Wt.word swapW
  simp only [List.getD_eq_getElem?_getD, List.getElem?_map, List.getElem?_range hs, Option.map_some, Option.getD_some]
  rfl
theorem swapW_ok {w : Wt} {k p : Nat} (h : w.Ok k) (hp : p < w.n) : (swapW w p).Ok k where
  n1 := by rw [swapW_n]; exact h.n1
  n6 := by rw [swapW_n]; exact h.n6
  k1 := h.k1
  k4 := h.k4
  line := fun l hl => by
    obtain ⟨s, hs, rfl⟩ := List.mem_map.mp (show l ∈ (List.range w.n).map fun s => (w.goals (sw p s)).map (sw p) from hl)
    have hs := List.mem_range.mp hs
    refine ⟨by rw [List.length_map]; exact h.goals_len (sw_lt hp hs), fun g hg => ?_⟩
    obtain ⟨x, hx, rfl⟩ := List.mem_map.mp hg
    rw [swapW_n]
    exact sw_lt hp (h.goals_lt hx)
  wl := by simp [swapW, Wt.n]
  wv := fun v hv => by
    obtain ⟨s, _, rfl⟩ := List.mem_map.mp (show v ∈ (List.range w.n).map fun s => w.word (sw p s) from hv)
    exact h.word_le _
/-- two lots that are one, told of the watch and of the exchanged one -/
def Twin (w : Wt) (p : Nat) (L' L : List Nat) : Prop := ∀ x, x < w.n → (x ∈ L' ↔ sw p x ∈ L)
theorem Twin.gl {w : Wt} {k p : Nat} (h : w.Ok k) (hp : p < w.n) {L' L : List Nat} (a : Lot w L') (b : Lot w L) (t : Twin w p L' L) (v : Nat) : Twin w p (gl (swapW w p) L' v) (gl w L v) := by
  intro x hx
  rw [mem_gl (swapW_ok h hp), mem_gl h, swapW_word hx]
  constructor
  · rintro ⟨e, q, hq, hg⟩
    have hqn := a.lt q hq
    rw [swapW_goals hqn] at hg
    obtain ⟨y, hy, e'⟩ := List.mem_map.mp hg
    refine ⟨e, sw p q, (t q hqn).mp hq, ?_⟩
    rw [← e', sw_sw]
    exact hy
  · rintro ⟨e, q, hq, hg⟩
    have hqn := b.lt q hq
    have hs := sw_lt hp hqn
    refine ⟨e, sw p q, (t _ hs).mpr (by rw [sw_sw]; exact hq), ?_⟩
    rw [swapW_goals hs, sw_sw]
    exact List.mem_map.mpr ⟨sw p x, hg, sw_sw p x⟩
theorem Lot.swap {w : Wt} {p : Nat} {L : List Nat} (a : Lot (swapW w p) L) : Lot w L := ⟨a.asc, fun x hx => by rw [← swapW_n w p]; exact a.lt x hx⟩
theorem Twin.by {w : Wt} {k p : Nat} (h : w.Ok k) (hp : p < w.n) : ∀ (hs : List Nat) {L' L : List Nat}, Lot w L' → Lot w L → Twin w p L' L → Twin w p (placesBy (swapW w p) L' hs) (placesBy w L hs)
  | [], _, _, _, _, t => t
  | v :: hs, L', L, a, b, t => Twin.by h hp hs (Lot.swap (Lot.gl (swapW w p) L' v)) (Lot.gl w L v) (t.gl h hp a b v)
theorem Twin.first {w : Wt} {k p : Nat} (h : w.Ok k) (hp : p < w.n) : Twin w p [0] [p] := by
  intro x hx
  rw [List.mem_singleton, List.mem_singleton]
  constructor
  · intro e
    rw [e, sw_zero]
  · intro e
    exact sw_inj (e.trans (sw_zero p).symm)
theorem Lot.one {w : Wt} {p : Nat} (hp : p < w.n) : Lot w [p] := ⟨by simp, fun x hx => by rw [List.mem_singleton.mp hx]; exact hp⟩
/-- what the law tells of the places there: the ascending list of the exchanged ones -/
def there (n p : Nat) (L : List Nat) : List Nat := (List.range n).filter fun x => L.contains (sw p x)
theorem mem_there {n p : Nat} {L : List Nat} (hp : p < n) (hL : ∀ x ∈ L, x < n) {x : Nat} : x ∈ there n p L ↔ sw p x ∈ L := by
  unfold there
  rw [List.mem_filter, List.mem_range, List.contains_iff_mem]
  constructor
  · exact fun z => z.2
  · intro z
    refine ⟨?_, z⟩
    have := sw_lt hp (hL _ z)
    rw [sw_sw] at this
    exact this
theorem there_twin {w : Wt} {p : Nat} (hp : p < w.n) {L' L : List Nat} (a : Lot w L') (b : Lot w L) (t : Twin w p L' L) : there w.n p L' = L := by
  refine asc_ext asc_filter b.asc fun x => ?_
  rw [mem_there hp a.lt]
  constructor
  · intro z
    have := (t _ (a.lt _ z)).mp z
    rw [sw_sw] at this
    exact this
  · intro z
    exact (t _ (sw_lt hp (b.lt x z))).mpr (by rw [sw_sw]; exact z)
theorem cnt_swap {w : Wt} {k p : Nat} (h : w.Ok k) (hp : p < w.n) : ∀ (hs : List Nat) (s : Nat), s < w.n → cnt (swapW w p) s hs = cnt w (sw p s) hs
  | [], _, _ => rfl
  | v :: hs, s, hsn => by
    show (((swapW w p).goals s).map fun g => if (swapW w p).word g = v then cnt (swapW w p) g hs else 0).sum = ((w.goals (sw p s)).map fun g => if w.word g = v then cnt w g hs else 0).sum
    rw [swapW_goals hsn, List.map_map]
    congr 1
    refine List.map_congr_left fun g hg => ?_
    have hgn := h.goals_lt hg
    show (if (swapW w p).word (sw p g) = v then cnt (swapW w p) (sw p g) hs else 0) = _
    rw [swapW_word (sw_lt hp hgn), sw_sw, cnt_swap h hp hs _ (sw_lt hp hgn), sw_sw]
/-- what can be heard next is one -/
theorem wb_words_twin {w : Wt} {k p : Nat} (h : w.Ok k) (hp : p < w.n) {L' L : List Nat} (a : Lot w L') (b : Lot w L) (t : Twin w p L' L) : (wb (swapW w p) L').map (·.1) = (wb w L).map (·.1) := by
  rw [wb_keys, wb_keys]
  refine List.filter_congr fun v _ => ?_
  have tv := t.gl h hp a b v
  have e : gl (swapW w p) L' v = [] ↔ gl w L v = [] := by
    constructor
    · intro e
      refine List.eq_nil_iff_forall_not_mem.mpr fun x hx => ?_
      have hxn := gl_lt hx
      have := (tv _ (sw_lt hp hxn)).mpr (by rw [sw_sw]; exact hx)
      rw [e] at this
      simp at this
    · intro e
      refine List.eq_nil_iff_forall_not_mem.mpr fun x hx => ?_
      have hxn := gl_lt hx
      rw [swapW_n] at hxn
      have := (tv _ hxn).mp hx
      rw [e] at this
      simp at this
  simp [e]
end HW
end
section
set_option linter.all false
/-! Heardwatch: behind how many verdicts one place alone can be: the numbers of lots, their end, and the watch begun elsewhere. -/
namespace HW
def succs (w : Wt) (l : List Nat) : List (List Nat) := (wb w l).map (·.2)
theorem mem_succs {w : Wt} {l s : List Nat} : s ∈ succs w l ↔ ∃ v, v < 4 ∧ s = gl w l v ∧ s ≠ [] := by
  unfold succs
  rw [List.mem_map]
  constructor
  · rintro ⟨⟨v, G⟩, hm, rfl⟩
    exact ⟨v, mem_wb.mp hm⟩
  · rintro ⟨v, h⟩
    exact ⟨(v, s), mem_wb.mpr h, rfl⟩
/-- the greatest of some numbers, -1 without one -/
def mx : List Int → Int
  | [] => -1
  | [a] => a
  | a :: r => max a (mx r)
theorem mx_cons (a b : Int) (r : List Int) : mx (a :: b :: r) = max a (mx (b :: r)) := rfl
theorem mx_mem : ∀ {l : List Int}, l ≠ [] → mx l ∈ l
  | [], h => absurd rfl h
  | [a], _ => List.mem_singleton.mpr rfl
  | a :: b :: r, _ => by
    rw [mx_cons]
    have := mx_mem (l := b :: r) (List.cons_ne_nil _ _)
    by_cases h : a ≤ mx (b :: r)
    · rw [Int.max_eq_right h]
      exact List.mem_cons_of_mem _ this
    · rw [Int.max_eq_left (by omega)]
      exact List.mem_cons_self ..
theorem mx_le : ∀ {l : List Int} {x : Int}, x ∈ l → x ≤ mx l
  | [], _, h => by simp at h
  | [a], x, h => by
    rw [List.mem_singleton.mp h]
    exact Int.le_refl _
  | a :: b :: r, x, h => by
    rw [mx_cons]
    rcases List.mem_cons.mp h with e | e
    · rw [e]
      exact Int.le_max_left ..
    · exact Int.le_trans (mx_le e) (Int.le_max_right ..)
theorem mx_is {l : List Int} {m : Int} (h : m ∈ l) (hm : ∀ y ∈ l, y ≤ m) : m = mx l := by
  have h1 := mx_le h
  have h2 := hm _ (mx_mem (l := l) fun e => by rw [e] at h; simp at h)
  omega
/-- one more than the greatest number behind a lot, -1 if that is below nought -/
def up (b : Int) : Int := if 0 ≤ b then b + 1 else -1
def x0 (l : List Nat) : Int := if 1 < l.length then 0 else -1
def nx (w : Wt) (x : List Nat → Int) (l : List Nat) : Int := max (x l) (up (mx ((succs w l).map x)))
def it (w : Wt) : Nat → List Nat → Int
  | 0 => x0
  | k + 1 => nx w (it w k)
def Still (w : Wt) (Ls : List (List Nat)) (k : Nat) : Prop := ∀ l ∈ Ls, it w (k + 1) l = it w k l
structure Lots (w : Wt) (Ls : List (List Nat)) : Prop where
  nodup : Ls.Nodup
  first : [0] ∈ Ls
  closed : ∀ l ∈ Ls, ∀ s ∈ succs w l, s ∈ Ls
  reach : ∀ l ∈ Ls, l ≠ [] ∧ ∃ hs : List Nat, (∀ v ∈ hs, v ≤ 3) ∧ l = placesBy w [0] hs
theorem it_mono (w : Wt) (k : Nat) (l : List Nat) : it w k l ≤ it w (k + 1) l := Int.le_max_left ..
theorem it_mono' (w : Wt) (l : List Nat) : ∀ {j k : Nat}, j ≤ k → it w j l ≤ it w k l
  | j, 0, h => by
    have : j = 0 := by omega
    rw [this]
    exact Int.le_refl _
  | j, k + 1, h => by
    by_cases e : j = k + 1
    · rw [e]
      exact Int.le_refl _
    · exact Int.le_trans (it_mono' w l (by omega : j ≤ k)) (it_mono w k l)
theorem it_ge (w : Wt) (k : Nat) (l : List Nat) : -1 ≤ it w k l := by
  refine Int.le_trans ?_ (it_mono' w l (Nat.zero_le k))
  show -1 ≤ x0 l
  unfold x0
  split <;> omega
theorem up_mono {a b : Int} (h : a ≤ b) : up a ≤ up b := by
  unfold up
  split <;> split <;> omega
theorem mx_mono {x y : List Nat → Int} {ss : List (List Nat)} (h : ∀ s ∈ ss, x s ≤ y s) : mx (ss.map x) ≤ mx (ss.map y) := by
  cases ss with
  | nil => exact Int.le_refl _
  | cons a r =>
    obtain ⟨s, hs, e⟩ := List.mem_map.mp (mx_mem (l := (a :: r).map x) (by simp))
    rw [← e]
    exact Int.le_trans (h s hs) (mx_le (List.mem_map.mpr ⟨s, hs, rfl⟩))
/-- the numbers by the first ones and those behind -/
theorem it_eq (w : Wt) : ∀ (k : Nat) (l : List Nat), it w (k + 1) l = max (x0 l) (up (mx ((succs w l).map (it w k))))
  | 0, _ => rfl
  | k + 1, l => by
    show max (it w (k + 1) l) (up (mx ((succs w l).map (it w (k + 1))))) = _
    rw [it_eq w k l]
    have : up (mx ((succs w l).map (it w k))) ≤ up (mx ((succs w l).map (it w (k + 1)))) := up_mono (mx_mono fun s _ => it_mono w k s)
    omega
section
variable {w : Wt} {Ls : List (List Nat)} {k₀ : Nat} (cl : ∀ l ∈ Ls, ∀ s ∈ succs w l, s ∈ Ls) (st : Still w Ls k₀)
include st
theorem still_eq {l : List Nat} (hl : l ∈ Ls) : it w k₀ l = max (x0 l) (up (mx ((succs w l).map (it w k₀)))) := by
  rw [← it_eq]
  exact (st l hl).symm
include cl
theorem it_below : ∀ (k : Nat) (l : List Nat), l ∈ Ls → it w k l ≤ it w k₀ l
  | 0, l, hl => it_mono' w l (Nat.zero_le _)
  | k + 1, l, hl => by
    rw [it_eq, still_eq st hl]
    have : up (mx ((succs w l).map (it w k))) ≤ up (mx ((succs w l).map (it w k₀))) := up_mono (mx_mono fun s hs => it_below k s (cl l hl s hs))
    omega
/-- a positive number has the one below it behind -/
theorem has_pred {l : List Nat} (hl : l ∈ Ls) {m : Nat} (e : it w k₀ l = (m : Int) + 1) : ∃ s ∈ succs w l, it w k₀ s = (m : Int) := by
  have h := still_eq st hl
  have hx : x0 l ≤ 0 := by
    unfold x0
    split <;> omega
  have hu : up (mx ((succs w l).map (it w k₀))) = (m : Int) + 1 := by omega
  have hm : mx ((succs w l).map (it w k₀)) = (m : Int) := by
    unfold up at hu
    split at hu <;> omega
  have hne : (succs w l).map (it w k₀) ≠ [] := fun z => by
    rw [z] at hm
    unfold mx at hm
    omega
  obtain ⟨s, hs, e'⟩ := List.mem_map.mp (mx_mem hne)
  exact ⟨s, hs, by rw [e', hm]⟩
theorem it_above : ∀ (k : Nat) (l : List Nat), l ∈ Ls → it w k₀ l ≤ (k : Int) → it w k₀ l ≤ it w k l
  | 0, l, hl, h => by
    have h1 := still_eq st hl
    have h2 := it_ge w k₀ l
    show _ ≤ x0 l
    have h3 : -1 ≤ x0 l := by
      unfold x0
      split <;> omega
    have h4 : up (mx ((succs w l).map (it w k₀))) = -1 ∨ 1 ≤ up (mx ((succs w l).map (it w k₀))) := by
      unfold up
      split <;> omega
    omega
  | k + 1, l, hl, h => by
    by_cases hk : it w k₀ l ≤ (k : Int)
    · exact Int.le_trans (it_above k l hl hk) (it_mono w k l)
    · obtain ⟨s, hs, e⟩ := has_pred cl st hl (m := k) (by omega)
      have h1 := it_above k s (cl l hl s hs) (by omega)
      rw [it_eq]
      have h2 : it w k s ≤ mx ((succs w l).map (it w k)) := mx_le (List.mem_map.mpr ⟨s, hs, rfl⟩)
      have h3 : up (it w k s) ≤ up (mx ((succs w l).map (it w k))) := up_mono h2
      have h4 : up (it w k s) = it w k s + 1 := by
        unfold up
        rw [if_pos (by omega)]
      omega
/-- so many lots as the number tells -/
theorem chain : ∀ (m : Nat) (l : List Nat), l ∈ Ls → it w k₀ l = (m : Int) → ∃ c : List (List Nat), c.Nodup ∧ (∀ x ∈ c, x ∈ Ls ∧ it w k₀ x ≤ (m : Int)) ∧ c.length = m + 1
  | 0, l, hl, e => ⟨[l], by simp, fun x hx => by rw [List.mem_singleton.mp hx]; exact ⟨hl, by omega⟩, rfl⟩
  | m + 1, l, hl, e => by
    obtain ⟨s, hs, e'⟩ := has_pred cl st hl (m := m) (by omega)
    obtain ⟨c, h1, h2, h3⟩ := chain m s (cl l hl s hs) e'
    refine ⟨l :: c, List.nodup_cons.mpr ⟨fun z => ?_, h1⟩, fun x hx => ?_, by rw [List.length_cons, h3]⟩
    · have := (h2 l z).2
      omega
    · rcases List.mem_cons.mp hx with z | z
      · rw [z]
        exact ⟨hl, by omega⟩
      · have := h2 x z
        exact ⟨this.1, by omega⟩
end
theorem length_le_of_subset {α : Type} [DecidableEq α] : ∀ {c l : List α}, c.Nodup → (∀ x ∈ c, x ∈ l) → c.length ≤ l.length
  | [], _, _, _ => Nat.zero_le _
  | a :: c, l, hn, hs => by
    have hn' := List.nodup_cons.mp hn
    have ha := hs a (List.mem_cons_self ..)
    have : c.length ≤ (l.erase a).length := length_le_of_subset hn'.2 fun x hx => by
      have hne : x ≠ a := fun e => hn'.1 (e ▸ hx)
      exact (List.mem_erase_of_ne hne).mpr (hs x (List.mem_cons_of_mem _ hx))
    rw [List.length_erase_of_mem ha] at this
    have := List.length_pos_of_mem ha
    rw [List.length_cons]
    omega
theorem still_lt {w : Wt} {Ls : List (List Nat)} {k₀ : Nat} (cl : ∀ l ∈ Ls, ∀ s ∈ succs w l, s ∈ Ls) (st : Still w Ls k₀) {l : List Nat} (hl : l ∈ Ls) : it w k₀ l < (Ls.length : Int) := by
  by_cases h : 0 ≤ it w k₀ l
  · obtain ⟨c, h1, h2, h3⟩ := chain cl st (it w k₀ l).toNat l hl (by omega)
    have := length_le_of_subset h1 fun x hx => (h2 x hx).1
    omega
  · omega
/-- if the numbers stand still at all, they do so behind as many laps as there are lots -/
theorem still_soon {w : Wt} {Ls : List (List Nat)} {k₀ : Nat} (cl : ∀ l ∈ Ls, ∀ s ∈ succs w l, s ∈ Ls) (st : Still w Ls k₀) : Still w Ls Ls.length ∧ ∀ l ∈ Ls, it w Ls.length l = it w k₀ l := by
  have key : ∀ k, Ls.length ≤ k → ∀ l ∈ Ls, it w k l = it w k₀ l := fun k hk l hl => by
    have h1 := it_below cl st k l hl
    have h2 := it_above cl st k l hl (by have := still_lt cl st hl; omega)
    omega
  exact ⟨fun l hl => by rw [key _ (Nat.le_succ _) l hl, key _ (Nat.le_refl _) l hl], key _ (Nat.le_refl _)⟩
/-- wherever they stand still they are the same -/
theorem still_one {w : Wt} {Ls : List (List Nat)} {k₀ k : Nat} (cl : ∀ l ∈ Ls, ∀ s ∈ succs w l, s ∈ Ls) (st : Still w Ls k₀) (st' : Still w Ls k) {l : List Nat} (hl : l ∈ Ls) : it w k l = it w k₀ l := by
  have := it_below cl st k l hl
  have := it_below cl st' k₀ l hl
  omega
/-- the number falls along what is heard -/
theorem still_falls {w : Wt} {Ls : List (List Nat)} {k₀ : Nat} (L : Lots w Ls) (st : Still w Ls k₀) : ∀ (hs l : List Nat), l ∈ Ls → (∀ v ∈ hs, v ≤ 3) → placesBy w l hs ≠ [] → placesBy w l hs ∈ Ls ∧ it w k₀ (placesBy w l hs) ≤ it w k₀ l
  | [], l, hl, _, _ => ⟨hl, Int.le_refl _⟩
  | v :: hs, l, hl, hv, hne => by
    have hg : gl w l v ≠ [] := fun z => hne (by
      show placesBy w (gl w l v) hs = []
      rw [z]
      exact placesBy_nil w hs)
    have hs' : gl w l v ∈ succs w l := mem_succs.mpr ⟨v, by have := hv v (List.mem_cons_self ..); omega, rfl, hg⟩
    obtain ⟨h1, h2⟩ := still_falls L st hs (gl w l v) (L.closed l hl _ hs') (fun x hx => hv x (List.mem_cons_of_mem _ hx)) hne
    refine ⟨h1, Int.le_trans h2 ?_⟩
    rw [still_eq st hl]
    have h3 : it w k₀ (gl w l v) ≤ mx ((succs w l).map (it w k₀)) := mx_le (List.mem_map.mpr ⟨_, hs', rfl⟩)
    have h4 := it_ge w k₀ (gl w l v)
    have h5 : x0 l ≥ -1 := by
      unfold x0
      split <;> omega
    have h6 : mx ((succs w l).map (it w k₀)) < 0 ∨ up (mx ((succs w l).map (it w k₀))) = mx ((succs w l).map (it w k₀)) + 1 := by
      unfold up
      split <;> omega
    omega
/-! ### begun at another place -/
theorem twin_length {w : Wt} {p : Nat} (hp : p < w.n) {a b : List Nat} (la : Lot w a) (lb : Lot w b) (t : Twin w p a b) : a.length = b.length := by
  have : (a.map (sw p)).Perm b := by
    refine (List.perm_ext_iff_of_nodup ?_ ?_).mpr fun x => ?_
    · rw [List.Nodup, List.pairwise_map]
      exact la.asc.imp fun {x y} h e => by
        have := sw_inj e
        omega
    · exact lb.asc.imp fun {x y} h => Nat.ne_of_lt h
    · rw [List.mem_map]
      constructor
      · rintro ⟨y, hy, rfl⟩
        exact (t y (la.lt y hy)).mp hy
      · intro hx
        refine ⟨sw p x, (t _ (sw_lt hp (lb.lt x hx))).mpr (by rw [sw_sw]; exact hx), sw_sw p x⟩
  have := this.length_eq
  rw [List.length_map] at this
  exact this
theorem filterMap_same {α β : Type} {f g : α → Option β} (h : ∀ a, f a = g a) : ∀ l : List α, l.filterMap f = l.filterMap g
  | [] => rfl
  | a :: l => by
    rw [List.filterMap_cons, List.filterMap_cons, h a, filterMap_same h l]
theorem twin_it {w : Wt} {k p : Nat} (h : w.Ok k) (hp : p < w.n) : ∀ (j : Nat) {a b : List Nat}, Lot w a → Lot w b → Twin w p a b → it (swapW w p) j a = it w j b
  | 0, a, b, la, lb, t => by
    show x0 a = x0 b
    unfold x0
    rw [twin_length hp la lb t]
  | j + 1, a, b, la, lb, t => by
    show max (it (swapW w p) j a) (up (mx ((succs (swapW w p) a).map (it (swapW w p) j)))) = max (it w j b) (up (mx ((succs w b).map (it w j))))
    rw [twin_it h hp j la lb t]
    have : (succs (swapW w p) a).map (it (swapW w p) j) = (succs w b).map (it w j) := by
      unfold succs wb
      rw [List.map_map, List.map_map, List.map_filterMap, List.map_filterMap]
      refine filterMap_same (fun v => ?_) _
      have tv := t.gl h hp la lb v
      have l1 : Lot w (gl (swapW w p) a v) := Lot.swap (Lot.gl (swapW w p) a v)
      have l2 : Lot w (gl w b v) := Lot.gl w b v
      have hlen := twin_length hp l1 l2 tv
      by_cases hz : gl w b v = []
      · have hz' : gl (swapW w p) a v = [] := List.length_eq_zero_iff.mp (by rw [hlen, hz]; rfl)
        rw [if_pos hz, if_pos hz']
        rfl
      · have hz' : ¬ gl (swapW w p) a v = [] := fun z => hz (List.length_eq_zero_iff.mp (by rw [← hlen, z]; rfl))
        rw [if_neg hz, if_neg hz']
        show some (it (swapW w p) j (gl (swapW w p) a v)) = some (it w j (gl w b v))
        rw [twin_it h hp j l1 l2 tv]
    rw [this]
theorem lots_mem {w : Wt} {Ls : List (List Nat)} (L : Lots w Ls) : ∀ (hs l : List Nat), l ∈ Ls → (∀ v ∈ hs, v ≤ 3) → placesBy w l hs ≠ [] → placesBy w l hs ∈ Ls
  | [], l, hl, _, _ => hl
  | v :: hs, l, hl, hv, hne => by
    have hg : gl w l v ≠ [] := fun z => hne (by
      show placesBy w (gl w l v) hs = []
      rw [z]
      exact placesBy_nil w hs)
    exact lots_mem L hs (gl w l v) (L.closed l hl _ (mem_succs.mpr ⟨v, by have := hv v (List.mem_cons_self ..); omega, rfl, hg⟩)) (fun x hx => hv x (List.mem_cons_of_mem _ hx)) hne
/-- settling takes no longer of the watch that begins where the first piece leads -/
theorem settle_there {w : Wt} {k p : Nat} (h : w.Ok k) (hp : p < w.n) {Ls Ls' : List (List Nat)} (L : Lots w Ls) (L' : Lots (swapW w p) Ls') {first : List Nat} (hf : ∀ v ∈ first, v ≤ 3) (e : placesBy w [0] first = [p]) {k₀ : Nat} (st : Still w Ls k₀) :
    Still (swapW w p) Ls' Ls'.length ∧ ∀ k', Still (swapW w p) Ls' k' → it (swapW w p) k' [0] ≤ it w k₀ [0] := by
  have hpL : [p] ∈ Ls ∧ it w k₀ [p] ≤ it w k₀ [0] := by
    have := still_falls L st first [0] L.first hf (by rw [e]; simp)
    rw [e] at this
    exact this
  have st' : Still (swapW w p) Ls' k₀ := fun l' hl' => by
    obtain ⟨hne, hs, hv, el⟩ := L'.reach l' hl'
    have f' : Lot w [0] := Lot.first h
    have t := Twin.by h hp hs f' (Lot.one hp) (Twin.first h hp)
    have la : Lot w (placesBy (swapW w p) [0] hs) := Lot.swap (Lot.by (Lot.first (swapW_ok h hp)))
    have lb : Lot w (placesBy w [p] hs) := Lot.by (Lot.one hp)
    have hne2 : placesBy w [p] hs ≠ [] := fun z => hne (by
      rw [el]
      exact List.length_eq_zero_iff.mp (by rw [twin_length hp la lb t, z]; rfl))
    have hm := lots_mem L hs [p] hpL.1 hv hne2
    rw [el, twin_it h hp _ la lb t, twin_it h hp _ la lb t]
    exact st _ hm
  refine ⟨(still_soon L'.closed st').1, fun k' s' => ?_⟩
  rw [still_one L'.closed st' s' L'.first, twin_it h hp _ (Lot.first h) (Lot.one hp) (Twin.first h hp)]
  exact hpL.2
end HW
end
section
set_option Elab.async false
set_option linter.all false
set_option maxRecDepth 100000
set_option maxHeartbeats 2000000
/-! Rules beside the layer: a thing locked for good, enumerate over a tuple. -/
namespace HX
open PySem PySem.Spec PyProof.Rows L2
/-! ### locked for good -/
def tFrz (t : TE) : TE := fun σ H Q => t σ H fun v H1 => ∃ d u, v = .ref d ∧ H1 d = some u ∧ Mut (some u) ∧ ∀ od, Q v (upd H1 d (.frz od u))
theorem pe_frz {X : Cx} {e : Expr} {t : TE} (h : PE X e t) : PE X e (tFrz t) := ⟨fun pins s σ H Q I hw => by
  refine thn (h.run pins s σ H _ I hw) fun v s1 hq => ?_
  obtain ⟨x, H1, I1, r, d, u, ex, hd, mu, q⟩ := hq
  obtain ⟨od, I2⟩ := I1.lock hd mu
  exact ⟨x, _, I2, r, q od⟩⟩
/-! ### enumerate(tuple) -/
/-- the tuple at a, each item in a new pair -/
def IteT (K : PySem.W.Frag) (a : Addr) : It :=
  ⟨fun i H => ∃ (xs : List V) (x : V), SqT K H a xs ∧ xs[i]? = some x, fun i H v H' => ∃ T x, v = .ref T ∧ H T = none ∧ H' = upd H T (.tup [.int (i : Nat), x]) ∧ ∀ xs, SqT K H a xs → xs[i]? = some x, fun i H => ∃ xs : List V, SqT K H a xs ∧ xs.length = i⟩
theorem turn_enumT {P : Program} {w : World} {K : PySem.W.Frag} {elts : List Expr} {kk : Nat} {tpos : Pos} (a e it : Addr) (hai : a ≠ it) (hae : a ≠ e) :
    Turn P w K (.Tuple elts kk tpos) (IteT K a) [e, it] e (fun i h => (∃ old, IsEnum h e it ((i : Nat) : Int) old) ∧ h.IsTupleIter it a i ∧ e ≠ it) where
  mem := by simp
  obj := fun i h st b hb => by
    obtain ⟨⟨old, he⟩, ⟨o, ho, hc, hd⟩, _⟩ := st
    rcases (show b = e ∨ b = it by simpa using hb) with z | z
    · rw [z]
      exact ⟨_, he, fun v q => nomatch q⟩
    · rw [z]
      exact ⟨o, ho, fun v q => by rw [hd] at q; cases q⟩
  keep := fun i h h' st k => by
    obtain ⟨⟨old, he⟩, hi, hne⟩ := st
    exact ⟨⟨old, k e (by simp) _ he⟩, hi.at fun o q => k it (by simp) o q, hne⟩
  item := by
    intro X hP hw hK hc i pins s σ H E I hf st hg
    subst hP hw hK
    obtain ⟨⟨old, he⟩, hit, hne⟩ := st
    obtain ⟨xs, x, hq, hx⟩ := hg
    obtain ⟨its, rv, p, hz⟩ := I.tuple hq
    have hel : e < s.heap.objs.size := Heap.lt_size he
    have hil : it < s.heap.objs.size := by
      obtain ⟨_, q, _⟩ := hit
      exact Heap.lt_size q
    have hin : i < its.toArray.size := by
      rw [List.size_toArray, ← rv.length]
      exact (List.getElem?_eq_some_iff.mp hx).1
    refine wpAny_pyNext_enum_itemC (Draws.tuple (prog := X.prog) (w := X.w) (A := X.A.in1) (I.ok.hd hc) it a hai its.toArray) he ⟨hit, show s.heap.IsTuple a its.toArray from p⟩ hin hne (by simp; exact ⟨hne, fun z => hae z.symm⟩) fun u h' tk hu ho hst hT hsz hk => ?_
    refine ⟨_, rfl, wpAny_letOwnedTupleGo_enum (s := { s with heap := h', toks := tk + 1 }) ho fun h'' he' sb => ?_⟩
    have hT2 : h''.get? s.heap.objs.size = some { cls := .type "tuple", data := .seq #[.int i tk, u] } := (sb.2 _ (Nat.ne_of_gt hel)).trans hT
    obtain ⟨u', hu', ru⟩ := rv.get hx
    have eu : u = u' := by
      have h1 : its.toArray[i]? = some u := hu
      rw [List.getElem?_toArray, hu'] at h1
      exact (Option.some.inj h1).symm
    subst eu
    have new : ObjOk X.prog X.w (upd H s.heap.objs.size (.tup [.int (i : Nat), x])) h'' s.heap.objs.size (.tup [.int (i : Nat), x]) :=
      ⟨by show 2 ≤ sizeLine; decide, [.int i tk, u], .cons ⟨_, rfl⟩ (.cons ru .nil), ⟨_, hT2, rfl, _, rfl⟩⟩
    have I1 : Inv X pins σ (upd H s.heap.objs.size (.tup [.int (i : Nat), x])) { s with heap := h'', toks := tk + 1 } :=
      I.turnedNew (ch := [e, it]) (fun b ob hb q => (sb.2 b (fun z => hb (by simp [z]))).trans (hk b ob (fun z => hb (by simp [z])) (fun z => hb (by simp [z])) q)) hf (Nat.le_refl _) new
    refine ⟨.ref s.heap.objs.size, _, I1, rfl, ⟨_, x, rfl, I.hok.fresh (Nat.le_refl _), rfl, fun ys hy => by rw [I.tuple_inj hy hq]; exact hx⟩, ⟨⟨u, ?_⟩, hst.1.at fun o q => (sb.2 it (Ne.symm hne)).trans q, hne⟩, fun b hb => ?_⟩
    · have e1 : ((i + 1 : Nat) : Int) = (i : Int) + 1 := by omega
      rw [e1]
      exact he'
    · have hb' : b < s.heap.objs.size := by
        rcases (show b = e ∨ b = it by simpa using hb) with z | z
        · rw [z]
          exact hel
        · rw [z]
          exact hil
      rw [upd_ne (Nat.ne_of_lt hb')]
      exact (hf b hb).1
  done := by
    intro X hP hw hK hc i pins s σ H E I hf st hg
    subst hP hw hK
    obtain ⟨⟨old, he⟩, hit, hne⟩ := st
    obtain ⟨xs, hq, hx⟩ := hg
    obtain ⟨its, rv, p, hz⟩ := I.tuple hq
    obtain ⟨f0, f1, f2, f3, f4, f5⟩ := hf it (by simp)
    have hsz : its.toArray.size = i := by
      rw [List.size_toArray, ← rv.length]
      exact hx
    refine wpAny_pyNext_enum_endD (Draws.tuple (prog := X.prog) (w := X.w) (A := X.A.in1) (I.ok.hd hc) it a hai its.toArray) he ?_ fun h' eb => ⟨rfl, I.turned (t' := s.toks) (fun b o hb q => eb b o hb q) f0 f1 f3 f4 f5⟩
    rw [hsz]
    exact ⟨hit, show s.heap.IsTuple a its.toArray from p⟩
  self := fun A i s Q E st h => by
    obtain ⟨⟨_, he⟩, _⟩ := st
    exact wpAny_pyIter_enum he h
theorem meets_enumT (l : Addr) (items : Array Value) (n : Nat) (dct : Option Addr) (sl : Array (Option Value)) :
    Meets (Builtin.«enumerate.__new__» ⟨[.type "enumerate", .ref l], []⟩) (fun _ R s => s.heap.get? l = some { cls := .type "tuple", dict := dct, data := .seq items n, slots := sl } ∧
      R (.ok (.ret (.ref (s.heap.push { cls := .type "tuple_iterator", data := .fields #[.ref l, .int 0 0] }).objs.size)))
        { s with heap := (s.heap.push { cls := .type "tuple_iterator", data := .fields #[.ref l, .int 0 0] }).push { cls := .type "enumerate", data := .fields #[.none, .bool false, .ref s.heap.objs.size, rawInt 0, .none, .none] } }) :=
  .of_wp fun prog w A R s h => by
    obtain ⟨hp, g, d, tk, os⟩ := s
    obtain ⟨hl, h⟩ := h
    have hsub := sub_enumerate
    have hL : Heap.IsTuple (Shared.heap ⟨hp, g, d, tk, os⟩) l items := ⟨_, hl, rfl, n, rfl⟩
    have q1 : ∀ {A' : Around} {E : Value → Shared → Prop} {Q : Value → Shared → Prop}, Q (.ref hp.objs.size) ⟨hp.push { cls := .type "tuple_iterator", data := .fields #[.ref l, .int 0 0] }, g, d, tk, os⟩ → wpAny (model prog w) A' (pyIter (.ref l)) Q E ⟨hp, g, d, tk, os⟩ :=
      fun q => wpAny_pyIter_tuple hL q
    wp_walk using q1
    refine wpAny_stack_any fun st => wpAny_pure ?_
    split
    · rename_i c _ _ _ _ _
      cases (c == Value.type "enumerate")
      · wp_walk using q1
        exact ⟨_, rfl, h⟩
      · wp_walk using q1
        exact ⟨_, rfl, h⟩
    · wp_walk using q1
      exact ⟨_, rfl, h⟩
theorem call_enumT {prog : Program} {w : World} {A : Around} {E : Value → Shared → Prop} {s : Shared} {l : Addr} {items : Array Value} {Q : Value → Shared → Prop} (hL : s.heap.IsTuple l items)
    (h : ∀ h', IsEnum h' (s.heap.objs.size + 1) s.heap.objs.size 0 .none → h'.IsTupleIter s.heap.objs.size l 0 → h'.objs.size = s.heap.objs.size + 2 →
      (∀ b o, s.heap.get? b = some o → h'.get? b = some o) → Q (.ref (s.heap.objs.size + 1)) { s with heap := h' }) :
    wpAny (model prog w) A (call (.type "enumerate") [.ref l]) Q E s := by
  obtain ⟨⟨c, dct, dt, sl⟩, hl, hc, n, hd⟩ := hL
  replace hc : c = .type "tuple" := hc
  replace hd : dt = .seq items n := hd
  subst hc hd
  refine callType_new F.called_enumerate (by decide) (F.typeCall_enumerate_1 _) (F.newCall_enumerate_1 _) (fun obj => F.args_object_init_2 obj _) F.entry_enumerate_new (meets_enumT l items n dct sl) ⟨hl, ?_⟩
  have hz : (s.heap.push { cls := .type "tuple_iterator", data := .fields #[.ref l, .int 0 0] }).objs.size = s.heap.objs.size + 1 := Heap.size_push ..
  show _ ∧ _
  rw [hz]
  have he : IsEnum ((s.heap.push { cls := .type "tuple_iterator", data := .fields #[.ref l, .int 0 0] }).push { cls := .type "enumerate", data := .fields #[.none, .bool false, .ref s.heap.objs.size, rawInt 0, .none, .none] }) (s.heap.objs.size + 1) s.heap.objs.size 0 .none := by
    have := Heap.get?_push_size (s.heap.push { cls := .type "tuple_iterator", data := .fields #[.ref l, .int 0 0] }) (o := { cls := .type "enumerate", data := .fields #[.none, .bool false, .ref s.heap.objs.size, rawInt 0, .none, .none] }) rfl
    rw [hz] at this
    exact this
  refine ⟨⟨_, he, rfl⟩, h _ he ⟨_, Heap.get?_push_of_some _ (Heap.get?_push_size _ rfl), rfl, rfl⟩ (by rw [Heap.size_push, hz]) fun b o x => Heap.get?_push_of_some _ (Heap.get?_push_of_some _ x)⟩
def iEnumT (K : PySem.W.Frag) (ta : TA) : TI := fun σ H R => ta σ H fun vs H1 => ∃ a xs, vs = [.ref a] ∧ SqT K H1 a xs ∧ R (IteT K a) H1
theorem pi_enumT {X : Cx} {e : Expr} {ta : TA} {p pos tpos : Pos} {elts : List Expr} {kk : Nat} (hg : Gl X "enumerate") (hm : X.mg "enumerate" = none) (ha : PA X [e] ta) (hs : starEach [e] X.env = [(false, eval e X.env)] := by rfl) :
    PI X (.Tuple elts kk tpos) (.Call (.Name "enumerate" p) [e] [] pos) (iEnumT X.K ta) := by
  refine ⟨fun pins s σ H R I h => ?_⟩
  refine Call_ (ld_blt I hg hm boot_enumerate (PyProof.Rows.callWith_type1 (thn (ha.run pos pins s σ H _ I h) fun us s1 ⟨vs, H1, I1, r1, q1⟩ => ?_) hs rfl))
  obtain ⟨a, xs, ex, hq, q⟩ := q1
  subst ex
  obtain ⟨u, rfl, rx⟩ := r1.one
  cases rx
  obtain ⟨its, rv, p', hz⟩ := I1.tuple hq
  have hal : a < s1.heap.objs.size := by
    obtain ⟨_, q, _⟩ := p'
    exact Heap.lt_size q
  refine call_enumT (show s1.heap.IsTuple a its.toArray from p') fun h' he hit hsz hk => wpAny_pyIter_enum he ?_
  have I2 : Inv X pins σ H1 { s1 with heap := h' } := I1.kept (t' := s1.toks) hk
  refine ⟨s1.heap.objs.size + 1, [s1.heap.objs.size + 1, s1.heap.objs.size], _, _, H1, rfl, I2, turn_enumT a (s1.heap.objs.size + 1) s1.heap.objs.size (Nat.ne_of_lt hal) (Nat.ne_of_lt (Nat.lt_succ_of_lt hal)), ⟨⟨.none, he⟩, hit, Nat.succ_ne_self _⟩, fun b hb => ?_, q⟩
  have hle : s1.heap.objs.size ≤ b := by
    rcases (show b = s1.heap.objs.size + 1 ∨ b = s1.heap.objs.size by simpa using hb) with z | z
    · rw [z]
      exact Nat.le_add_right _ _
    · rw [z]
      exact Nat.le_refl _
  exact I1.fpOk hle (I1.hok.fresh hle)
theorem walk_enumT {K : PySem.W.Frag} {a : Addr} {xs : List V} : Walk (IteT K a) xs.length (fun H => SqT K H a xs) (YPair (fun i => some (.int (i : Nat))) (fun i => xs[i]?)) := by
  refine ⟨fun i _ hi q => ⟨xs, xs[i], q, by simp [hi]⟩, fun _ q => ⟨xs, q, rfl⟩, fun i H v H' _ q y => ?_⟩
  obtain ⟨T, x, h1, h2, h3, h4⟩ := y
  exact ⟨T, .int (i : Nat), x, h1, h2, h3, rfl, h4 xs q⟩
end HX
end
section
set_option Elab.async false
set_option linter.all false
set_option maxRecDepth 100000
set_option maxHeartbeats 4000000
/-! Rules beside the layer: set(list of ints), tuple(dict), sum(d.values()). -/
namespace HX
open PySem PySem.Spec PyProof.Rows L2
section
variable {P : Program} {w : World} {A : Around} {E : Value → Shared → Prop} {s : Shared}
/-- an empty set that a type call has made -/
abbrev noSet (w : World) : Obj := { cls := .type "set", dict := none, data := .set #[] 0 (.fresh 0 0 (!w.params.followText "set-order")) }
theorem call_set_listI {l : Addr} {items : Array Value} (ns : List Int) {Q : Value → Shared → Prop} (hh : A.handled = none) (hl : s.heap.IsList l items) (hit : IntsAre items.toList ns) (hb : ns.length + 1 < scanBound)
    (h : ∀ (h' : Heap) (tk c : Nat), SetR w h' s.heap.objs.size (fun j => decide (j ∈ ns)) c → c ≤ ns.length → (∀ b o, s.heap.get? b = some o → h'.get? b = some o) → Q (.ref s.heap.objs.size) { s with heap := h', toks := tk }) :
    wpAny (model P w) A (call (.type "set") [.ref l]) Q E s := by
  have hisz : items.size = ns.length := by
    have q := IntsAre.length hit
    rw [Array.length_toList] at q
    exact q
  obtain ⟨c, tl, hmro⟩ := F.called_set.mro
  have hmade := F.called_set.made
  have hsub := F.called_set.sub
  refine wpAny_call (codeAny_of_tree ?_)
  show wpAny _ _ (callAny (.type "set") _) _ _ _
  refine wpAny_pure ⟨Code.quiet_builtin _ (by decide +kernel), codeAny_builtin F.entry_type_call ?_⟩
  rw [Around.under_plain (weight_type_call_type "set" [.ref l] []) rfl]
  have h1 := F.called_set.notType
  have h2 := F.called_set.canCreate
  have hct := F.typeCall_set_1 (.ref l)
  repeat (any_goals (first | assumption | wp_step))
  refine codeAny_mono (code_set_led1 (.ref l) (E := E) (Q₁ := fun obj s₁ => obj = .ref s.heap.objs.size ∧ s₁ = { s with heap := s.heap.push (noSet w) }) ⟨rfl, rfl⟩) fun r s₁ hr => ?_
  cases r with
  | error e => exact hr
  | ok fl =>
    cases fl with
    | ret obj =>
      obtain ⟨rfl, rfl⟩ := hr
      have hS : (s.heap.push (noSet w)).get? s.heap.objs.size = some (noSet w) := Heap.get?_push_size _ rfl
      have hT : Shared.TypeIs { s with heap := s.heap.push (noSet w) } (.ref s.heap.objs.size) "set" := ⟨_, hS, rfl⟩
      have hli := F.called_set.init.lookup
      have hbi := F.called_set.init.bind (.ref s.heap.objs.size)
      repeat (any_goals (first | assumption | wp_step))
      refine codeAny_mono (codeAny_call_builtin (R := wants (fun r s₂ => r = .none ∧ ∃ h' tk c, s₂ = { s with heap := h', toks := tk } ∧ SetR w h' s.heap.objs.size (fun j => decide (j ∈ ns)) c ∧ c ≤ ns.length ∧
          (∀ b o, s.heap.get? b = some o → h'.get? b = some o)) E) F.called_set.init.plain F.entry_set_init (check_set_init_1 hT ?_)) fun r₂ s₂ hr₂ => ?_
      · obtain ⟨ol, hol, hcl, nl, hdl⟩ := hl
        obtain ⟨ocls, odict, odata, oslots⟩ := ol
        simp only at hcl hdl
        subst hcl
        subst hdl
        have hol' : (s.heap.push (noSet w)).get? l = some { cls := .type "list", dict := odict, data := .seq items nl, slots := oslots } := Heap.get?_push_of_some _ hol
        have hsls := F.sub_list_set
        have hslf := F.sub_list_frozenset
        have hne : (Value.type "list" == Value.type "dict") = false := by decide
        have hl1 : (s.heap.push (noSet w)).IsList l items := ⟨_, hol', rfl, nl, rfl⟩
        unfold Builtin.«set.__init__» noKeywords Builtin.Frozenset.updateFrom
        generalize hPI : pyIter = PI
        wp_walk
        subst hPI
        refine wpAny_pyIter_list hl1 ?_
        refine wpAny_bind (wpAny_runValue ?_)
        have hlS : l < s.heap.objs.size := Heap.lt_size hol
        have hh3 : A.in1.in1.in1.handled = none := by simp [hh]
        have hneI : l ≠ (s.heap.push (noSet w)).objs.size := by
          rw [Heap.size_push]
          exact Nat.ne_of_lt (Nat.lt_succ_of_lt hlS)
        have hSf : s.heap.objs.size ∉ [(s.heap.push (noSet w)).objs.size, l] := by
          rw [Heap.size_push]
          simp only [List.mem_cons, List.not_mem_nil, or_false, not_or]
          exact ⟨Nat.ne_of_lt (Nat.lt_succ_self _), Nat.ne_of_gt hlS⟩
        have hval : ∀ (i : Nat) (v : Value), items[i]? = some v → ∃ k t, ns[i]? = some k ∧ v = .int k t := fun i v hv => by
          have hi : i < ns.length := by
            rw [← hisz]
            exact (Array.getElem?_eq_some_iff.mp hv).1
          obtain ⟨t, e⟩ := PyProof.Rows.IntsAre.int_at hit i v (by rw [Array.getElem?_toList]; exact hv)
          refine ⟨ns[i], t, List.getElem?_eq_getElem hi, ?_⟩
          rw [e, List.getD_eq_getElem?_getD, List.getElem?_eq_getElem hi] <;> rfl
        refine set_update_ints ((Walks.list hh3 _ l hneI items).toS) s.heap.objs.size hSf ns hisz hb hval (items.size - 0) 0 _ (by omega) (Nat.zero_le _) ⟨⟨_, Heap.get?_push_size _ rfl, rfl, rfl⟩, (hl1.push _)⟩ ?hS0 ?hR
        case hS0 =>
          have hget : ((s.heap.push (noSet w)).push { cls := .type "list_iterator", data := .fields #[.ref l, .int 0 0] }).get? s.heap.objs.size = some (noSet w) := Heap.get?_push_of_some _ hS
          exact ⟨0, Nat.le_refl 0, setR_new_at hget⟩
        case hR =>
          intro s' c' hm hc' hS'
          obtain ⟨h', g2, d', tk', os'⟩ := s'
          have eg : g2 = s.gens := hm.gens
          have ed : d' = s.drawn := hm.drawn
          have eo : os' = s.os := hm.os
          subst eg
          subst ed
          subst eo
          show wpAny _ _ _ _ _ _
          refine wpAny_pure ?_
          show wpAny _ _ (ret Value.none) _ _ _
          rw [hisz] at hc'
          refine wpAny_pure ⟨rfl, h', tk', c', rfl, hS', hc', fun b o e => ?_⟩
          have hb0 : b < s.heap.objs.size := Heap.lt_size e
          have hb1 : b ≠ s.heap.objs.size := Nat.ne_of_lt hb0
          have hb2 : b ≠ (s.heap.push (noSet w)).objs.size := by
            rw [Heap.size_push]
            exact Nat.ne_of_lt (Nat.lt_succ_of_lt hb0)
          exact hm.heap b o (by simp only [List.mem_cons, List.not_mem_nil, or_false, not_or]; exact ⟨hb1, hb2⟩) (Heap.get?_push_of_some _ (Heap.get?_push_of_some _ e))
      · cases r₂ with
        | error e => exact hr₂
        | ok fl₂ =>
          cases fl₂ with
          | ret r =>
            obtain ⟨rfl, h', tk, c', rfl, hS', hc', hk'⟩ := hr₂
            repeat (any_goals (first | assumption | wp_step))
            exact h _ _ _ hS' hc' hk'
          | _ => exact hr₂.elim
    | _ => exact hr.elim
end
/-- set(l), l a list of fewer than 1,000 ints -/
def rSetL (K : PySem.W.Frag) (w : World) : List V → Hp → VK → Prop := fun xs H Q => ∃ (l : Addr) (ns : List Int), xs = [V.ref l] ∧ SqL K H l (ns.map V.int) ∧ ns.length ≤ 1000 ∧
  ∀ (a : Addr) (c : Nat), H a = none → c ≤ ns.length → Q (.ref a) (upd H a (SetO w a (fun j => decide (j ∈ ns)) c))
theorem cr_setL {X : Cx} (hc : X.calm = true) : CallR X (.type "set") (rSetL X.K X.w) := by
  intro pins s σ H xs us Q I r h
  obtain ⟨l, ns, rfl, hl, hn, q⟩ := h
  obtain ⟨u, rfl, rx⟩ := r.one
  cases rx
  obtain ⟨its, rv, p, hz⟩ := I.list hl
  have hi : IntsAre its.toArray.toList ns := by
    have : ∀ {ns : List Int} {us : List Value}, Vals (ns.map V.int) us → IntsAre us ns := fun {ns} => by
      induction ns with
      | nil =>
        intro us r
        cases r
        exact .nil
      | cons n ns ih =>
        intro us r
        cases r with
        | cons r t =>
          obtain ⟨k, rfl⟩ := r
          exact .cons n k (ih t)
    simpa using this rv
  refine call_set_listI ns (I.ok.hd hc) p.isList hi (by unfold scanBound; omega) fun h' tk c hS hcn hk => ?_
  have hn0 := I.hok.fresh (Nat.le_refl s.heap.objs.size)
  exact ⟨.ref s.heap.objs.size, _, I.laid (t' := tk) (o := SetO X.w s.heap.objs.size (fun j => decide (j ∈ ns)) c) hk (Nat.le_refl _) (setO_new hS), rfl, q _ c hn0 hcn⟩
end HX
end
section
set_option Elab.async false
set_option linter.all false
set_option maxRecDepth 100000
set_option maxHeartbeats 4000000
/-! Rules beside the layer, further: tuple(dict), sum(d.values()). -/
namespace HX
open PySem PySem.Spec PyProof.Rows L2
/-! ### tuple(d) -/
section
variable {prog : Program} {w : World} {A : Around} {E : Value → Shared → Prop} {s : Shared} {T : String} {r d : Addr} {n : Nat} {P : Nat → Value → Prop} {OK : Heap → Prop}
theorem collect_src {Q : List Value → Shared → Prop} (K : PySem.W.KdlSrc prog w T r d n P OK) (hh : A.handled = none) (hok : OK s.heap) (hlen : n ≤ sizeLine)
    (hQ : ∀ (h' : Heap) (tk : Nat) (acc : Array Value), (∀ b o, s.heap.get? b = some o → h'.get? b = some o) → ItemsOf P acc n → Q acc.toList { s with heap := h', toks := tk }) :
    wpAny (model prog w) A (collect (.ref r)) Q E s := by
  unfold collect
  refine wpAny_bind (wpAny_runValue (codeAny_builtin F.entry_proto_collect ?_))
  rw [Around.under_plainId F.plain_proto_collect _]
  show wpAny _ A.in1 (newList [] >>= fun l => again (.builtin "list.__iadd__" ⟨[l, .ref r], []⟩)) _ _ s
  refine wpAny_bind (wpAny_newObj_type ?_)
  refine wpAny_pure ⟨plainId_quiet F.plain_list_iadd _, codeAny_builtin F.entry_list_iadd ?_⟩
  rw [Around.under_plainId F.plain_list_iadd _]
  show wpAny _ A.in1 (Builtin.List.listExtendWith (.ref s.heap.objs.size) (.ref r) (.ref s.heap.objs.size)) _ _ _
  have kp : ∀ b o, s.heap.get? b = some o → (s.heap.push { cls := .type "list", data := .seq ([] : List Value).toArray }).get? b = some o := fun b o e => Heap.get?_push_of_some _ e
  have hok' : OK (s.heap.push { cls := .type "list", data := .seq ([] : List Value).toArray }) := K.keep _ _ hok fun b _ o e => kp b o e
  have ht := K.there _ hok
  have hS : (s.heap.push { cls := .type "list", data := .seq ([] : List Value).toArray }).get? s.heap.objs.size = some { cls := .type "list", data := .seq #[] 0 } := Heap.get?_push_size _ rfl
  refine wpAny_mono (PySem.W.kdl_extend (A := A) (R := fun rr s' => rr = .ok (.ret (.ref s.heap.objs.size)) ∧ ∃ (h' : Heap) (tk : Nat) (acc : Array Value) (c' : Nat), s' = { s with heap := h', toks := tk } ∧
      (∀ b o, s.heap.get? b = some o → h'.get? b = some o) ∧ h'.get? s.heap.objs.size = some { cls := .type "list", dict := none, data := .seq acc c', slots := #[] } ∧ ItemsOf P acc n)
    (s := { s with heap := s.heap.push { cls := .type "list", data := .seq ([] : List Value).toArray } }) K hh hok' s.heap.objs.size (Nat.ne_of_gt ht.1) (Nat.ne_of_gt ht.2) _ 0 hS
    (fun h' tk acc c' hk e hi => ⟨rfl, h', tk, acc, c', rfl, fun b o q => hk b o (Nat.ne_of_lt (Heap.lt_size q)) (kp b o q), e, hi⟩) hlen) (fun fin s' h => ?_) (fun e s' h => ?_)
  · cases fin with
    | done f =>
      obtain ⟨e, h', tk, acc, c', rfl, hk, hS', hi⟩ := h
      cases e
      show wpAny _ A (load s.heap.objs.size >>= _) _ _ _
      exact wpAny_bind (wpAny_load hS' (wpAny_pure (hQ h' tk acc hk hi)))
    | again c' =>
      refine ⟨h.1, codeAny_mono h.2 fun rr s'' hr' => ?_⟩
      obtain ⟨rfl, h', tk, acc, c', rfl, hk, hS', hi⟩ := hr'
      show wpAny _ A (load s.heap.objs.size >>= _) _ _ _
      exact wpAny_bind (wpAny_load hS' (wpAny_pure (hQ h' tk acc hk hi)))
  · exact absurd h.1 (by simp)
theorem code_tuple_new_src {Q₁ : Value → Shared → Prop} (K : PySem.W.KdlSrc prog w T r d n P OK) (hh : A.handled = none) (hok : OK s.heap) (hlen : n ≤ sizeLine)
    (h : ∀ (h' : Heap) (tk : Nat) (acc : Array Value), (∀ b o, s.heap.get? b = some o → h'.get? b = some o) → ItemsOf P acc n →
      Q₁ (.ref h'.objs.size) { s with heap := h'.push { cls := .type "tuple", data := .seq acc }, toks := tk }) :
    codeAny (model prog w) A (.call (.builtin "tuple.__new__") ⟨[.type "tuple", .ref r], []⟩) (wants Q₁ E) s := by
  refine codeAny_of_tree ?_
  show wpAny _ A.in1 (do checkBuiltinCall "tuple.__new__" ⟨[.type "tuple", .ref r], []⟩; again (.builtin "tuple.__new__" ⟨[.type "tuple", .ref r], []⟩)) _ _ s
  refine wpAny_bind (wpAny_of_eq (F.newCall_tuple_1 _) (wpAny_pure ⟨plainId_quiet F.plain_tuple_new _, codeAny_builtin F.entry_tuple_new ?_⟩))
  rw [Around.under_plainId F.plain_tuple_new _]
  have hsub := sub_tuple_self
  have hinit := init_tuple_lookup
  have hmh := madeHere_tuple
  have hTI : s.TypeIs (.ref r) T := K.type s hok
  have hnt := K.notTuple
  have hh1 : A.in1.handled = none := hh
  wp_walk using wpAny_typeOf hTI, collect_src (A := A.in1) K hh1 hok hlen
  intro h' tk acc hk hacc
  show wpAny _ _ (Builtin.Tuple.tupleExact acc.toList.toArray >>= fun v => ret v) _ _ _
  unfold Builtin.Tuple.tupleExact
  refine wpAny_bind (wpAny_newObj_type ?_ (by show acc.toList.toArray.size ≤ sizeLine; simp only [Array.toArray_toList]; rw [hacc.1]; exact hlen))
  refine wpAny_pure ?_
  have e : acc.toList.toArray = acc := by simp
  rw [e]
  exact h h' tk acc hk hacc
theorem call_tuple_src {Q : Value → Shared → Prop} (K : PySem.W.KdlSrc prog w T r d n P OK) (hh : A.handled = none) (hok : OK s.heap) (hlen : n ≤ sizeLine)
    (hQ : ∀ (h' : Heap) (tk : Nat) (acc : Array Value), (∀ b o, s.heap.get? b = some o → h'.get? b = some o) → ItemsOf P acc n →
      Q (.ref h'.objs.size) { s with heap := h'.push { cls := .type "tuple", data := .seq acc }, toks := tk }) :
    wpAny (model prog w) A (call (.type "tuple") [.ref r]) Q E s := by
  refine callType_codes (Q₁ := fun obj s₁ => s₁.TypeIs obj "tuple" ∧ Q obj s₁) F.called_tuple (F.typeCall_tuple_1 _) F.entry_object_init
    (code_tuple_new_src (A := A.in1) K hh hok hlen fun h' tk acc hk hacc => ⟨⟨_, Heap.get?_push_size _ rfl, rfl⟩, hQ h' tk acc hk hacc⟩) fun obj s₁ h₁ => ?_
  exact ⟨h₁.1, F.args_object_init_2 obj _, object_init_meets F.called_tuple.init.lookup F.called_tuple.made (by decide) prog w A.in1 _ s₁ ⟨h₁.1, rfl, h₁.2⟩⟩
end
/-- tuple(d), the keys ints and texts -/
def rTupD : List V → Hp → VK → Prop := fun xs H Q => ∃ p kvs, xs = [.ref p] ∧ Rd H p (.dK kvs) ∧ ∀ q, H q = none → Q (.ref q) (upd H q (.tup (kvs.map fun kv => kV kv.1)))
theorem cr_tupD {X : Cx} (hc : X.calm = true) : CallR X (.type "tuple") rTupD := by
  intro pins s σ H xs us Q I r h
  obtain ⟨p, kvs, rfl, hk, q⟩ := h
  obtain ⟨u, rfl, rx⟩ := r.one
  cases rx
  obtain ⟨z, lo, vs, rk, hd⟩ := dk_rd I.hok hk
  obtain ⟨ep, hat⟩ := hd.dictAt
  have hl : kvs.length = vs.length := Paired.length rk
  refine call_tuple_src (PySem.W.kdl_dict (knd := mixKind X.prog X.w) (kvs := vs) (ep := ep) lo) (I.ok.hd hc) hat (by rw [← hl]; exact z) fun h' tk acc hkeep hacc => ?_
  have I2 : Inv X pins σ H { s with heap := h', toks := tk } := I.kept hkeep
  refine ⟨.ref h'.objs.size, _, I2.laid (t' := tk) (o := .tup (kvs.map fun kv => kV kv.1)) (fun c o e => Heap.get?_push_of_some _ e) (Nat.le_refl _) ⟨?_, acc.toList, ?_, ?_⟩, rfl, q _ (I2.hok.fresh (Nat.le_refl _))⟩
  · rw [List.length_map]
    exact z
  · have el : acc.toList.length = acc.size := by simp
    refine vals_of_at (by rw [List.length_map, el, hacc.1, hl]) fun j x w h1 h2 => ?_
    obtain ⟨k, y, hky, hi⟩ := hacc.2 j w (by rw [← Array.getElem?_toList]; exact h2)
    rw [List.getElem?_map] at h1
    obtain ⟨kv, hkv, rfl⟩ := Option.map_eq_some_iff.mp h1
    obtain ⟨u, hu, _⟩ := kv_get rk (i := j) (k := kv.1) (v := kv.2) hkv
    rw [hky] at hu
    cases hu
    exact keyIs_rel hi
  · rw [Array.toArray_toList]
    exact IsTup.new _ _
/-! ### sum(d.values()) -/
def tSumVals (td : TE) : TE := fun σ H Q => td σ H fun x H1 => ∃ (a : Addr) (kvs : List (Key × V)) (is : List Int), x = V.ref a ∧ Rd H1 a (.dK kvs) ∧ kvs.map (·.2) = is.map V.int ∧ Q (.int is.sum) H1
theorem preSum_take (is : List Int) : ∀ n, n ≤ is.length → preSum (fun i => is.getD i 0) n = (is.take n).sum
  | 0, _ => by simp [preSum]
  | n + 1, h => by
    have ih := preSum_take is n (by omega)
    have e : is[n]? = some is[n] := List.getElem?_eq_getElem (by omega)
    rw [List.take_add_one, e, List.sum_append, ← ih]
    show preSum (fun i => is.getD i 0) n + is.getD n 0 = _
    rw [List.getD_eq_getElem?_getD, e]
    simp
theorem pe_sumVals {X : Cx} {o : Expr} {p pos apos mpos : Pos} {td : TE} (hc : X.calm = true) (hg : Gl X "sum") (hm : X.mg "sum" = none) (hd : PE X o td) (hbase : attributeBase o "values" X.env (eval o X.env) = eval o X.env := by rfl) (hline : (apos.endLine == mpos.line) = true := by rfl)
    (hse : starEach [Expr.Call (.Attribute o "values" apos) [] [] mpos] X.env = [(false, eval (Expr.Call (.Attribute o "values" apos) [] [] mpos) X.env)] := by rfl) :
    PE X (.Call (.Name "sum" p) [.Call (.Attribute o "values" apos) [] [] mpos] [] pos) (tSumVals td) := by
  refine ⟨fun pins s σ H Q I h => ?_⟩
  refine wpAny_Call_Name_kw (ld_blt I hg hm (u := .builtin "sum") (by first | rfl | decide +kernel) ?_ (by first | decide +kernel | decide) (by first | decide +kernel | decide))
  rw [hse]
  refine PySem.callWith_builtin1 (wpAny_Call_method0_late hbase hline (thn (hd.run pins s σ H _ I h) fun v s1 ⟨x, H1, I1, r1, a, kvs, is, ex, ha, hv, q⟩ => ?_))
  subst ex
  obtain rfl : v = Value.ref a := r1
  obtain ⟨_, hsys, vs, rel, dof⟩ := dk_rd I1.hok ha
  obtain ⟨ep, dat⟩ := dof.dictAt
  have dat' := dat
  obtain ⟨ob, es, ho, ex, hdat, hko, hpr, hnd⟩ := dat'
  refine ⟨"dict", "dict.values", F.plainAttrs_dict, F.slot_dict_values, F.type_dict_values, ⟨ob, ho, ex.1⟩, fun b e => ?_, Calls.callWith_builtin rfl (PySem.evalArgs_none ?_)⟩
  · cases e
    exact ⟨ob, ho, ex.2.1⟩
  refine call_meetsIn F.slot_dict_values ⟨ob, ho, ex.1⟩ F.entry_dict_values (F.args_dict_values_1 _) (meets_dict_values (mixKind X.prog X.w) a hsys) ⟨⟨vs, dof⟩, ?_⟩
  have k1 : ∀ b u, s1.heap.get? b = some u → (s1.heap.push { cls := .type "dict_values", data := .fields #[.ref a] }).get? b = some u := fun b u e => Heap.get?_push_of_some _ e
  have dat1 : (s1.heap.push { cls := .type "dict_values", data := .fields #[.ref a] }).DictAt (mixKind X.prog X.w) a vs ep := dat.keep k1
  have hlv : vs.length = is.length := by
    have e1 := congrArg List.length hv
    rw [List.length_map, List.length_map] at e1
    rw [← e1]
    exact (KV.length rel).symm
  have hval : ∀ (i : Nat) (v : Value), (∃ k, vs[i]? = some (k, v)) → ∃ t, v = Value.int (is.getD i 0) t := fun i v ⟨k, hk⟩ => by
    have hi : i < kvs.length := by
      rw [KV.length rel]
      exact (List.getElem?_eq_some_iff.mp hk).1
    obtain ⟨u, hu, ru⟩ := kv_get rel (i := i) (k := kvs[i].1) (v := kvs[i].2) (List.getElem?_eq_getElem hi)
    rw [hk] at hu
    cases hu
    have e1 : (kvs.map (·.2))[i]? = some kvs[i].2 := by rw [List.getElem?_map, List.getElem?_eq_getElem hi] <;> rfl
    rw [hv, List.getElem?_map] at e1
    obtain ⟨j, hj, e2⟩ := Option.map_eq_some_iff.mp e1
    rw [← e2] at ru
    obtain ⟨t, e3⟩ := ru
    refine ⟨t, ?_⟩
    rw [e3, List.getD_eq_getElem?_getD, hj] <;> rfl
  refine call_sum_walkG (wpAny_pyIter_values (v := s1.heap.objs.size) (d := a) ⟨_, Heap.get?_push_size _ rfl, rfl, rfl⟩ dat1 ?_)
  have hlt : a < s1.heap.objs.size := Heap.lt_size ho
  have hsz : (s1.heap.push { cls := .type "dict_values", data := .fields #[.ref a] }).objs.size = s1.heap.objs.size + 1 := Heap.size_push _ _
  refine ⟨_, _, _, _, _, _, fun i => is.getD i 0, rfl, Walks.dictValues (knd := mixKind X.prog X.w) (A := X.A.in1) (I.ok.hd hc) (s1.heap.push { cls := .type "dict_values", data := .fields #[.ref a] }).objs.size a (by rw [hsz]; exact Nat.ne_of_lt (Nat.lt_succ_of_lt hlt)) vs ep,
    ⟨⟨_, Heap.get?_push_size _ rfl, rfl, rfl⟩, dat1.keep fun b u e => Heap.get?_push_of_some _ e⟩, fun b hb => ?_, hval, fun h' tk t' hk => ?_⟩
  · show b < ((s1.heap.push { cls := .type "dict_values", data := .fields #[.ref a] }).push _).objs.size
    rw [Heap.size_push, hsz]
    have hb' : b = (s1.heap.push { cls := .type "dict_values", data := .fields #[.ref a] }).objs.size ∨ b = a := by simpa using hb
    rcases hb' with e | e
    · rw [e, hsz]
      exact Nat.lt_succ_self _
    · rw [e]
      exact Nat.lt_succ_of_lt (Nat.lt_succ_of_lt hlt)
  · have I2 : Inv X pins σ H1 { s1 with heap := h', toks := tk } := I1.kept fun b o e => by
      refine hk b o (fun hb => ?_) (Heap.get?_push_of_some _ (k1 b o e))
      have hb' : b = (s1.heap.push { cls := .type "dict_values", data := .fields #[.ref a] }).objs.size := by simpa using hb
      have := Heap.lt_size e
      rw [hb', hsz] at this
      exact Nat.lt_irrefl _ (Nat.lt_of_succ_lt this)
    have es : preSum (fun i => is.getD i 0) vs.length = is.sum := by
      rw [hlv, preSum_take is _ (Nat.le_refl _), List.take_length]
    exact ⟨.int is.sum, H1, I2, ⟨t', by rw [es]⟩, q⟩
end HX
end
section
set_option Elab.async false
set_option linter.all false
set_option maxRecDepth 100000
set_option maxHeartbeats 4000000
/-! Rules beside the layer: dicts whose keys are tuples of ints and texts, the keys told by their addresses, so that a key may be a constant of the module. -/
namespace HX
open PySem PySem.Spec PyProof.Rows L2
abbrev KD := List (List Key × Addr × V)
def RKD (p : List Key × Addr × V) (q : List Key × Addr × Value) : Prop := p.1 = q.1 ∧ p.2.1 = q.2.1 ∧ RelV p.2.2 q.2.2
abbrev KDs : KD → List (List Key × Addr × Value) → Prop := Paired RKD
def dnPhi (P : Program) (w : World) (a : Addr) (kvs : KD) (h : Heap) : Prop :=
  kvs.length ≤ sizeLine ∧ (a == sysModules) = false ∧ ∃ xs, KDs kvs xs ∧ ∃ o es ep, h.get? a = some o ∧ o.ExactDict ∧ o.data = .dict es ep ∧ es.toList = xs.map (entryOfKey (tupleKind (mixKind P w))) ∧ (xs.map (·.1)).Nodup
/-- a dict with tuple keys at a -/
def DN (P : Program) (w : World) (a : Addr) (kvs : KD) : HO := .ext (dnPhi P w a kvs)
theorem dn_new {P : Program} {w : World} {H : Hp} {h : Heap} {a : Addr} {kvs : KD} (x : dnPhi P w a kvs h) : ObjOk P w H h a (DN P w a kvs) := by
  obtain ⟨z, y, xs, r, o, es, ep, e, c⟩ := id x
  refine ⟨x, ⟨o, e⟩, fun h1 h2 p k => ?_⟩
  obtain ⟨z, y, xs, r, o, es, ep, e, c⟩ := p
  exact ⟨z, y, xs, r, o, es, ep, k _ e, c⟩
def valD (kvs : KD) (k : List Key) : Option V := (kvs.find? fun p => decide (p.1 = k)).map (·.2.2)
def putD (kvs : KD) (k : List Key) (b : Addr) (v : V) : KD := if (valD kvs k).isSome then kvs.map (fun p => if p.1 = k then (p.1, p.2.1, v) else p) else kvs ++ [(k, b, v)]
/-- the keys of such a dict stand as tuples -/
def KOk (K : PySem.W.Frag) (H : Hp) (kvs : KD) : Prop := ∀ p ∈ kvs, SqT K H p.2.1 (p.1.map kV)
theorem length_putD (kvs : KD) (k : List Key) (b : Addr) (v : V) : (putD kvs k b v).length ≤ kvs.length + 1 := by
  unfold putD
  split
  · rw [List.length_map]
    omega
  · rw [List.length_append]
    exact Nat.le_refl _
theorem kds_val {kvs : KD} {xs : List (List Key × Addr × Value)} (r : KDs kvs xs) (k : List Key) : RelO (valD kvs k) ((atKey xs k).map (·.2)) := by
  induction r with
  | nil => exact True.intro
  | @cons p q ps qs h t ih =>
    obtain ⟨h1, _, h2⟩ := h
    by_cases e : p.1 = k
    · have e' : q.1 = k := h1.symm.trans e
      have b : atKey (q :: qs) k = some q.2 := by simp [atKey, List.find?_cons, e']
      have c : valD (p :: ps) k = some p.2.2 := by simp [valD, List.find?_cons, e]
      rw [c, b]
      exact h2
    · have e' : ¬ q.1 = k := fun z => e (h1.trans z)
      have b : atKey (q :: qs) k = atKey qs k := by simp [atKey, List.find?_cons, e']
      have c : valD (p :: ps) k = valD ps k := by simp [valD, List.find?_cons, e]
      rw [c, b]
      exact ih
theorem kds_repl {kvs : KD} {xs : List (List Key × Addr × Value)} (r : KDs kvs xs) (k : List Key) {y : V} {u : Value} (ry : RelV y u) :
    KDs (kvs.map fun p => if p.1 = k then (p.1, p.2.1, y) else p) (xs.map (putAt k u)) := by
  induction r with
  | nil => exact .nil
  | @cons p q ps qs h t ih =>
    rw [List.map_cons, List.map_cons]
    refine .cons ?_ ih
    obtain ⟨h1, h2, h3⟩ := h
    unfold putAt
    by_cases e : p.1 = k
    · rw [if_pos e, if_pos (h1.symm.trans e)]
      exact ⟨h1, h2, ry⟩
    · rw [if_neg e, if_neg (fun z => e (h1.trans z))]
      exact ⟨h1, h2, h3⟩
theorem kds_put {kvs : KD} {xs : List (List Key × Addr × Value)} (r : KDs kvs xs) (k : List Key) {b : Addr} {y : V} {u : Value} (ry : RelV y u) :
    KDs (putD kvs k b y) (storedH xs k b u) := by
  have e : (valD kvs k).isSome = (atKey xs k).isSome := by
    rw [(kds_val r k).isSome_eq, Option.isSome_map]
  unfold putD storedH
  rw [e]
  by_cases q : (atKey xs k).isSome = true
  · rw [if_pos q, if_pos q]
    exact kds_repl r k ry
  · rw [if_neg q, if_neg q]
    exact Paired.snoc r ⟨rfl, rfl, ry⟩
section
variable {X : Cx} {pins : List (Addr × Obj)} {σ : L2.St} {H : Hp} {s : Shared} {a b : Addr} {kvs : KD} {k : List Key} {v : V} {r : Value} {A : Around} {E : Value → Shared → Prop}
theorem keyT (I : Inv X pins σ H s) (h : SqT X.K H b (k.map kV)) : (tupleKind (mixKind X.prog X.w)).is s.heap k b := by
  obtain ⟨its, r, p, z⟩ := I.tuple h
  obtain ⟨o, h1, h2, n, h3⟩ := p
  exact ⟨o, its.toArray, n, h1, h2, h3, by simpa using items_are r⟩
theorem dn_rd (I : Inv X pins σ H s) (e : H a = some (DN X.prog X.w a kvs)) (ko : KOk X.K H kvs) : kvs.length ≤ sizeLine ∧ (a == sysModules) = false ∧
    ∃ xs, KDs kvs xs ∧ s.heap.DictOfH (tupleKind (mixKind X.prog X.w)) a xs := by
  obtain ⟨⟨z, y, xs, r, o, es, ep, h1, h2, h3, h4, h5⟩, _⟩ := (show ObjOk X.prog X.w H s.heap a (DN X.prog X.w a kvs) from I.hok a _ e)
  refine ⟨z, y, xs, r, o, es, ep, h1, h2, h3, h4, fun x hx => ?_, h5⟩
  have all : ∀ {l : KD} {m : List (List Key × Addr × Value)}, KDs l m → KOk X.K H l → ∀ x ∈ m, (tupleKind (mixKind X.prog X.w)).is s.heap x.1 x.2.1 := by
    intro l m q
    induction q with
    | nil => intro _ x hx; exact nomatch hx
    | @cons p q ps qs hq t ih =>
      intro ko x hx
      rcases List.mem_cons.mp hx with e | hx
      · subst e
        have z := keyT I (ko p List.mem_cons_self)
        rw [hq.1, hq.2.1] at z
        exact z
      · exact ih (fun p hp => ko p (List.mem_cons_of_mem _ hp)) x hx
  exact all r ko x hx
/-- d[k], there -/
theorem dn_getItem {Q : Value → Shared → Prop} (hu : A.units + 1 < cLine) (I : Inv X pins σ H s) (e : H a = some (DN X.prog X.w a kvs)) (ko : KOk X.K H kvs) (hk : SqT X.K H b (k.map kV)) (hv : valD kvs k = some v)
    (h : ∀ w' s', Inv X pins σ H s' → RelV v w' → Q w' s') : wpAny (model X.prog X.w) A (getItem (.ref a) (.ref b)) Q E s := by
  obtain ⟨z, hd, xs, rel, dd⟩ := dn_rd I e ko
  obtain ⟨w', hw, rw'⟩ := RelO.some_of (v := v) (o := (atKey xs k).map (·.2)) (by rw [← hv]; exact kds_val rel k)
  obtain ⟨p, hp, hp2⟩ := Option.map_eq_some_iff.mp hw
  refine wpAny_getItem_heap (tupleKind_room_in1 hu) (keyT I hk) dd hp ?_
  rw [hp2]
  exact h w' _ (I.tok _) rw'
theorem dn_in {Q : Value → Shared → Prop} (hu : A.units + 1 < cLine) (I : Inv X pins σ H s) (e : H a = some (DN X.prog X.w a kvs)) (ko : KOk X.K H kvs) (hk : SqT X.K H b (k.map kV))
    (h : ∀ s', Inv X pins σ H s' → Q (.bool (valD kvs k).isSome) s') : wpAny (model X.prog X.w) A (compareOp .In (.ref b) (.ref a)) Q E s := by
  obtain ⟨z, hd, xs, rel, dd⟩ := dn_rd I e ko
  refine wpAny_in_heap (tupleKind_room_in1 hu) (keyT I hk) hd dd ?_
  have q := (kds_val rel k).isSome_eq
  rw [Option.isSome_map] at q
  rw [← q]
  exact h _ (I.tok _)
theorem dn_notIn {Q : Value → Shared → Prop} (hu : A.units + 1 < cLine) (I : Inv X pins σ H s) (e : H a = some (DN X.prog X.w a kvs)) (ko : KOk X.K H kvs) (hk : SqT X.K H b (k.map kV))
    (h : ∀ s', Inv X pins σ H s' → Q (.bool (!(valD kvs k).isSome)) s') : wpAny (model X.prog X.w) A (compareOp .NotIn (.ref b) (.ref a)) Q E s := by
  obtain ⟨z, hd, xs, rel, dd⟩ := dn_rd I e ko
  refine wpAny_notIn_heap (tupleKind_room_in1 hu) (keyT I hk) hd dd ?_
  have q := (kds_val rel k).isSome_eq
  rw [Option.isSome_map] at q
  rw [← q]
  exact h _ (I.tok _)
theorem dn_setItem {Q : Unit → Shared → Prop} (hu : A.units + 1 < cLine) (I : Inv X pins σ H s) (e : H a = some (DN X.prog X.w a kvs)) (ko : KOk X.K H kvs) (hk : SqT X.K H b (k.map kV)) (hz : kvs.length < sizeLine)
    (rv : RelV v r) (h : ∀ s', Inv X pins σ (upd H a (DN X.prog X.w a (putD kvs k b v))) s' → Q () s') : wpAny (model X.prog X.w) A (setItem (.ref a) (.ref b) r) Q E s := by
  obtain ⟨z, hd, xs, rel, dd⟩ := dn_rd I e ko
  have hzx : xs.length ≤ sizeLine := by rw [← Paired.length rel]; exact z
  have hl : (putD kvs k b v).length ≤ sizeLine := by have := length_putD kvs k b v; omega
  refine wpAny_setItem_heap (hsz := hzx) (tupleKind_room_in1 hu) (keyT I hk) dd fun h' dd' hs => h _ ?_
  obtain ⟨q, es, ep, hq, h2, h3, h4, _, h5⟩ := dd'
  exact d_write I (by rw [e]; exact True.intro) hs ⟨q, hq⟩ (dn_new ⟨hl, hd, _, kds_put rel k rv, q, es, ep, hq, h2, h3, h4, h5⟩)
theorem dn_dictSet {Q : Unit → Shared → Prop} (hu : A.units < cLine) (I : Inv X pins σ H s) (e : H a = some (DN X.prog X.w a kvs)) (ko : KOk X.K H kvs) (hk : SqT X.K H b (k.map kV)) (hz : kvs.length < sizeLine)
    (rv : RelV v r) (h : ∀ s', Inv X pins σ (upd H a (DN X.prog X.w a (putD kvs k b v))) s' → Q () s') : wpAny (model X.prog X.w) A (dictSet a (.ref b) r) Q E s := by
  obtain ⟨z, hd, xs, rel, dd⟩ := dn_rd I e ko
  have hzx : xs.length ≤ sizeLine := by rw [← Paired.length rel]; exact z
  have hl : (putD kvs k b v).length ≤ sizeLine := by have := length_putD kvs k b v; omega
  refine wpAny_dictSet_heap (hsz := hzx) (knd := tupleKind (mixKind X.prog X.w)) hu (keyT I hk) dd fun h' dd' hs => h _ ?_
  obtain ⟨q, es, ep, hq, h2, h3, h4, _, h5⟩ := dd'
  exact d_write I (by rw [e]; exact True.intro) hs ⟨q, hq⟩ (dn_new ⟨hl, hd, _, kds_put rel k rv, q, es, ep, hq, h2, h3, h4, h5⟩)
theorem dn_type (I : Inv X pins σ H s) (e : H a = some (DN X.prog X.w a kvs)) : s.TypeIs (.ref a) "dict" := by
  obtain ⟨⟨z, y, xs, r, o, es, ep, h1, h2, h3, h4, h5⟩, _⟩ := (show ObjOk X.prog X.w H s.heap a (DN X.prog X.w a kvs) from I.hok a _ e)
  exact ⟨o, h1, h2.1⟩
end
theorem dn_empty {P : Program} {w : World} {H : Hp} (h : Heap) (hb : sysModules < h.objs.size) : ObjOk P w H (h.push { cls := .type "dict", data := .dict #[] }) h.objs.size (DN P w h.objs.size []) :=
  dn_new ⟨Nat.zero_le _, beq_eq_false_iff_ne.mpr (Ne.symm (Nat.ne_of_lt hb)), [], .nil, _, #[], 0, Heap.get?_push_size _ rfl, ⟨rfl, rfl, rfl⟩, rfl, rfl, List.nodup_nil⟩
/-! ### readings and rules -/
def tNGet (P : Program) (w : World) (K : PySem.W.Frag) (td ty : TE) : TE := fun σ H Q => td σ H fun x H1 => ty σ H1 fun y H2 => ∃ a b kvs k v, x = V.ref a ∧ y = V.ref b ∧ H2 a = some (DN P w a kvs) ∧ KOk K H2 kvs ∧ SqT K H2 b (k.map kV) ∧ valD kvs k = some v ∧ Q v H2
def tNIn (neg : Bool) (P : Program) (w : World) (K : PySem.W.Frag) (ty td : TE) : TE := fun σ H Q => ty σ H fun y H1 => td σ H1 fun x H2 => ∃ a b kvs k, x = V.ref a ∧ y = V.ref b ∧ H2 a = some (DN P w a kvs) ∧ KOk K H2 kvs ∧ SqT K H2 b (k.map kV) ∧ Q (.bl (if neg then !(valD kvs k).isSome else (valD kvs k).isSome)) H2
def sNPut (P : Program) (w : World) (K : PySem.W.Frag) (td ty tv : TE) : TS := fun D σ H => tv σ H fun v H1 => td σ H1 fun x H2 => ty σ H2 fun y H3 => ∃ a b kvs k, x = V.ref a ∧ y = V.ref b ∧ H3 a = some (DN P w a kvs) ∧ KOk K H3 kvs ∧ SqT K H3 b (k.map kV) ∧ kvs.length < sizeLine ∧ D.nx σ (upd H3 a (DN P w a (putD kvs k b v)))
section
variable {X : Cx} {o i value : Expr} {pos pos' : Pos} {td ty tv : TE}
theorem pe_nget (hu : X.A.units + 1 < cLine) (ho : PE X o td) (hi : PE X i ty) (hs : NoSl i) : PE X (.Subscript o i pos) (tNGet X.prog X.w X.K td ty) := by
  refine ⟨fun pins s σ H Q I h => ?_⟩
  refine subD_of PySem.F.slot_dict_getitem.lookup hs (thn (ho.run pins s σ H _ I h) fun u s1 ⟨x, H1, I1, rx, q1⟩ => thn (hi.run pins s1 σ H1 _ I1 q1) fun iv s2 ⟨y, H2, I2, ry, a, b, kvs, k, v, ex, ey, e, ko, hk, hv, q2⟩ => ?_)
  subst ex ey
  obtain rfl : u = Value.ref a := rx
  obtain rfl : iv = Value.ref b := ry
  exact ⟨dn_type I2 e, dn_getItem hu I2 e ko hk hv fun w' s3 I3 rw' => ⟨v, H2, I3, rw', q2⟩⟩
theorem pc_nin (hu : X.A.units + 1 < cLine) (hi : PE X i ty) (ho : PE X o td) : PC X .In i o (tNIn false X.prog X.w X.K ty td) := by
  refine ⟨fun pins s σ H Q I h => ?_⟩
  refine thn (hi.run pins s σ H _ I h) fun iv s1 ⟨y, H1, I1, ry, q1⟩ => thn (ho.run pins s1 σ H1 _ I1 q1) fun u s2 ⟨x, H2, I2, rx, a, b, kvs, k, ex, ey, e, ko, hk, q2⟩ => ?_
  subst ex ey
  obtain rfl : u = Value.ref a := rx
  obtain rfl : iv = Value.ref b := ry
  exact dn_in hu I2 e ko hk fun s3 I3 => ⟨.bl (valD kvs k).isSome, H2, I3, rfl, q2⟩
theorem pc_nnotin (hu : X.A.units + 1 < cLine) (hi : PE X i ty) (ho : PE X o td) : PC X .NotIn i o (tNIn true X.prog X.w X.K ty td) := by
  refine ⟨fun pins s σ H Q I h => ?_⟩
  refine thn (hi.run pins s σ H _ I h) fun iv s1 ⟨y, H1, I1, ry, q1⟩ => thn (ho.run pins s1 σ H1 _ I1 q1) fun u s2 ⟨x, H2, I2, rx, a, b, kvs, k, ex, ey, e, ko, hk, q2⟩ => ?_
  subst ex ey
  obtain rfl : u = Value.ref a := rx
  obtain rfl : iv = Value.ref b := ry
  exact dn_notIn hu I2 e ko hk fun s3 I3 => ⟨.bl (!(valD kvs k).isSome), H2, I3, rfl, q2⟩
theorem ps_nput (hu : X.A.units + 1 < cLine) (ho : PE X o td) (hi : PE X i ty) (hv : PE X value tv) (hs : swapsWith value (some (.Subscript o i pos')) pos.line X.env = pure false) :
    PS X (.Assign [.Subscript o i pos'] value pos) (sNPut X.prog X.w X.K td ty tv) := by
  refine ⟨fun pins s σ H D I h => ?_⟩
  refine wpAny_Assign_Subscript (thn (hv.run pins s σ H _ I h) fun r s1 ⟨v, H1, I1, rv, q1⟩ => thn (ho.run pins s1 σ H1 _ I1 q1) fun u s2 ⟨x, H2, I2, rx, q2⟩ => thn (hi.run pins s2 σ H2 _ I2 q2) fun iv s3 ⟨y, H3, I3, ry, a, b, kvs, k, ex, ey, e, ko, hk, hz, q3⟩ => ?_) hs
  subst ex ey
  obtain rfl : u = Value.ref a := rx
  obtain rfl : iv = Value.ref b := ry
  exact dn_setItem hu I3 e ko hk hz rv fun s4 I4 => ⟨σ, _, I4, q3⟩
end
/-- {}, to be such a dict -/
def tNNew (P : Program) (w : World) : TE := fun _ H Q => ∀ p, H p = none → Q (.ref p) (upd H p (DN P w p []))
theorem pe_nnew {X : Cx} {pos : Pos} : PE X (.Dict [] [] pos) (tNNew X.prog X.w) := ⟨fun pins s σ H Q I h =>
  wpAny_Dict_empty ⟨.ref s.heap.objs.size, _, I.laid (a := s.heap.objs.size) (o := DN X.prog X.w s.heap.objs.size []) (t' := s.toks) (fun _ _ q => Heap.get?_push_of_some _ q) (Nat.le_refl _) (dn_empty s.heap I.big), rfl, h _ (I.hok.fresh (Nat.le_refl _))⟩⟩
/-- {k: v}, k a tuple -/
def tNDisp (P : Program) (w : World) (K : PySem.W.Frag) (tk tv : TE) : TE := fun σ H Q => ∀ p, H p = none → tk σ (upd H p (DN P w p [])) fun x H1 => tv σ H1 fun v H2 => ∃ b k, x = V.ref b ∧ H2 p = some (DN P w p []) ∧ SqT K H2 b (k.map kV) ∧ Q (.ref p) (upd H2 p (DN P w p [(k, b, v)]))
theorem pe_ndisp {X : Cx} {pos : Pos} {k v : Expr} {tk tv : TE} (hu : X.A.units < cLine) (hk : PE X k tk) (hv : PE X v tv) : PE X (.Dict [some k] [v] pos) (tNDisp X.prog X.w X.K tk tv) := by
  refine ⟨fun pins s σ H Q I q => ?_⟩
  have hn := I.hok.fresh (Nat.le_refl s.heap.objs.size)
  have I1 := I.laid (a := s.heap.objs.size) (o := DN X.prog X.w s.heap.objs.size []) (h' := s.heap.push { cls := .type "dict", data := .dict #[] }) (t' := s.toks) (fun _ _ q => Heap.get?_push_of_some _ q) (Nat.le_refl _) (dn_empty s.heap I.big)
  have hl : (pairTrees [some k] [v] X.env pos).length = 1 := pairTrees_length _ _ _ _ rfl rfl
  have h0 : pairTrees [some k] [v] X.env pos ≠ [] := fun z => by
    rw [z] at hl
    cases hl
  rw [arm_eval_Dict, zip_pairTrees [some k] [v] X.env pos rfl rfl, dictDisplay_pairs _ h0 (by omega)]
  refine wpAny_bind (wpAny_standAt (wpAny_bind (wpAny_subDictH (knd := tupleKind (mixKind X.prog X.w)) (Q := fun d s' => wpAny (model X.prog X.w) X.A (pure (Value.ref d)) (EP X pins σ Q) X.xe s') hu (by omega)
    (pairTrees_cons_walk (thn (hk.run pins _ σ _ _ I1 (q _ hn)) fun u s2 ⟨x, H2, I2, r2, q2⟩ => thn (hv.run pins s2 σ H2 _ I2 q2) fun r s3 ⟨y, H3, I3, r3, b, ks, ex, e, hb, q3⟩ => pairTrees_nil_walk ?_)))))
  subst ex
  obtain rfl : u = Value.ref b := r2
  obtain ⟨z, hd, xs, rel, dd⟩ := dn_rd I3 e (fun _ h => nomatch h)
  cases rel
  refine ⟨[(ks, b, r)], ⟨rfl, rfl, keyT I3 hb, True.intro⟩, dd, fun h' tk' dd' hs => ?_⟩
  obtain ⟨o, es, ep, hq, h2, h3, h4, _, h5⟩ := dd'
  refine wpAny_pure ⟨.ref s.heap.objs.size, _, ?_, rfl, q3⟩
  exact d_write I3 (by rw [e]; exact True.intro) hs ⟨o, hq⟩ (dn_new ⟨by rw [sizeLine_eq]; simp, hd, _, .cons ⟨rfl, rfl, r3⟩ .nil, o, es, ep, hq, h2, h3, h4, h5⟩)
/-! ### list(d) -/
def rListN (P : Program) (w : World) : List V → Hp → VK → Prop := fun xs H Q => ∃ d kvs, xs = [V.ref d] ∧ H d = some (DN P w d kvs) ∧ ∀ p, H p = none → Q (.ref p) (upd H p (.lst (kvs.map fun q => V.ref q.2.1)))
theorem cr_listN {X : Cx} (hc : X.calm = true) : CallR X (.type "list") (rListN X.prog X.w) := by
  intro pins s σ H xs us Q I r h
  obtain ⟨d, kvs, rfl, hd, q⟩ := h
  obtain ⟨u, rfl, rx⟩ := r.one
  cases rx
  obtain ⟨⟨z, hs, ks, pr, o, es, ep, ho, hx, hdt, he, hn⟩, _⟩ := (show ObjOk X.prog X.w H s.heap d (DN X.prog X.w d kvs) from I.hok d _ hd)
  have l1 : es.size = ks.length := size_of_entries he
  have l2 : kvs.length = ks.length := Paired.length pr
  refine PySem.W.kdl_call (kdl_raw hs hx hdt) (I.ok.hd hc) ho (by omega) fun h' tk acc' c' kp e it => ?_
  have ea : acc'.toList = ks.map fun x => Value.ref x.2.1 := by
    have hl : acc'.toList.length = ks.length := by rw [Array.length_toList, it.1]; exact l1
    apply List.ext_getElem?
    intro j
    rw [List.getElem?_map]
    cases hj : acc'.toList[j]? with
    | none =>
      have h1 := List.getElem?_eq_none_iff.mp hj
      rw [List.getElem?_eq_none (by omega)]
      all_goals rfl
    | some v =>
      obtain ⟨en, hen, hv⟩ := it.2 j v (by rw [← Array.getElem?_toList]; exact hj)
      have qe := entry_at he j
      rw [hen] at qe
      cases hb : ks[j]? with
      | none =>
        rw [hb] at qe
        exact nomatch (show some en = none from qe)
      | some b =>
        rw [hb] at qe
        have e2 : en = entryOfKey (tupleKind (mixKind X.prog X.w)) b := Option.some.inj qe
        rw [hv, e2]
        all_goals rfl
  have ek : (kvs.map fun q => V.ref q.2.1) = (ks.map fun x => x.2.1).map V.ref := by
    have : ∀ {kvs : KD} {ks : List (List Key × Addr × Value)}, KDs kvs ks → (kvs.map fun q => V.ref q.2.1) = (ks.map fun x => x.2.1).map V.ref := fun r => by
      induction r with
      | nil => rfl
      | cons h t ih => rw [List.map_cons, List.map_cons, List.map_cons, ih, h.2.1]
    exact this pr
  have eb : acc'.toList = (ks.map fun x => x.2.1).map Value.ref := by rw [ea, List.map_map]; all_goals rfl
  have rv : Vals ((ks.map fun x => x.2.1).map V.ref) acc'.toList := by
    rw [eb]
    have : ∀ l : List Addr, Vals (l.map V.ref) (l.map Value.ref) := fun l => by
      induction l with
      | nil => exact .nil
      | cons x l ih => exact .cons rfl ih
    exact this _
  have hz : ((ks.map fun x => x.2.1).map V.ref).length ≤ sizeLine := by rw [List.length_map, List.length_map]; omega
  have q' := q s.heap.objs.size (I.hok.fresh (Nat.le_refl _))
  rw [ek] at q'
  refine ⟨.ref s.heap.objs.size, _, I.laid (t' := tk) (o := .lst ((ks.map fun x => x.2.1).map V.ref)) kp (Nat.le_refl _) ?_, rfl, q'⟩
  exact ⟨hz, acc'.toList, c', rv, by rw [Array.toArray_toList]; exact e⟩
/-! ### == of two such dicts with the same keys, their values ints -/
def tabN (ks : List (List Key × Addr)) (f : List Key → Int) : KD := ks.map fun k => (k.1, k.2, V.int (f k.1))
theorem keq_sameN {prog : Program} {w : World} {A : Around} {E : Value → Shared → Prop} {s : Shared} {nm : String} {a b : Addr} {ka kb : List (List Key × Addr × Value)} {ks : List (List Key × Addr)} {f g : List Key → Int} {Q : Bool → Shared → Prop} (hu : A.units < cLine) (ha : (a == sysModules) = false) (hb : (b == sysModules) = false)
    (da : s.heap.DictOfH (tupleKind (mixKind prog w)) a ka) (db : s.heap.DictOfH (tupleKind (mixKind prog w)) b kb) (pa : KDs (tabN ks f) ka) (pb : KDs (tabN ks g) kb) (h : Q (decide (∀ k ∈ ks, f k.1 = g k.1)) s) :
    wpAny (model prog w) A (Builtin.Dict.samePairs nm a b) Q E s := by
  obtain ⟨oa, es, ep, hoa, _, hda, hea, hia, hna⟩ := da
  obtain ⟨ob, es', ep', hob, _, hdb, heb, hib, hnb⟩ := db
  have hla : es.size = ks.length := by
    rw [size_of_entries hea, ← Paired.length pa]
    unfold tabN
    rw [List.length_map]
  have hlb : es'.size = ks.length := by
    rw [size_of_entries heb, ← Paired.length pb]
    unfold tabN
    rw [List.length_map]
  have at_ : ∀ {f : List Key → Int} {ka : List (List Key × Addr × Value)}, KDs (tabN ks f) ka → ∀ (i : Nat) (k : List Key × Addr), ks[i]? = some k → ∃ t, ka[i]? = some (k.1, k.2, Value.int (f k.1) t) := fun {f ka} pr i k hk => by
    have e1 : (tabN ks f)[i]? = some (k.1, k.2, V.int (f k.1)) := by
      unfold tabN
      rw [List.getElem?_map, hk] <;> rfl
    have : ∀ {l : KD} {m : List (List Key × Addr × Value)} {i : Nat} {x : List Key × Addr × V}, KDs l m → l[i]? = some x → ∃ y, m[i]? = some y ∧ RKD x y := fun {l m i x} r => by
      induction r generalizing i with
      | nil =>
        intro e
        simp at e
      | cons h t ih =>
        intro e
        cases i with
        | zero =>
          simp at e
          subst e
          exact ⟨_, rfl, h⟩
        | succ i => exact ih (by simpa using e)
    obtain ⟨y, hy, r1, r2, t, r3⟩ := this pr e1
    obtain ⟨y1, y2, y3⟩ := y
    dsimp only at r1 r2 r3
    subst r1 r2 r3
    exact ⟨t, hy⟩
  unfold Builtin.Dict.samePairs Builtin.Dict.showsAll
  rw [if_neg (show ¬ (a == sysModules) = true by rw [ha]; exact Bool.false_ne_true), if_neg (show ¬ (b == sysModules) = true by rw [hb]; exact Bool.false_ne_true)]
  refine wpAny_bind (wpAny_pure (wpAny_bind (wpAny_pure ?_)))
  refine wpAny_bind (wpAny_dictEntries hoa hda ?_)
  dsimp only
  refine wpAny_bind (wpAny_dictEntries hob hdb ?_)
  have hsz : es.size = es'.size := hla.trans hlb.symm
  rw [if_neg (by rw [hsz]; simp)]
  refine wpAny_bind (wpAny_dictEpoch hoa hda ?_)
  refine wpAny_bind ?_
  rw [Std.Legacy.Range.forIn_eq_forIn_range']
  simp only [Std.Legacy.Range.size, Nat.sub_zero, Nat.add_sub_cancel, Nat.div_one]
  refine wpAny_forIn_list _
    (fun rest q s' => s' = s ∧ q = (none, ()) ∧ ∃ i, rest = List.range' i (es.size - i) ∧ i ≤ es.size ∧ ∀ j k, j < i → ks[j]? = some k → f k.1 = g k.1)
    _ ?_ ?_ _ _ ⟨rfl, rfl, 0, by simp, Nat.zero_le _, fun j _ hj => nomatch hj⟩
  · rintro x rest q s' ⟨rfl, rfl, i, hr, hi, hpre⟩
    have hlt : i < es.size := by
      rcases Nat.lt_or_ge i es.size with h | h
      · exact h
      · rw [Nat.sub_eq_zero_of_le h] at hr
        simp at hr
    obtain ⟨rfl, hrest⟩ : x = i ∧ rest = List.range' (i + 1) (es.size - (i + 1)) := by
      have e : es.size - i = (es.size - (i + 1)) + 1 := by omega
      rw [e, List.range'_succ] at hr
      injection hr with h1 h2
      exact ⟨h1, h2⟩
    refine wpAny_bind (wpAny_dictEntries hoa hda ?_)
    obtain ⟨k, hk⟩ : ∃ k, ks[x]? = some k := ⟨ks[x]'(by omega), List.getElem?_eq_getElem (by omega)⟩
    obtain ⟨t1, h1⟩ := at_ pa x k hk
    obtain ⟨t2, h2⟩ := at_ pb x k hk
    have ee1 := entry_at hea x
    rw [h1] at ee1
    have ee1' : es[x]? = some ⟨(tupleKind (mixKind prog w)).hash k.1, .ref k.2, Value.int (f k.1) t1⟩ := ee1
    have ee2 := entry_at heb x
    rw [h2] at ee2
    have ee2' : es'[x]? = some ⟨(tupleKind (mixKind prog w)).hash k.1, .ref k.2, Value.int (g k.1) t2⟩ := ee2
    rw [ee1']
    show wpAny _ _ (holding [Value.ref k.2, Value.int (f k.1) t1] _ >>= _) _ _ _
    have hkey : (tupleKind (mixKind prog w)).is s'.heap k.1 k.2 := hia _ (List.mem_of_getElem? h1)
    refine wpAny_bind (wpAny_holding (wpAny_bind (wpAny_dictFind_heap (knd := tupleKind (mixKind prog w)) hu hkey hob hdb heb hib hnb (fun hno => absurd h2 (hno x _)) fun j p hj => ?_)))
    have ej : j = x := idxH_unique hnb hj h2
    subst ej
    refine wpAny_bind (wpAny_dictEntries hob hdb ?_)
    rw [ee2']
    refine wpAny_holding ((SeqAt.EqAt.int_int (f k.1) t1 (g k.1) t2) prog w _ _ ?_)
    by_cases efg : f k.1 = g k.1
    · rw [show ((f k.1 == g k.1) = true) from by simpa using efg]
      show wpAny _ _ (if (!true) = true then _ else _) _ _ _
      rw [if_neg (by decide)]
      refine wpAny_bind (wpAny_dictEpoch hoa hda ?_)
      rw [if_neg (by simp)]
      refine wpAny_pure ⟨rfl, rfl, j + 1, hrest, hlt, fun m km hm hkm => ?_⟩
      by_cases emj : m = j
      · subst emj
        rw [hk] at hkm
        cases hkm
        exact efg
      · exact hpre m km (by omega) hkm
    · rw [show ((f k.1 == g k.1) = false) from by simpa using efg]
      show wpAny _ _ (if (!false) = true then _ else _) _ _ _
      rw [if_pos (by decide)]
      have hF : decide (∀ k ∈ ks, f k.1 = g k.1) = false := decide_eq_false fun z => efg (z k (List.mem_of_getElem? hk))
      rw [hF] at h
      exact wpAny_pure (wpAny_pure h)
  · rintro q s' ⟨rfl, rfl, i, hr, hi, hpre⟩
    have hin : i = es.size := by
      rcases Nat.lt_or_ge i es.size with h | h
      · have e : es.size - i = (es.size - (i + 1)) + 1 := by omega
        rw [e, List.range'_succ] at hr
        exact nomatch hr
      · exact Nat.le_antisymm hi h
    refine wpAny_pure ?_
    have hT : decide (∀ k ∈ ks, f k.1 = g k.1) = true := decide_eq_true fun k hk => by
      obtain ⟨j, hj⟩ := List.mem_iff_getElem?.mp hk
      exact hpre j k (by have := (List.getElem?_eq_some_iff.mp hj).1; omega) hj
    rw [hT] at h
    exact h
def rEqN (P : Program) (w : World) (K : PySem.W.Frag) : R2 := fun x y H Q => ∃ a b ks f g, x = V.ref a ∧ y = V.ref b ∧ H a = some (DN P w a (tabN ks f)) ∧ H b = some (DN P w b (tabN ks g)) ∧ (∀ k ∈ ks, SqT K H k.2 (k.1.map kV)) ∧ Q (.bl (decide (∀ k ∈ ks, f k.1 = g k.1))) H
theorem op_eqN {X : Cx} (hu : X.A.units + 1 < cLine) : OpR X (compareOp .Eq) (rEqN X.prog X.w X.K) := by
  intro pins s σ H x y v u Q I rx ry h
  obtain ⟨a, b, ks, f, g, rfl, rfl, ea, eb, hk, q⟩ := h
  obtain rfl : v = Value.ref a := rx
  obtain rfl : u = Value.ref b := ry
  have ko : ∀ f, KOk X.K H (tabN ks f) := fun f p hp => by
    obtain ⟨k, hk', rfl⟩ := List.mem_map.mp hp
    exact hk k hk'
  obtain ⟨_, ya, va, ra, da⟩ := dn_rd I ea (ko f)
  obtain ⟨_, yb, vb, rb, db⟩ := dn_rd I eb (ko g)
  refine wpAny_richCompare_same_room (op := .Eq) da.typeIs db.typeIs PySem.F.slot_dict_eq (wpAny_call_entry PySem.F.slot_dict_eq da.typeIs PySem.F.entry_dict_eq ?_ (PySem.F.args_dict_eq_2 _ _)) (by omega)
  show wpAny _ _ (Builtin.Dict.dictSlotArgs "__eq__" ⟨[.ref a, .ref b], []⟩ >>= _) _ _ s
  refine wpAny_bind ?_
  unfold Builtin.Dict.dictSlotArgs
  refine wpAny_bind (wpAny_notOrdered_dict da.typeIs ?_)
  show wpAny _ _ (pure (Value.ref a, Value.ref b)) _ _ s
  refine wpAny_pure ?_
  refine wpAny_bind (wpAny_isInstance (T := "dict") db.typeIs PySem.F.sub_dict_dict ?_)
  simp only [Bool.not_true, Bool.false_eq_true, if_false]
  refine wpAny_bind (wpAny_pure (wpAny_bind (wpAny_pure ?_)))
  refine wpAny_bind (keq_sameN (by exact hu) ya yb da db ra rb ?_)
  refine wpAny_pure ⟨_, rfl, ?_, ?_⟩
  · exact fun x => nomatch x
  · exact fin_bl I q (by simp)
/-! ### a comprehension that makes such a dict -/
def tNc (P : Program) (w : World) (K : PySem.W.Frag) (wi : TI) (g : TG) (tt : TT) (tk tv : TE) (vs : List Nat) : TE := fun σ H Q => wi σ H fun J H1 => ∀ D, H1 D = none → ∃ W : Nat → Nat → Hp → Prop, (∃ m, W 0 m (upd H1 D (DN P w D []))) ∧ ∀ i m H, W i m H →
  (J.stop i H ∧ Q (.ref D) H) ∨ (J.go i H ∧ ∃ Nx : Hp → Prop, (∀ H', Nx H' → ∃ m', m' < m ∧ W (i + 1) m' H') ∧ ∀ x H', J.yld i H x H' → g x (wipe σ vs) H' fun σ2 H2 => wipe σ2 vs = wipe σ vs ∧ tt σ2 H2 fun b H3 =>
    if b = true then tk σ2 H3 fun y H4 => tv σ2 H4 fun z H5 => ∃ kvs k c, y = V.ref c ∧ H5 D = some (DN P w D kvs) ∧ KOk K H5 kvs ∧ SqT K H5 c (k.map kV) ∧ kvs.length < sizeLine ∧ Nx (upd H5 D (DN P w D (putD kvs k c z))) else Nx H3)
section
variable {X : Cx}
theorem nc_core {pins : List (Addr × Obj)} {s : Shared} {σ : L2.St} {H : Hp} {Q : VK} {kx vx tg iter : Expr} {ifs : List Expr} {scope : Scope} {own : List (Str × Nat)} {pos pos' : Pos} {wi : TI} {g : TG} {tt : TT} {tk tv : TE} {use : Option (Value → Sem Unit)} {Qf : Value → Shared → Prop}
    (hu : X.A.units < cLine) (hc : X.calm = true) (hN : X.N.Nodup) (I : Inv X pins σ H s) (hi : PI X tg iter wi) (ok : BlkOk X.N X.env.scope scope own)
    (hg : ∀ (s : Shared) (H : Hp) (C : Addr) (cl : List (Str × Addr)) (fp : List Addr), PG (X.blk s H scope (compEnvC scope cl C X.env) fp) tg g) (ht : ∀ (s : Shared) (H : Hp) (C : Addr) (cl : List (Str × Addr)) (fp : List Addr), PTs (X.blk s H scope (compEnvC scope cl C X.env) fp) ifs tt)
    (hk : ∀ (s : Shared) (H : Hp) (C : Addr) (cl : List (Str × Addr)) (fp : List Addr), PE (X.blk s H scope (compEnvC scope cl C X.env) fp) kx tk)
    (he : ∀ (s : Shared) (H : Hp) (C : Addr) (cl : List (Str × Addr)) (fp : List Addr), PE (X.blk s H scope (compEnvC scope cl C X.env) fp) vx tv) (hs : ∀ x, foldedSetIterable iter X.env x = pure x)
    (h : tNc X.prog X.w X.K wi g tt tk tv (own.map (·.2)) σ H Q)
    (hRR : ∀ D C s' m H', Inv X pins σ H' s' → Q (.ref D) H' → s'.heap.Ns C m → FpOk X pins H' C → compPost (model X.prog X.w) X.A X.xe use Qf (.ref D) C (.ok .next) s') :
    wpAny (model X.prog X.w) X.A (comprehension (.DictComp kx vx [⟨tg, iter, ifs, 0⟩] scope pos) scope X.env pos' newDict false (eval iter X.env) use) Qf X.xe s := by
  have hfree : ∀ y ∈ scope.names, y.2 = .free → ∃ c, X.env.cells.lookup y.1 = some c := fun y hy e => by
    rcases ok.free y hy e with k | k
    · exact I.ok.has _ (.inl k)
    · exact I.ok.has _ (.inr k)
  refine wpAny_comprehension_free (use := use) rfl hs (closure_ok hfree) ok.kind (fun y hy e => by rw [ok.uniq y hy, e])
    (thn (hi.run pins s σ H _ I h) fun xv s1 hx => thn hx fun itv s2 h2 => ?_)
  obtain ⟨it, fp, tn, J, H2, e, I2, T, st2, f2, q⟩ := h2
  subst e
  refine wpAny_newObj_type (newEnv_comp ?_)
  generalize hD : s2.heap.objs.size = D
  have hDn : H2 D = none := I2.hok.fresh (Nat.le_of_eq hD)
  obtain ⟨W, ⟨m0, w0⟩, turn⟩ := q D hDn
  -- the new list
  generalize hs3 : ({ s2 with heap := s2.heap.push { cls := .type "dict", data := .dict #[] } } : Shared) = s3
  have I3 : Inv X pins σ (upd H2 D (DN X.prog X.w D [])) s3 := by
    rw [← hs3]
    refine I2.laid (t' := s2.toks) (fun b o e => Heap.get?_push_of_some _ e) (Nat.le_of_eq hD) ?_
    rw [← hD]
    exact dn_empty s2.heap I2.big
  have h3 : s3.heap = s2.heap.push { cls := .type "dict", data := .dict #[] } := by rw [← hs3]
  have sz : ∀ b ∈ fp, b < s2.heap.objs.size := fun b hb => by
    obtain ⟨o, e, _⟩ := T.obj _ _ st2 b hb
    exact Heap.lt_size e
  have f3 : ∀ b ∈ fp, FpOk X pins (upd H2 D (DN X.prog X.w D [])) b ∧ b < s3.heap.objs.size := fun b hb => by
    have hlt := sz b hb
    refine ⟨⟨?_, (f2 b hb).2⟩, by rw [h3, Heap.size_push]; exact Nat.lt_succ_of_lt hlt⟩
    rw [upd_ne (by rw [← hD]; exact Nat.ne_of_lt hlt)]
    exact (f2 b hb).1
  have st3 : tn 0 s3.heap := T.keep _ _ _ st2 fun b _ o e => by rw [h3]; exact Heap.get?_push_of_some _ e
  have I4 := block_start I3 ok hN f3
  have pg := hg s3 (upd H2 D (DN X.prog X.w D [])) s3.heap.objs.size (cellsFrom (s3.heap.objs.size + 1) scope.names (cloFrom X.env.cells scope.names [])) fp
  have pt := ht s3 (upd H2 D (DN X.prog X.w D [])) s3.heap.objs.size (cellsFrom (s3.heap.objs.size + 1) scope.names (cloFrom X.env.cells scope.names [])) fp
  have pk := hk s3 (upd H2 D (DN X.prog X.w D [])) s3.heap.objs.size (cellsFrom (s3.heap.objs.size + 1) scope.names (cloFrom X.env.cells scope.names [])) fp
  have pe := he s3 (upd H2 D (DN X.prog X.w D [])) s3.heap.objs.size (cellsFrom (s3.heap.objs.size + 1) scope.names (cloFrom X.env.cells scope.names [])) fp
  show codeAny _ _ (.compStart (.DictComp kx vx [⟨tg, iter, ifs, 0⟩] scope pos) 0 (.ref it) (.ref D) (compEnvC scope (cellsFrom (s3.heap.objs.size + 1) scope.names (cloFrom X.env.cells scope.names [])) s3.heap.objs.size X.env)) (compPost (model X.prog X.w) X.A X.xe use Qf (.ref D) s3.heap.objs.size) { s3 with heap := pushCells (s3.heap.push { cls := .type "dict", data := .dict #[] }) scope.names }
  have nfp : ∀ b ∈ fp, (upd H2 D (DN X.prog X.w D [])) b = none := fun b hb => (f3 b hb).1.1
  generalize hce : compEnvC scope (cellsFrom (s3.heap.objs.size + 1) scope.names (cloFrom X.env.cells scope.names [])) s3.heap.objs.size X.env = ce at I4 pg pt pk pe ⊢
  have cL : ce.locals = s3.heap.objs.size := by subst hce; rfl
  generalize hH3 : upd H2 D (DN X.prog X.w D []) = H3 at I3 I4 pg pt pk pe w0 nfp f3
  generalize hs4 : ({ s3 with heap := pushCells (s3.heap.push { cls := .type "dict", data := .dict #[] }) scope.names } : Shared) = s4 at I4 ⊢
  have st4 : tn 0 s4.heap := T.keep _ _ _ st3 fun b _ o e => by rw [← hs4]; exact pushCells_keeps _ _ _ _ (Heap.get?_push_of_some _ e)
  have stat : ∀ {σ' : L2.St} {H' : Hp} {s' : Shared}, Inv (X.blk s3 H3 scope ce fp) [] σ' H' s' → (∀ b ∈ fp, H' b = none) → ∀ b ∈ fp, FpOk (X.blk s3 H3 scope ce fp) [] H' b := fun {σ' H' s'} I' hn b hb =>
    ⟨hn b hb, (I'.ok.exf b hb).1, I'.ok.exfs b hb, .inl hb, fun x c e => (I'.ok.exf b hb).2 x c e, fun p hp => absurd (show p ∈ ([] : List (Addr × Obj)) ++ [] from hp) (by simp)⟩
  have loop : codeAny (model X.prog X.w) X.A (.compLoop (.DictComp kx vx [⟨tg, iter, ifs, 0⟩] scope pos) 0 (.ref it) (.ref D) ce) (compPost (model X.prog X.w) X.A X.xe use Qf (.ref D) s3.heap.objs.size) s4 := by
    refine compLoop_anyD (fun n s' => ∃ i H', Inv (X.blk s3 H3 scope ce fp) [] (wipe σ (own.map (·.2))) H' s' ∧ tn i s'.heap ∧ (∀ b ∈ fp, H' b = none) ∧ W i n H') ?_ m0 ⟨0, H3, I4, st4, nfp, w0⟩
    rintro n s5 ⟨i, H5, I5, st5, n5, w5⟩
    rcases turn i n H5 w5 with ⟨stop, qq⟩ | ⟨go, Nx, hNx, step⟩
    · have td := T.done (X.blk s3 H3 scope ce fp) rfl rfl rfl hc i [] s5 _ H5 (fun _ _ => False) I5 (stat I5 n5) st5 stop
      refine thnF td fun r s6 ⟨hr, I6⟩ => ?_
      subst hr
      -- back in the def's context
      have I7 : Inv X pins σ H5 s6 := I3.call' (ch := fp) I6.os I6.base I6.hok I6.bare fun b hb => ⟨(f3 b hb).1.2.2.2.1, (f3 b hb).1.2.1, (f3 b hb).1.2.2.2.2.1, (f3 b hb).1.2.2.2.2.2⟩
      have nC : H5 s3.heap.objs.size = none := by
        have z : H5 ce.locals = none := I6.free
        rw [cL] at z
        exact z
      obtain ⟨m, hn, _⟩ := I6.loc
      have hn : s6.heap.Ns ce.locals m := hn
      rw [cL] at hn
      exact hRR D s3.heap.objs.size s6 m H5 I7 qq hn (I3.fpOk (Nat.le_refl _) nC)
    · have ti := T.item (X.blk s3 H3 scope ce fp) rfl rfl rfl hc i [] s5 _ H5 (fun _ _ => False) I5 (stat I5 n5) st5 go
      refine thnF ti fun r s6 ⟨u, hr, h6⟩ => ?_
      subst hr
      refine thnF h6 fun _ s7 ⟨x, H7, I7, r7, y7, st7, n7⟩ => ?_
      have I7' := I7.pinned (stat I7 n7) (T.obj _ _ st7)
      refine thnF (pg.run _ s7 _ H7 x u _ I7' r7 (step x H7 y7)) fun _ s8 ⟨σ8, H8, I8, hw8, q8⟩ => ?_
      refine thnF (pt.run _ s8 σ8 H8 _ I8 q8) fun b s9 ⟨H9, I9, q9⟩ => ?_
      -- the turn's end
      have fin : ∀ {s' : Shared} {H' : Hp}, Inv (X.blk s3 H3 scope ce fp) ([] ++ pinsAt fp s7.heap) σ8 H' s' → Nx H' → ∃ m, m < n ∧ ∃ i H', Inv (X.blk s3 H3 scope ce fp) [] (wipe σ (own.map (·.2))) H' s' ∧ tn i s'.heap ∧ (∀ b ∈ fp, H' b = none) ∧ W i m H' := fun {s' H'} I' nx => by
        obtain ⟨m', hm, w'⟩ := hNx H' nx
        have pin' : ∀ b ∈ fp, ∀ o, s7.heap.get? b = some o → s'.heap.get? b = some o ∧ H' b = none := fun b hb o e =>
          let z := I'.pin (b, o) (List.mem_append_right _ (List.mem_append_right _ (mem_pinsAt hb e)))
          ⟨z.1, z.2.1⟩
        have hl : (wipe σ (own.map (·.2))).length = σ8.length := by rw [← hw8, wipe_length]
        refine ⟨m', hm, i + 1, H', (I'.unpinned (pins := [])).weak hl (fun j v e => ?_), T.keep _ _ _ st7 fun b hb o e => (pin' b hb o e).1, fun b hb => ?_, w'⟩
        · rw [← hw8] at e
          exact (wipe_some e).1
        · obtain ⟨o, e, _⟩ := T.obj _ _ st7 b hb
          exact (pin' b hb o e).2
      cases b with
      | false =>
        simp only [Bool.false_eq_true, if_false] at q9 ⊢
        exact fin I9 q9
      | true =>
        simp only [if_true] at q9 ⊢
        refine thnF (pk.run _ s9 σ8 H9 _ I9 q9) fun z s10 ⟨yk, H10, I10, r10, q10⟩ => ?_
        refine thnF (pe.run _ s10 σ8 H10 _ I10 q10) fun z2 s11 ⟨yv, H11, I11, r11, kvs, k, c, ek, hD11, ko11, hk11, hz11, nx⟩ => ?_
        subst ek
        obtain rfl : z = Value.ref c := r10
        exact dn_dictSet (X := X.blk s3 H3 scope ce fp) hu I11 hD11 ko11 hk11 hz11 r11 fun s12 I12 => fin I12 nx
  exact codeAny_compStart_dict loop (T.self X.A 0 _ _ _ st4 loop)
/-- as a value -/
theorem pe_nc {kx vx tg iter : Expr} {ifs : List Expr} {scope : Scope} {own : List (Str × Nat)} {pos : Pos} {wi : TI} {g : TG} {tt : TT} {tk tv : TE} (hu : X.A.units < cLine) (hc : X.calm = true) (hN : X.N.Nodup) (hi : PI X tg iter wi) (ok : BlkOk X.N X.env.scope scope own)
    (hg : ∀ (s : Shared) (H : Hp) (C : Addr) (cl : List (Str × Addr)) (fp : List Addr), PG (X.blk s H scope (compEnvC scope cl C X.env) fp) tg g) (ht : ∀ (s : Shared) (H : Hp) (C : Addr) (cl : List (Str × Addr)) (fp : List Addr), PTs (X.blk s H scope (compEnvC scope cl C X.env) fp) ifs tt)
    (hk : ∀ (s : Shared) (H : Hp) (C : Addr) (cl : List (Str × Addr)) (fp : List Addr), PE (X.blk s H scope (compEnvC scope cl C X.env) fp) kx tk)
    (he : ∀ (s : Shared) (H : Hp) (C : Addr) (cl : List (Str × Addr)) (fp : List Addr), PE (X.blk s H scope (compEnvC scope cl C X.env) fp) vx tv) (hs : ∀ x, foldedSetIterable iter X.env x = pure x := by intro _; rfl) :
    PE X (.DictComp kx vx [⟨tg, iter, ifs, 0⟩] scope pos) (tNc X.prog X.w X.K wi g tt tk tv (own.map (·.2))) := by
  refine ⟨fun pins s σ H Q I h => ?_⟩
  rw [arm_eval_DictComp]
  refine nc_core (hu := hu) hc hN I hi ok hg ht hk he hs h fun D C s' m H' I' q hn f => ⟨m, hn, fun h'' sb => ?_⟩
  obtain ⟨f0, f1, f2, f3, f4, f5⟩ := f
  exact ⟨.ref D, H', I'.turned (t' := s'.toks) (fun b o hb e => (sb.2 b hb).trans e) f0 f1 f3 f4 f5, rfl, q⟩
end
/-- over a list that stays -/
theorem nc_list {P : Program} {w : World} {K : PySem.W.Frag} {a : Addr} {xs : List V} {g : TG} {tt : TT} {tk tv : TE} {vs : List Nat} {σ : L2.St} {H1 : Hp} {D : Addr} {Qd : Hp → Prop} (Pv : Nat → Hp → Prop) (h0 : Pv 0 (upd H1 D (DN P w D []))) (hl : ∀ i H, i ≤ xs.length → Pv i H → SqL K H a xs)
    (hs : ∀ i x H, xs[i]? = some x → Pv i H → g x (wipe σ vs) H fun σ2 H2 => wipe σ2 vs = wipe σ vs ∧ tt σ2 H2 fun b H3 =>
      if b = true then tk σ2 H3 fun y H4 => tv σ2 H4 fun z H5 => ∃ kvs k c, y = V.ref c ∧ H5 D = some (DN P w D kvs) ∧ KOk K H5 kvs ∧ SqT K H5 c (k.map kV) ∧ kvs.length < sizeLine ∧ Pv (i + 1) (upd H5 D (DN P w D (putD kvs k c z))) else Pv (i + 1) H3) (hd : ∀ H, Pv xs.length H → Qd H) :
    ∃ W : Nat → Nat → Hp → Prop, (∃ m, W 0 m (upd H1 D (DN P w D []))) ∧ ∀ i m H, W i m H →
      ((Itl K a).stop i H ∧ Qd H) ∨ ((Itl K a).go i H ∧ ∃ Nx : Hp → Prop, (∀ H', Nx H' → ∃ m', m' < m ∧ W (i + 1) m' H') ∧ ∀ x H', (Itl K a).yld i H x H' → g x (wipe σ vs) H' fun σ2 H2 => wipe σ2 vs = wipe σ vs ∧ tt σ2 H2 fun b H3 =>
        if b = true then tk σ2 H3 fun y H4 => tv σ2 H4 fun z H5 => ∃ kvs k c, y = V.ref c ∧ H5 D = some (DN P w D kvs) ∧ KOk K H5 kvs ∧ SqT K H5 c (k.map kV) ∧ kvs.length < sizeLine ∧ Nx (upd H5 D (DN P w D (putD kvs k c z))) else Nx H3) := by
  refine ⟨fun i m H => m = xs.length - i ∧ i ≤ xs.length ∧ Pv i H, ⟨xs.length, by simp, Nat.zero_le _, h0⟩, ?_⟩
  rintro i m H ⟨rfl, hi, p⟩
  have q := hl i H hi p
  by_cases hlt : i < xs.length
  · refine .inr ⟨⟨xs, xs[i], q, by simp [hlt]⟩, Pv (i + 1), fun H' p' => ⟨xs.length - (i + 1), by omega, rfl, hlt, p'⟩, fun x H' y => ?_⟩
    obtain ⟨e, y⟩ := y
    subst e
    exact hs i x _ (y xs q) p
  · have e : i = xs.length := by omega
    subst e
    exact .inl ⟨⟨xs, q, Nat.le_refl _⟩, hd H p⟩
end HX
end
section
set_option Elab.async false
set_option linter.all false
set_option maxRecDepth 100000
set_option maxHeartbeats 4000000
/-! Rules beside the layer: a lambda with one parameter, handed to a def as its second argument. -/
namespace HX
open PySem PySem.Spec PyProof.Rows L2 LamX
/-- one parameter, no other name of its own: captured ones and globals -/
structure LamP (N : List Str) (sc scope : Scope) (x : Str) : Prop where
  kind : scope.kind = .function
  co : scope.isCoroutine = false
  gen : scope.isGenerator = false
  nocell : ∀ y ∈ scope.names, y.2 ≠ .cell
  par : scope.names.lookup x = some .local
  only : ∀ y, scope.names.lookup y = some .local → y = x
  new : x ∉ N
  free : ∀ y ∈ scope.names, y.2 = .free → sc.names.lookup y.1 = some .cell ∨ sc.names.lookup y.1 = some .free
def lamPB (N : List Str) (sc scope : Scope) (x : Str) : Bool :=
  decide (scope.kind = .function) && !scope.isCoroutine && !scope.isGenerator && decide (scope.names.lookup x = some .local) && !decide (x ∈ N) &&
    scope.names.all fun y => !decide (y.2 = .cell) && (!decide (y.2 = .local) || decide (y.1 = x)) && (!decide (y.2 = .free) || decide (sc.names.lookup y.1 = some .cell) || decide (sc.names.lookup y.1 = some .free))
theorem lamP_by {N : List Str} {sc scope : Scope} {x : Str} (h : lamPB N sc scope x = true) : LamP N sc scope x := by
  unfold lamPB at h
  simp only [Bool.and_eq_true, Bool.or_eq_true, Bool.not_eq_true', decide_eq_true_eq, decide_eq_false_iff_not, List.all_eq_true] at h
  obtain ⟨⟨⟨⟨⟨h1, h2⟩, h3⟩, h5⟩, h6⟩, h4⟩ := h
  refine ⟨h1, h2, h3, fun y hy => (h4 y hy).1.1, h5, fun y hl => ?_, h6, fun y hy e => ?_⟩
  · rcases (h4 _ (PySem.mem_of_lookup hl)).1.2 with z | z
    · exact absurd rfl z
    · exact z
  · rcases (h4 y hy).2 with (z | z) | z
    · exact absurd e z
    · exact .inl z
    · exact .inr z
theorem LamP.has {X : Cx} {N : List Str} {scope : Scope} {x : Str} (L : LamP N X.env.scope scope x) (ok : X.Ok) : ∀ y ∈ scope.names, y.2 = .free → ∃ c, X.env.cells.lookup y.1 = some c := fun y hy e => by
  rcases L.free y hy e with k | k
  · exact ok.has _ (.inl k)
  · exact ok.has _ (.inr k)
/-- the context of the lambda's body -/
def lamC1 (X : Cx) (A : Around) (outer : List Env) (s : Shared) (H : Hp) (scope : Scope) (f c' : Addr) (x : Str) : Cx where
  prog := X.prog
  w := X.w
  K := X.K
  mg := X.mg
  base := X.base
  A := A.deeper (lamEnv X scope s.heap.objs.size f c')
  N := X.N ++ [x]
  s_0 := s
  H_0 := H
  env := lamEnv X scope s.heap.objs.size f c'
  outer := outer
  stack := lamEnv X scope s.heap.objs.size f c' :: outer
  ex := []
  fn := fun _ => false
  calm := true
  pn := []
  xe := fun e s' => wpAny (model X.prog X.w) (A.deeper (lamEnv X scope s.heap.objs.size f c')) (leaving (lamEnv X scope s.heap.objs.size f c') e) (fun _ s'' => C8.CX0 outer H s C8.E0 e s'') (fun e' s'' => C8.CX0 outer H s C8.E0 e' s'') s'
section
variable {X : Cx} {pins : List (Addr × Obj)} {σ : L2.St} {H HZ : Hp} {s s1 : Shared}
theorem lam_start3 {A : Around} {outer : List Env} {scope : Scope} {f c' : Addr} {h₁ : Heap} {tk : Nat} {x : Str} {v : V} {u : Value} (I : Inv X pins σ H s) (L : LamP X.N X.env.scope scope x) (e0 : Env0 X.prog X.w X.K X.mg X.base A outer s1 HZ) (hd : A.handled = none) (rv : RelV v u)
    (un : Un (frs X.stack) [] H HZ s.heap s1.heap) (hns : h₁.Ns s1.heap.objs.size fun y => ([(x, u)] : List (Str × Value)).reverse.lookup y) (kp : ∀ b o, s1.heap.get? b = some o → h₁.get? b = some o) :
    Inv (lamC1 X A outer s1 HZ scope f c' x) [] (σ ++ [some v]) HZ { s1 with heap := h₁, toks := tk } := by
  have hfree := L.has I.ok
  have cm : ∀ {y c}, (cloFrom X.env.cells scope.names []).lookup y = some c → X.env.cells.lookup y = some c := fun {y c} e => by
    rcases cloFrom_mem (PySem.mem_of_lookup e) with hm | ⟨h1, h2⟩
    · cases hm
    · obtain ⟨c1, hc⟩ := hfree _ h1 rfl
      have hc : X.env.cells.lookup y = some c1 := hc
      have e2 : c = c1 := by
        rw [h2, hc] <;> rfl
      rw [e2]
      exact hc
  have look : ∀ {y}, scope.names.lookup y = some .free → ∃ c, (cloFrom X.env.cells scope.names []).lookup y = some c := fun {y} hl => by
    have hy : (y, NameKind.free) ∈ scope.names := PySem.mem_of_lookup hl
    exact mem_lookup (cloFrom_has (cells := X.env.cells) (acc := []) hy)
  have cellK : ∀ {c : Addr} {v : Option Value}, H c = none → s.heap.IsCell c v → h₁.IsCell c v := fun {c v} n ⟨o, ho, hd⟩ => by
    obtain ⟨sl, q⟩ := un.any ho n (by simp)
    exact ⟨_, kp _ _ q, hd⟩
  have noA : ∀ b : Addr, b ∉ (lamC1 X A outer s1 HZ scope f c' x).ex := fun b z => absurd (show b ∈ ([] : List Addr) from z) (by simp)
  refine ⟨⟨e0.mod, L.kind, rfl, rfl, Nat.le_refl _, fun y z c e1 e2 => I.ok.inj y z c (cm e1) (cm e2), fun y hy => ?_, fun y c z _ => ?_, fun _ => hd, Around.frames_deeper e0.frames, .inr ⟨rfl, rfl⟩, fun b z => absurd z (noA b), e0.bs, e0.bsz, fun b _ _ => noA b,
      fun b z => absurd z (noA b), e0.funs, e0.frf⟩,
    rfl, e0.bare, Un.kept kp, ⟨_, hns, fun i y v' e1 e2 e3 => ?_⟩, fun y c e => ?_, e0.hok.fresh (Nat.le_refl _), fun y c e => ?_, fun q hq => absurd (show q ∈ ([] : List (Addr × Obj)) ++ [] from hq) (by simp), e0.hok.kept kp, ?_⟩
  · have hy : scope.names.lookup y = some .cell ∨ scope.names.lookup y = some .free := hy
    rcases hy with hy | hy
    · exact absurd rfl (L.nocell _ (PySem.mem_of_lookup hy))
    · exact look hy
  · have z : false = true := z
    cases z
  · replace e1 : (X.N ++ [x])[i]? = some y := e1
    have e3 : Vis scope y := e3
    have hlen : σ.length = X.N.length := I.len
    by_cases hi : i < X.N.length
    · rw [List.getElem?_append_left hi] at e1
      rw [List.getElem?_append_left (by rw [hlen]; exact hi)] at e2
      rcases e3 with k | k | k
      · have ey := L.only y k
        have hm : y ∈ X.N := List.mem_of_getElem? e1
        rw [ey] at hm
        exact absurd hm L.new
      · exact absurd rfl (L.nocell _ (PySem.mem_of_lookup k))
      · obtain ⟨m, hn, hl⟩ := I.loc
        have hvis : Vis X.env.scope y := (L.free _ (PySem.mem_of_lookup k) rfl).elim (fun k => .inr (.inl k)) (fun k => .inr (.inr k))
        obtain ⟨w', r, q⟩ := hl i y v' e1 e2 hvis
        obtain ⟨c2, h2⟩ := look k
        refine ⟨w', r, .inr ⟨.inr k, c2, h2, ?_⟩⟩
        have c1 := cm h2
        rcases q with ⟨k', _⟩ | ⟨_, c3, e', z⟩
        · have k' : X.env.scope.names.lookup y = some .local := k'
          rcases L.free _ (PySem.mem_of_lookup k) rfl with k2 | k2 <;> rw [show X.env.scope.names.lookup y = _ from k2] at k' <;> cases k'
        · rw [c1] at e'
          cases e'
          exact cellK (I.freeC y _ c1) z
    · have hi2 : i = X.N.length := by
        have := (List.getElem?_eq_some_iff.mp e1).1
        rw [List.length_append, List.length_singleton] at this
        omega
      subst hi2
      rw [List.getElem?_append_right (Nat.le_refl _), Nat.sub_self] at e1
      rw [List.getElem?_append_right (by omega), hlen, Nat.sub_self] at e2
      cases e1
      cases e2
      refine ⟨u, rv, .inl ⟨L.par, ?_⟩⟩
      show ([(x, u)] : List (Str × Value)).reverse.lookup x = some u
      simp [List.lookup]
  · obtain ⟨w', z⟩ := I.cell y c (cm e)
    exact ⟨w', cellK (I.freeC y c (cm e)) z⟩
  · obtain ⟨v, o, ho, hd⟩ := I.cell y c (cm e)
    exact un.free c o ho (I.freeC y c (cm e)) (by simp)
  · show (σ ++ [some v]).length = (X.N ++ [x]).length
    rw [List.length_append, List.length_append, I.len] <;> rfl
/-- fits(e), in the def that got the lambda -/
theorem pe_act1 {Ng : List Str} {qg : Str} {sg : Scope} {g f c' : Addr} {cdg pm ctv : Value} {params : Arguments} {body : Expr} {scope : Scope} {k i : Nat} {a x : Str} {te tb : TE} {e : Expr} {p1 p2 : Pos}
    (I : Inv X pins σ H s) (L : LamP X.N X.env.scope scope x) (hf : s.heap.get? f = some (PySem.W.kla_obj "<lambda>" (X.env.qual ++ "<lambda>") params body scope (cloFrom X.env.cells scope.names []) pm c' ctv)) (hfn : H f = none) (hfr : f ∉ frs X.stack)
    (hbind : ∀ u, bindArgs (PySem.W.kla_fn "<lambda>" (X.env.qual ++ "<lambda>") params body scope (cloFrom X.env.cells scope.names []) pm (.ref c') ctv) ⟨[u], []⟩ = pure [(x, u)])
    (hr : Room (k + 1) (X.A.deeper (envOfC qg sg s.heap.objs.size g cdg)))
    (hbody : ∀ (A : Around) (outer : List Env) (s : Shared) (H : Hp), Room k (A.deeper (lamEnv X scope s.heap.objs.size f c')) → PE (lamC1 X A outer s H scope f c' x) body tb)
    (hN : Ng[i]? = some a) (hv : Vis sg a) (he : PE (cxOf C8.CX0 X.prog X.w X.K X.mg X.base Ng qg sg g cdg X.A X.stack s H C8.E0).nox e te)
    (hst : starEach [e] (envOfC qg sg s.heap.objs.size g cdg) = (false, eval e (envOfC qg sg s.heap.objs.size g cdg)) :: starEach [] (envOfC qg sg s.heap.objs.size g cdg))
    (hd : (a == ("__debug__" : Str)) = false := by decide) (hcd : (a == ("__classdict__" : Str)) = false := by decide) :
    PE (cxOf C8.CX0 X.prog X.w X.K X.mg X.base Ng qg sg g cdg X.A X.stack s H C8.E0).nox (.Call (.Name a p1) [e] [] p2)
      (fun σZ HZ Q => σZ[i]? = some (some (.ref f)) ∧ te σZ HZ fun v H1 => H1 c' = some (CodeO c' (X.env.qual ++ "<lambda>")) ∧ tb (σ ++ [some v]) H1 Q) := by
  refine ⟨fun pinsZ sZ σZ HZ Q IZ h => ?_⟩
  obtain ⟨hs, ht⟩ := h
  refine wpAny_Call_Name_kw (thn ((pe_var (pos := p1) (i := i) hN hv hd hcd).run pinsZ sZ σZ HZ (fun v H1 => v = .ref f ∧ H1 = HZ) IZ ⟨.ref f, hs, rfl, rfl⟩) fun u s1 ⟨v, H1, I1, r1, q1⟩ => ?_)
  obtain ⟨ev, eH⟩ := q1
  subst ev
  rw [eH] at I1
  obtain rfl : u = Value.ref f := r1
  have of_ : ∀ {σ' : L2.St} {H' : Hp} {s' : Shared}, Inv (cxOf C8.CX0 X.prog X.w X.K X.mg X.base Ng qg sg g cdg X.A X.stack s H C8.E0).nox pinsZ σ' H' s' →
      s'.heap.get? f = some (PySem.W.kla_obj "<lambda>" (X.env.qual ++ "<lambda>") params body scope (cloFrom X.env.cells scope.names []) pm c' ctv) := fun J => J.base.keep f _ hf hfn hfr (fun z => nomatch (show f ∈ ([] : List Addr) from z))
  refine PySem.W.callWith_F (first := []) ⟨_, _, _, _, of_ I1⟩ (thn ((pa_cons he pa_nil hst).run p2 pinsZ s1 σZ HZ (fun vs H1 => ∃ v, vs = [v] ∧ H1 c' = some (CodeO c' (X.env.qual ++ "<lambda>")) ∧ tb (σ ++ [some v]) H1 Q) I1 ?_) fun us s2 ⟨vs, H2, I2, r, v, ev, hc, hq⟩ => ⟨⟨_, _, _, _, of_ I2⟩, ?_⟩) hst rfl
  · have mono : (te σZ HZ fun v H1 => ∃ v', [v] = [v'] ∧ H1 c' = some (CodeO c' (X.env.qual ++ "<lambda>")) ∧ tb (σ ++ [some v']) H1 Q) := by
      have e0 : (fun (v : V) (H1 : Hp) => ∃ v', [v] = [v'] ∧ H1 c' = some (CodeO c' (X.env.qual ++ "<lambda>")) ∧ tb (σ ++ [some v']) H1 Q) = fun v H1 => H1 c' = some (CodeO c' (X.env.qual ++ "<lambda>")) ∧ tb (σ ++ [some v]) H1 Q := by
        funext v H1
        apply propext
        constructor
        · rintro ⟨v', e, h⟩
          cases e
          exact h
        · intro h
          exact ⟨v, rfl, h⟩
      rw [e0]
      exact ht
    exact mono
  subst ev
  obtain ⟨u, rfl, rv⟩ := r.one
  have un : Un (frs X.stack) [] H H2 s.heap s2.heap := I2.base
  obtain ⟨⟨oc, vs, t, hoc, hdc, hvc⟩, _, _⟩ := I2.hok c' _ hc
  show wpAny _ _ (call (.ref f) [u]) _ _ _
  have rc : codeAny (model X.prog X.w) (X.A.deeper (envOfC qg sg s.heap.objs.size g cdg)) (.call (.ref f) ⟨[u], []⟩) (CR C8.CX0 (envOfC qg sg s.heap.objs.size g cdg :: X.stack) X.prog X.w H2 s2 Q C8.E0) s2 := by
    refine PySem.W.kla_callFunE hr.depth (of_ I2) rfl L.co L.gen rfl ⟨c', oc, vs, t, rfl, hoc, hdc, hvc⟩ ?_
    rw [hbind]
    refine wpAny_pure (wpAny_newFunctionEnv (fun y hy => L.nocell y hy) (fun y hy => by
      rw [List.mem_singleton] at hy
      subst hy
      exact L.par) (fun h₁ hns hsb => ⟨I2.nolimit.fresh _ hsb, ?_⟩) L.kind)
    show codeAny _ _ (.expr body (lamEnv X scope s2.heap.objs.size f c')) _ _
    have kp : ∀ b o, s2.heap.get? b = some o → h₁.get? b = some o := fun b o e => hsb.extBut b o (Nat.ne_of_lt (Heap.lt_size e)) (Heap.get?_push_of_some _ e)
    have J : Inv (lamC1 X (X.A.deeper (envOfC qg sg s.heap.objs.size g cdg)) (envOfC qg sg s.heap.objs.size g cdg :: X.stack) s2 H2 scope f c' x) [] (σ ++ [some v]) H2 { s2 with heap := h₁, toks := s2.toks + ([(x, u)] : List (Str × Value)).length } :=
      lam_start3 I L I2.env0 hr.hd rv un hns kp
    refine PySem.W.kla_codeExpr (wpAny_mono ((hbody _ _ s2 H2 (hr.deeper _)).run [] _ _ H2 Q J hq) (fun v s' hq => ?_) fun e s' hq => hq)
    obtain ⟨w', H', J', rv, q⟩ := hq
    exact ⟨w', H', J'.os, J'.bare, J'.base, J'.hok, rv, q⟩
  refine wpAny_call (codeAny_mono rc fun r s' hq => ?_)
  cases r with
  | error e => exact (show False from hq).elim
  | ok fl =>
    cases fl with
    | ret u => exact I2.after hq
    | next => exact False.elim hq
    | brk => exact False.elim hq
    | cont => exact False.elim hq
end
/-- the def g that calls what it got (its second argument, by the name a): TT: what it makes of the lambda's reading -/
def GivesP (X : Cx) (Ng : List Str) (g : Addr) (qg : Str) (sg : Scope) (cdg : Value) (bg : List Stmt) (a : Str) (q : Str) (TT : (V → Hp → VK → Prop) → V → Hp → VK → Prop) : Prop :=
  ∀ (f c' : Addr) (s : Shared) (H : Hp) (Q : VK) (v0 : V) (tl : V → Hp → VK → Prop),
    (∀ (e : Expr) (te : TE) (p1 p2 : Pos), PE (cxOf C8.CX0 X.prog X.w X.K X.mg X.base Ng qg sg g cdg X.A X.stack s H C8.E0).nox e te →
      (starEach [e] (envOfC qg sg s.heap.objs.size g cdg) = (false, eval e (envOfC qg sg s.heap.objs.size g cdg)) :: starEach [] (envOfC qg sg s.heap.objs.size g cdg)) →
      PE (cxOf C8.CX0 X.prog X.w X.K X.mg X.base Ng qg sg g cdg X.A X.stack s H C8.E0).nox (.Call (.Name a p1) [e] [] p2) (fun σZ HZ Q => σZ[1]? = some (some (.ref f)) ∧ te σZ HZ fun v H1 => H1 c' = some (CodeO c' q) ∧ tl v H1 Q)) →
    H c' = some (CodeO c' q) → TT tl v0 H Q →
    ∃ t, PSs (cxOf C8.CX0 X.prog X.w X.K X.mg X.base Ng qg sg g cdg X.A X.stack s H C8.E0).nox bg t ∧ t { nx := fun _ H' => Q .non H', rt := Q } (L2.start Ng [v0, .ref f]) H
def tLamP (T : List (Addr × Str)) (TT : (V → Hp → VK → Prop) → V → Hp → VK → Prop) (t0 t : TE) : TE := fun σ H Q => t0 σ H fun v0 H0 => Tabs T H0 ∧ ∀ H1, ExtN H0 H1 → Tabs T H1 → TT (fun v H' Q' => t (σ ++ [some v]) H' Q') v0 H1 Q
section
variable {X : Cx}
/-- g(e0, lambda x: body) -/
theorem pe_lamP {T : List (Addr × Str)} {TT : (V → Hp → VK → Prop) → V → Hp → VK → Prop} {y x a b : Str} {g c P : Addr} {k : Nat} {stg : Stmt} {fdg : FuncData} {Ng : List Str}
    {params : Arguments} {body e0 : Expr} {scope : Scope} {t0 t : TE} {p lpos pos : Pos} (hg : Gl X y) (D : C8.Def X.K X.mg y stg g fdg) (hb : L2.Binds X.K fdg [b, a] []) (Sg : FnScope Ng [b, a] (C8.fnScope stg)) (hNg : Ng[1]? = some a) (hva : Vis (C8.fnScope stg) a)
    (hG : ∀ cdg, GivesP X Ng g y (C8.fnScope stg) cdg (C8.fnBody stg) a (X.env.qual ++ "<lambda>") TT) (h0 : PE X e0 t0) (hst0 : starEach (e0 :: [.Lambda params body scope lpos]) X.env = (false, eval e0 X.env) :: starEach [.Lambda params body scope lpos] X.env := by rfl)
    (TB : TabB X.base X.mg c P) (hcode : X.env.code = .ref c) (hmT : (P, X.env.qual ++ "<lambda>") ∈ T) (hu : ∀ p ∈ T, p.1 = P → p.2 = X.env.qual ++ "<lambda>") (hr : Room (k + 2) X.A) (L : LamP X.N X.env.scope scope x) (hdef : defaultsOf params X.env = ([], []))
    (hbind : ∀ (q : Str) (cl : List (Str × Addr)) (pm cv ctv u : Value), bindArgs (PySem.W.kla_fn "<lambda>" q params body scope cl pm cv ctv) ⟨[u], []⟩ = pure [(x, u)])
    (hbody : ∀ (A : Around) (outer : List Env) (s : Shared) (H : Hp) (f c' : Addr), Room k (A.deeper (lamEnv X scope s.heap.objs.size f c')) → PE (lamC1 X A outer s H scope f c' x) body t)
    (hdb : (y == ("__debug__" : Str)) = false := by decide) (hd : (a == ("__debug__" : Str)) = false := by decide) (hcd : (a == ("__classdict__" : Str)) = false := by decide) :
    PE X (.Call (.Name y p) [e0, .Lambda params body scope lpos] [] pos) (tLamP T TT t0 t) := by
  obtain ⟨oc, od, dV, kV, doc, pm, an, cdv, ct, osl, rfl, lk, hcg⟩ := D.fn.ex
  refine ⟨fun pins s σ H Q I h => ?_⟩
  refine wpAny_Call_Name_kw (ld_glob I hg D.mgf ?_ hdb)
  refine PySem.W.callWith_K (h₀ := X.base) I.ok.mod.kin D.kp ?_ hst0 (by rfl)
  rw [hst0]
  show wpAny _ _ (spliced ((false, eval e0 X.env) :: backTo pos (starEach [.Lambda params body scope lpos] X.env))) _ _ s
  refine Calls.spliced_cons (thn (h0.run pins s σ H _ I h) fun u0 s0 ⟨v0, H0, I0, r0, hT, hh⟩ => ?_)
  show wpAny _ _ (spliced ((false, eval (.Lambda params body scope lpos) X.env) :: backTo pos (starEach [] X.env))) _ _ s0
  refine Calls.spliced_cons (lam_make2 I0 TB hcode hmT hu hT hdef (L.has I0.ok) fun f c' pm' ctv H1 s' I1 eN T1 hf hfn hfr hco => ?_)
  refine Calls.spliced_nil ⟨I1.kIn, ?_⟩
  have rc : codeAny (model X.prog X.w) X.A (.call (.ref g) ⟨[u0, .ref f], []⟩) (CR C8.CX0 X.stack X.prog X.w H1 s' Q C8.E0) s' := by
    refine run_ofS (N := Ng) (ps := [b, a]) (us := [u0, .ref f]) (vs := [v0, .ref f]) lk hcg Sg hr I1.env0 (hb s' [u0, .ref f] I1.kIn rfl) (.cons r0 (.cons rfl .nil)) rfl fun hr' => ?_
    obtain ⟨t', ht', hq'⟩ := hG cdv f c' s' H1 Q v0 (fun v H' Q' => t (σ ++ [some v]) H' Q') (fun e te p1 p2 he hst => pe_act1 (i := 1) I1 L hf hfn hfr (hbind _ _ _ _ _) hr' (fun A outer s H hr2 => hbody A outer s H f c' hr2) hNg hva he hst hd hcd) hco (hh H1 eN T1)
    exact ⟨t', ht'.nox, hq'⟩
  refine wpAny_call (codeAny_mono rc fun r s2 hq => ?_)
  cases r with
  | error e => exact (show False from hq).elim
  | ok fl =>
    cases fl with
    | ret u => exact I1.after hq
    | next => exact False.elim hq
    | brk => exact False.elim hq
    | cont => exact False.elim hq
end
end HX
end
section
set_option Elab.async false
set_option linter.all false
set_option maxRecDepth 100000
set_option maxHeartbeats 4000000
/-! What stays in the heap; a watch as it stands; its places and words read. -/
namespace HX
open PySem PySem.Spec PyProof.Rows L2 HW
/-- what is never changed -/
def Solid : HO → Prop
  | .tup _ => True
  | .frz _ _ => True
  | .ext _ => True
  | .own _ => True
  | _ => False
/-- all that is tracked stays, but what may be changed at these addresses -/
def Gr (ms : List Addr) (H H' : Hp) : Prop := ∀ b o, H b = some o → (b ∈ ms → Solid o) → H' b = some o
theorem Gr.refl (ms : List Addr) (H : Hp) : Gr ms H H := fun _ _ h _ => h
theorem Gr.trans {ms : List Addr} {H H1 H2 : Hp} (a : Gr ms H H1) (b : Gr ms H1 H2) : Gr ms H H2 := fun c o h n => b c o (a c o h n) n
theorem Gr.more {ms ns : List Addr} {H H1 : Hp} (a : Gr ms H H1) (h : ∀ x ∈ ms, x ∈ ns) : Gr ns H H1 := fun c o e n => a c o e fun z => n (h c z)
theorem Gr.new {ms : List Addr} {H : Hp} {p : Addr} {o : HO} (h : H p = none) : Gr ms H (upd H p o) := fun b u e _ => by
  rw [upd_ne (ne_of_none e h)]
  exact e
theorem Gr.put {ms : List Addr} {H : Hp} {p : Addr} {o u : HO} (hp : p ∈ ms) (h : H p = some u) (hu : ¬ Solid u) : Gr ms H (upd H p o) := fun b v e n => by
  by_cases hb : b = p
  · subst hb
    rw [h] at e
    cases e
    exact absurd (n hp) hu
  · rw [upd_ne hb]
    exact e
/-- an object that the caller didn't have is changed -/
theorem Gr.put0 {ms : List Addr} {H0 H : Hp} {p : Addr} {o : HO} (g : Gr ms H0 H) (h : H0 p = none) : Gr ms H0 (upd H p o) := fun b v e n => by
  rw [upd_ne (ne_of_none e h)]
  exact g b v e n
theorem Gr.tup {ms : List Addr} {H H' : Hp} {a : Addr} {xs : List V} (g : Gr ms H H') (h : H a = some (.tup xs)) : H' a = some (.tup xs) := g a _ h fun _ => True.intro
theorem Gr.all {H H' : Hp} (g : Gr [] H H') : ∀ b o, H b = some o → H' b = some o := fun b o e => g b o e fun z => nomatch z
theorem Gr.nil {H H' : Hp} {ms : List Addr} (g : Gr [] H H') : Gr ms H H' := g.more fun _ h => nomatch h
theorem Gr.same {H H' : Hp} (g : Gr [] H H') : Same H H' := fun b o e => g.all b o e
theorem Gr.sqT {K : PySem.W.Frag} {ms : List Addr} {H H' : Hp} {a : Addr} {xs : List V} (g : Gr ms H H') (h : SqT K H a xs) : SqT K H' a xs := by
  rcases h with (h | ⟨o, h⟩) | h
  · exact .inl (.inl (g.tup h))
  · exact .inl (.inr ⟨o, g a _ h fun _ => True.intro⟩)
  · exact .inr h
theorem Gr.sqL {K : PySem.W.Frag} {H H' : Hp} {a : Addr} {xs : List V} (g : Gr [] H H') (h : SqL K H a xs) : SqL K H' a xs := by
  rcases h with (h | ⟨o, h⟩) | h
  · exact .inl (.inl (g.all _ _ h))
  · exact .inl (.inr ⟨o, g.all _ _ h⟩)
  · exact .inr h
/-- natural numbers as values -/
def nvs (l : List Nat) : List V := l.map fun g : Nat => V.int (g : Int)
theorem nvs_map (l : List Nat) : nvs l = (l.map fun g : Nat => (g : Int)).map V.int := by
  unfold nvs
  rw [List.map_map] <;> rfl
theorem nvs_get {l : List Nat} {i : Nat} {x : V} (h : (nvs l)[i]? = some x) : ∃ g, l[i]? = some g ∧ x = .int (g : Int) := by
  unfold nvs at h
  rw [List.getElem?_map] at h
  obtain ⟨g, h1, h2⟩ := Option.map_eq_some_iff.mp h
  exact ⟨g, h1, h2.symm⟩
theorem nvs_length (l : List Nat) : (nvs l).length = l.length := by simp [nvs]
theorem nvs_at {l : List Nat} {i : Nat} {g : Nat} (h : l[i]? = some g) : (nvs l)[i]? = some (.int (g : Int)) := by
  unfold nvs
  rw [List.getElem?_map, h] <;> rfl
abbrev wfs (tm tw : Addr) : List (Str × V) := [("own_moves", .ref tm), ("own_words", .ref tw)]
def RowsAt (H : Hp) (rows : List Addr) (mv : List (List Nat)) : Prop := rows.length = mv.length ∧ ∀ (i : Nat) (r : Addr) (l : List Nat), rows[i]? = some r → mv[i]? = some l → H r = some (.tup (nvs l))
/-- the pair of tuples of a watch's places and words -/
structure DataAt (H : Hp) (tm tw : Addr) (w : Wt) : Prop where
  rows : ∃ rows, H tm = some (.tup (rows.map V.ref)) ∧ RowsAt H rows w.mv
  words : H tw = some (.tup (nvs w.wd))
theorem DataAt.gr {ms : List Addr} {H H' : Hp} {tm tw : Addr} {w : Wt} (d : DataAt H tm tw w) (g : Gr ms H H') : DataAt H' tm tw w := by
  obtain ⟨⟨rows, h1, h2, h3⟩, h4⟩ := d
  exact ⟨⟨rows, g.tup h1, h2, fun i r l e1 e2 => g.tup (h3 i r l e1 e2)⟩, g.tup h4⟩
/-- a watch at p -/
def WatchAt (C : Addr) (H : Hp) (p : Addr) (w : Wt) : Prop := ∃ dx tm tw, H p = some (.ins C dx (wfs tm tw)) ∧ DataAt H tm tw w
theorem WatchAt.gr {C : Addr} {ms : List Addr} {H H' : Hp} {p : Addr} {w : Wt} (d : WatchAt C H p w) (g : Gr ms H H') (hp : p ∉ ms) : WatchAt C H' p w := by
  obtain ⟨dx, tm, tw, h1, h2⟩ := d
  exact ⟨dx, tm, tw, g p _ h1 fun z => absurd z hp, h2.gr g⟩
theorem WatchAt.gr0 {C : Addr} {H H' : Hp} {p : Addr} {w : Wt} (d : WatchAt C H p w) (g : Gr [] H H') : WatchAt C H' p w := d.gr g (by simp)
theorem DataAt.row {H : Hp} {tm tw : Addr} {w : Wt} (d : DataAt H tm tw w) {i : Nat} (hi : i < w.n) : ∃ (rows : List Addr) (r : Addr), H tm = some (.tup (rows.map V.ref)) ∧ rows[i]? = some r ∧ H r = some (.tup (nvs (w.goals i))) := by
  obtain ⟨⟨rows, h1, h2, h3⟩, h4⟩ := d
  have hl : i < rows.length := by
    rw [h2]
    exact hi
  refine ⟨rows, rows[i], h1, List.getElem?_eq_getElem hl, h3 i _ _ (List.getElem?_eq_getElem hl) ?_⟩
  unfold Wt.goals
  rw [List.getD_eq_getElem?_getD, List.getElem?_eq_getElem (show i < w.mv.length from hi)] <;> rfl
theorem word_at {w : Wt} {k : Nat} (h : w.Ok k) {g : Nat} (hg : g < w.n) : (nvs w.wd)[g]? = some (.int (w.word g : Int)) := by
  refine nvs_at ?_
  unfold Wt.word
  rw [List.getD_eq_getElem?_getD, List.getElem?_eq_getElem (show g < w.wd.length by rw [h.wl]; exact hg)] <;> rfl
theorem atI_of {xs : List V} {i : Nat} {v : V} (h : xs[i]? = some v) : atI xs (i : Int) = some v := atI_nat h
/-! ### a weaker reading -/
theorem PE.of {X : Cx} {e : Expr} {t t' : TE} (h : PE X e t) (f : ∀ σ H Q, t' σ H Q → t σ H Q) : PE X e t' := ⟨fun pins s σ H Q I q => h.run pins s σ H Q I (f σ H Q q)⟩
theorem PS.of {X : Cx} {e : Stmt} {t t' : TS} (h : PS X e t) (f : ∀ D σ H, t' D σ H → t D σ H) : PS X e t' := ⟨fun pins s σ H D I q => h.run pins s σ H D I (f D σ H q)⟩
/-- watch.moves[place], watch.words[goal]: the watch in slot 0, the number in slot j -/
def tGoals (C : Addr) (j : Nat) : TE := fun σ H Q => ∃ p w i, σ[0]? = some (some (V.ref p)) ∧ WatchAt C H p w ∧ σ[j]? = some (some (.int ((i : Nat) : Int))) ∧ i < w.n ∧ ∀ r, H r = some (.tup (nvs (w.goals i))) → Q (.ref r) H
def tWord (C : Addr) (j : Nat) : TE := fun σ H Q => ∃ p w k i, σ[0]? = some (some (V.ref p)) ∧ WatchAt C H p w ∧ w.Ok k ∧ σ[j]? = some (some (.int ((i : Nat) : Int))) ∧ i < w.n ∧ Q (.int (w.word i : Int)) H
theorem goals_raw {K : PySem.W.Frag} {C : Addr} {j : Nat} {σ : L2.St} {H : Hp} {Q : VK} (h : tGoals C j σ H Q) : tOp (rIxT K) (tProp C (getSp C "own_moves") [] C8.E0 (tVar 0)) (tVar j) σ H Q := by
  obtain ⟨p, w, i, h0, ⟨dx, tm, tw, hp, d⟩, hj, hi, q⟩ := h
  obtain ⟨rows, r, e1, e2, e3⟩ := d.row hi
  refine ⟨.ref p, h0, p, dx, _, rfl, hp, p, dx, _, .ref tm, rfl, hp, rfl, .int i, hj, tm, _, _, .ref r, rfl, rfl, .of e1, atI_of ?_, q r e3⟩
  rw [List.getElem?_map, e2] <;> rfl
theorem word_raw {K : PySem.W.Frag} {C : Addr} {j : Nat} {σ : L2.St} {H : Hp} {Q : VK} (h : tWord C j σ H Q) : tOp (rIxT K) (tProp C (getSp C "own_words") [] C8.E0 (tVar 0)) (tVar j) σ H Q := by
  obtain ⟨p, w, k, i, h0, ⟨dx, tm, tw, hp, d⟩, ok, hj, hi, q⟩ := h
  have hw : ([("own_moves", V.ref tm), ("own_words", .ref tw)] : List (Str × V)).lookup ("own_words" : Str) = some (V.ref tw) := by
    have : (("own_words" : Str) == ("own_moves" : Str)) = false := by decide +kernel
    simp [List.lookup, this]
  exact ⟨.ref p, h0, p, dx, _, rfl, hp, p, dx, _, .ref tw, rfl, hp, hw, .int i, hj, tw, _, _, _, rfl, rfl, .of d.words, atI_of (word_at ok hi), q⟩
end HX
namespace HX
open PySem PySem.Spec PyProof.Rows L2 HW
end HX
namespace HX
open PySem PySem.Spec PyProof.Rows L2 HW
/-- a list or a tuple -/
def Seq (H : Hp) (a : Addr) (xs : List V) : Prop := H a = some (.lst xs) ∨ H a = some (.tup xs)
theorem Seq.ty {K : PySem.W.Frag} {H : Hp} {a : Addr} {xs : List V} (h : Seq H a xs) : TyX K H (.ref a) (.type "list") ∨ TyX K H (.ref a) (.type "tuple") := h.elim (fun h => .inl (.base (.lst h))) fun h => .inr (.base (.tup h))
theorem Seq.sq {K : PySem.W.Frag} {H : Hp} {a : Addr} {xs : List V} (h : Seq H a xs) : SqL K H a xs ∨ SqT K H a xs := h.elim (fun h => .inl (.of h)) fun h => .inr (.of h)
theorem Seq.gr {H H' : Hp} {a : Addr} {xs : List V} (h : Seq H a xs) (g : Gr [] H H') : Seq H' a xs := h.elim (fun h => .inl (g.all _ _ h)) fun h => .inr (g.all _ _ h)
theorem Seq.gr' {ms : List Addr} {H H' : Hp} {a : Addr} {xs : List V} (h : Seq H a xs) (g : Gr ms H H') (ha : a ∉ ms) : Seq H' a xs := h.elim (fun h => .inl (g _ _ h fun z => absurd z ha)) fun h => .inr (g _ _ h fun z => absurd z ha)
theorem seq_or {K : PySem.W.Frag} {H : Hp} {a : Addr} {xs : List V} {R : It → Hp → Prop} (h : Seq H a xs) (key : ∀ J, Walk J xs.length (Gr [] H) (YAt xs) → R J H) :
    ((∃ xs, SqL K H a xs) ∧ R (Itl K a) H) ∨ ((∃ xs, SqT K H a xs) ∧ R (Itt K a) H) := by
  rcases h with h | h
  · exact .inl ⟨⟨xs, .of h⟩, key _ (walk_list.mono (fun Hx g => g.sqL (.of h)) fun _ _ _ _ _ _ y => y)⟩
  · exact .inr ⟨⟨xs, .of h⟩, key _ (walk_tup.mono (fun Hx g => g.sqT (.of h)) fun _ _ _ _ _ _ y => y)⟩
end HX
namespace HX
open PySem PySem.Spec PyProof.Rows L2 HW
/-- for x in a, a a name in slot i that holds a list or a tuple -/
def iSeqV (i : Nat) : TI := fun σ H R => ∃ a xs, σ[i]? = some (some (V.ref a)) ∧ Seq H a xs ∧ ∀ J, Walk J xs.length (Gr [] H) (YAt xs) → R J H
theorem pi_seq {X : Cx} {tg l : Expr} {i : Nat} (hl : PE X l (tVar i)) : PI X tg l (iSeqV i) := ⟨fun pins s σ H R I h => by
  obtain ⟨a, xs, h0, hs, key⟩ := h
  rcases seq_or (K := X.K) hs key with h | h
  · exact (pi_list hl).run pins s σ H R I ⟨_, h0, a, rfl, h.1, h.2⟩
  · exact (pi_tup hl).run pins s σ H R I ⟨_, h0, a, rfl, h.1, h.2⟩⟩
end HX
namespace HX
open PySem PySem.Spec PyProof.Rows L2 HW
/-- the same, but tables of code objects may grow -/
def Gx (ms : List Addr) (H H' : Hp) : Prop := ∀ b o, H b = some o → (b ∈ ms → Solid o) → (∀ ps, o ≠ .tbl ps) → H' b = some o
theorem Gr.gx {ms : List Addr} {H H' : Hp} (g : Gr ms H H') : Gx ms H H' := fun b o e n _ => g b o e n
theorem Gx.refl (ms : List Addr) (H : Hp) : Gx ms H H := fun _ _ h _ _ => h
theorem Gx.trans {ms : List Addr} {H H1 H2 : Hp} (a : Gx ms H H1) (b : Gx ms H1 H2) : Gx ms H H2 := fun c o h n t => b c o (a c o h n t) n t
theorem Gx.more {ms ns : List Addr} {H H1 : Hp} (a : Gx ms H H1) (h : ∀ x ∈ ms, x ∈ ns) : Gx ns H H1 := fun c o e n t => a c o e (fun z => n (h c z)) t
theorem Gx.put0 {ms : List Addr} {H0 H : Hp} {p : Addr} {o : HO} (g : Gx ms H0 H) (h : H0 p = none) : Gx ms H0 (upd H p o) := fun b v e n t => by
  rw [upd_ne (ne_of_none e h)]
  exact g b v e n t
theorem Gx.tup {ms : List Addr} {H H' : Hp} {a : Addr} {xs : List V} (g : Gx ms H H') (h : H a = some (.tup xs)) : H' a = some (.tup xs) := g a _ h (fun _ => True.intro) fun _ z => nomatch z
theorem Gx.lst {ms : List Addr} {H H' : Hp} {a : Addr} {xs : List V} (g : Gx ms H H') (h : H a = some (.lst xs)) (ha : a ∉ ms) : H' a = some (.lst xs) := g a _ h (fun z => absurd z ha) fun _ z => nomatch z
theorem Gx.ins {ms : List Addr} {H H' : Hp} {a C dx : Addr} {fs : List (Str × V)} (g : Gx ms H H') (h : H a = some (.ins C dx fs)) (ha : a ∉ ms) : H' a = some (.ins C dx fs) := g a _ h (fun z => absurd z ha) fun _ z => nomatch z
theorem Gx.seq {ms : List Addr} {H H' : Hp} {a : Addr} {xs : List V} (g : Gx ms H H') (h : Seq H a xs) (ha : a ∉ ms) : Seq H' a xs := h.elim (fun h => .inl (g.lst h ha)) fun h => .inr (g.tup h)
theorem Gx.sqT {K : PySem.W.Frag} {ms : List Addr} {H H' : Hp} {a : Addr} {xs : List V} (g : Gx ms H H') (h : SqT K H a xs) : SqT K H' a xs := by
  rcases h with (h | ⟨o, h⟩) | h
  · exact .inl (.inl (g.tup h))
  · exact .inl (.inr ⟨o, g a _ h (fun _ => True.intro) fun _ z => nomatch z⟩)
  · exact .inr h
theorem gx_extN {H H' : Hp} (e : LamX.ExtN H H') : Gx [] H H' := fun b o h _ t => e b o h t
theorem tabs_gr {T : List (Addr × Str)} {H H' : Hp} (t : LamX.Tabs T H) (g : Gr [] H H') : LamX.Tabs T H' := t.ext fun b o e => g.all b o e
theorem DataAt.gx {ms : List Addr} {H H' : Hp} {tm tw : Addr} {w : Wt} (d : DataAt H tm tw w) (g : Gx ms H H') : DataAt H' tm tw w := by
  obtain ⟨⟨rows, h1, h2, h3⟩, h4⟩ := d
  exact ⟨⟨rows, g.tup h1, h2, fun i r l e1 e2 => g.tup (h3 i r l e1 e2)⟩, g.tup h4⟩
theorem WatchAt.gx {C : Addr} {ms : List Addr} {H H' : Hp} {p : Addr} {w : Wt} (d : WatchAt C H p w) (g : Gx ms H H') (hp : p ∉ ms) : WatchAt C H' p w := by
  obtain ⟨dx, tm, tw, h1, h2⟩ := d
  exact ⟨dx, tm, tw, g.ins h1 hp, h2.gx g⟩
end HX
namespace HX
open PySem PySem.Spec PyProof.Rows L2 HW
abbrev rTupOf (K : PySem.W.Frag) : List V → Hp → VK → Prop := fun xs H Q => ∃ p ys, xs = [V.ref p] ∧ ((SqL K H p ys ∧ ∀ l, H l = none → Q (.ref l) (upd H l (.tup ys))) ∨ (SqT K H p ys ∧ Q (.ref p) H))
abbrev rListOf (K : PySem.W.Frag) : List V → Hp → VK → Prop := fun xs H Q => ∃ p ys, xs = [V.ref p] ∧ (SqL K H p ys ∨ SqT K H p ys) ∧ ∀ l, H l = none → Q (.ref l) (upd H l (.lst ys))
abbrev rLenK (K : PySem.W.Frag) : List V → Hp → VK → Prop := fun xs H Q => ∃ p ys, xs = [V.ref p] ∧ (SqL K H p ys ∨ SqT K H p ys) ∧ Q (V.int ↑ys.length) H
end HX
end
section
set_option Elab.async false
set_option linter.all false
set_option maxRecDepth 100000
set_option maxHeartbeats 4000000
/-! A dict of dicts that collects goals by their words. -/
namespace HX
open PySem PySem.Spec PyProof.Rows L2 HW
def gsK (gs : List Nat) : List (Key × V) := gs.map fun g : Nat => (Sum.inl (g : Int), V.non)
abbrev WD := List (Nat × Addr × List Nat)
def wsK (ws : WD) : List (Key × V) := ws.map fun x => (Sum.inl (x.1 : Int), V.ref x.2.1)
theorem inl_inj {a b : Nat} (h : (Sum.inl (a : Int) : Key) = Sum.inl (b : Int)) : a = b := by
  have := Sum.inl.inj h
  omega
theorem valV_none {kvs : List (Key × V)} {k : Key} (h : ∀ p ∈ kvs, p.1 ≠ k) : valV kvs k = none := by
  have e := valV_any k kvs
  have e2 : (kvs.any fun kv => decide (kv.1 = k)) = false := by
    rw [List.any_eq_false]
    intro p hp
    simpa using h p hp
  rw [e2] at e
  cases hv : valV kvs k with
  | none => rfl
  | some x =>
    rw [hv] at e
    cases e
theorem nodup_map_inl {α : Type} {f : α → Nat} {l : List α} (h : (l.map f).Nodup) : ((l.map fun x => ((Sum.inl (f x : Int) : Key))).Nodup) := by
  have e : (l.map fun x => ((Sum.inl (f x : Int) : Key))) = (l.map f).map fun g : Nat => ((Sum.inl (g : Int) : Key)) := by rw [List.map_map] <;> rfl
  rw [e]
  exact List.Pairwise.map _ (fun a b hab z => hab (inl_inj z)) h
theorem wsK_keys (ws : WD) : (wsK ws).map (·.1) = ws.map fun x => ((Sum.inl (x.1 : Int) : Key)) := by
  unfold wsK
  rw [List.map_map] <;> rfl
theorem gsK_keys (gs : List Nat) : (gsK gs).map (·.1) = gs.map fun g : Nat => ((Sum.inl (g : Int) : Key)) := by
  unfold gsK
  rw [List.map_map] <;> rfl
theorem wsK_val {ws : WD} (nd : (ws.map (·.1)).Nodup) {x : Nat × Addr × List Nat} (hx : x ∈ ws) : valV (wsK ws) (Sum.inl (x.1 : Int)) = some (.ref x.2.1) :=
  val_nodup (kvs := wsK ws) (by rw [wsK_keys]; exact nodup_map_inl nd) (Sum.inl (x.1 : Int), V.ref x.2.1) (List.mem_map.mpr ⟨x, hx, rfl⟩)
theorem wsK_none {ws : WD} {v : Nat} (h : v ∉ ws.map (·.1)) : valV (wsK ws) (Sum.inl (v : Int)) = none := valV_none fun p hp z => by
  obtain ⟨x, hx, rfl⟩ := List.mem_map.mp hp
  exact h (List.mem_map.mpr ⟨x, hx, inl_inj z⟩)
theorem gsK_put_old {gs : List Nat} {g : Nat} (h : g ∈ gs) : putK (gsK gs) (Sum.inl (g : Int)) .non = gsK gs := by
  unfold putK
  have e : ((gsK gs).any fun kv => decide (kv.1 = Sum.inl (g : Int))) = true := List.any_eq_true.mpr ⟨(Sum.inl (g : Int), .non), List.mem_map.mpr ⟨g, h, rfl⟩, by simp⟩
  rw [if_pos e]
  unfold gsK
  rw [List.map_map]
  refine List.map_congr_left fun x hx => ?_
  show (if ((Sum.inl (x : Int) : Key)) = Sum.inl (g : Int) then ((Sum.inl (x : Int) : Key), V.non) else _) = _
  split <;> rfl
theorem gsK_put_new {gs : List Nat} {g : Nat} (h : g ∉ gs) : putK (gsK gs) (Sum.inl (g : Int)) .non = gsK (gs ++ [g]) := by
  rw [putK_new _ (valV_none fun p hp z => ?_)]
  · unfold gsK
    rw [List.map_append] <;> rfl
  · obtain ⟨x, hx, rfl⟩ := List.mem_map.mp hp
    rw [inl_inj z] at hx
    exact h hx
structure FInv (w : Wt) (H0 H : Hp) (F : Addr) (S V : List Nat) (ws : WD) : Prop where
  gr : Gr [] H0 H
  f0 : H0 F = none
  hF : H F = some (.dK (wsK ws))
  nd : (ws.map (·.1)).Nodup
  each : ∀ x ∈ ws, H0 x.2.1 = none ∧ H x.2.1 = some (.dK (gsK x.2.2)) ∧ x.2.1 ≠ F ∧ x.2.2.Nodup ∧ ∀ g, g ∈ x.2.2 ↔ g ∈ S ∧ w.word g = x.1
  apart : ∀ x ∈ ws, ∀ y ∈ ws, x.2.1 = y.2.1 → x = y
  keys : ∀ v, v ∈ ws.map (·.1) ↔ v ∈ V
theorem FInv.first {w : Wt} {H : Hp} {F : Addr} (h : H F = none) : FInv w H (upd H F (.dK [])) F [] [] [] := by
  refine ⟨.new h, h, upd_same, by simp, ?_, ?_, by simp⟩ <;> (intro x hx; cases hx)
theorem FInv.congr {w : Wt} {H0 H : Hp} {F : Addr} {S V S' V' : List Nat} {ws : WD} (I : FInv w H0 H F S V ws) (hS : ∀ g, g ∈ S ↔ g ∈ S') (hV : ∀ v, v ∈ V ↔ v ∈ V') : FInv w H0 H F S' V' ws :=
  ⟨I.gr, I.f0, I.hF, I.nd, fun x hx => let ⟨a, b, c, d, e⟩ := I.each x hx; ⟨a, b, c, d, fun g => (e g).trans ⟨fun z => ⟨(hS g).mp z.1, z.2⟩, fun z => ⟨(hS g).mpr z.1, z.2⟩⟩⟩, I.apart, fun v => (I.keys v).trans (hV v)⟩
/-- a new word -/
theorem FInv.word {w : Wt} {H0 H : Hp} {F d : Addr} {S V : List Nat} {ws : WD} (I : FInv w H0 H F S V ws) {v : Nat} (hv : v ∉ V) (hS : ∀ g ∈ S, w.word g ∈ V) (hd : H d = none) :
    FInv w H0 (upd (upd H d (.dK [])) F (.dK (putK (wsK ws) (Sum.inl (v : Int)) (.ref d)))) F S (v :: V) (ws ++ [(v, d, [])]) := by
  have hd0 : H0 d = none := by
    cases e : H0 d with
    | none => rfl
    | some o =>
      rw [I.gr.all _ _ e] at hd
      cases hd
  have ndF : d ≠ F := fun z => by
    rw [z, I.hF] at hd
    cases hd
  have hv' : v ∉ ws.map (·.1) := fun z => hv ((I.keys v).mp z)
  refine ⟨(I.gr.put0 hd0).put0 I.f0, I.f0, ?_, ?_, fun x hx => ?_, fun x hx y hy e => ?_, fun u => ?_⟩
  · rw [upd_same, putK_new _ (wsK_none hv')]
    unfold wsK
    rw [List.map_append] <;> rfl
  · rw [List.map_append, List.nodup_append]
    refine ⟨I.nd, by simp, fun a ha b hb z => ?_⟩
    subst z
    have e : a = v := by simpa using hb
    subst e
    exact hv' ha
  · rcases List.mem_append.mp hx with hx | hx
    · obtain ⟨a, b, c, e, f⟩ := I.each x hx
      have nxd : x.2.1 ≠ d := ne_of_none b hd
      exact ⟨a, by rw [upd_ne c, upd_ne nxd]; exact b, c, e, f⟩
    · rw [List.mem_singleton] at hx
      subst hx
      refine ⟨hd0, by show upd (upd H d _) F _ d = _; rw [upd_ne ndF, upd_same] <;> rfl, ndF, by simp, fun g => ⟨(fun z => nomatch z), fun z => ?_⟩⟩
      have := hS g z.1
      rw [z.2] at this
      exact absurd this hv
  · rcases List.mem_append.mp hx with hx | hx <;> rcases List.mem_append.mp hy with hy | hy
    · exact I.apart x hx y hy e
    · rw [List.mem_singleton] at hy
      subst hy
      exact absurd e (ne_of_none (I.each x hx).2.1 hd)
    · rw [List.mem_singleton] at hx
      subst hx
      exact absurd e.symm (ne_of_none (I.each y hy).2.1 hd)
    · rw [List.mem_singleton] at hx hy
      rw [hx, hy]
  · rw [List.map_append, List.mem_append, I.keys u]
    simp only [List.map_cons, List.map_nil, List.mem_singleton, List.mem_cons, List.not_mem_nil, or_false]
    exact ⟨fun z => z.elim .inr .inl, fun z => z.elim .inr .inl⟩
/-- a goal more -/
theorem FInv.goal {w : Wt} {H0 H : Hp} {F : Addr} {S V : List Nat} {ws : WD} (I : FInv w H0 H F S V ws) {g : Nat} {x : Nat × Addr × List Nat} (hx : x ∈ ws) (hg : w.word g = x.1) :
    ∃ ws', FInv w H0 (upd H x.2.1 (.dK (putK (gsK x.2.2) (Sum.inl (g : Int)) .non))) F (g :: S) V ws' := by
  obtain ⟨x0, x1, x2, x3, x4⟩ := I.each x hx
  by_cases hm : g ∈ x.2.2
  · refine ⟨ws, I.gr.put0 x0, I.f0, by rw [upd_ne x2.symm]; exact I.hF, I.nd, fun y hy => ?_, I.apart, I.keys⟩
    obtain ⟨y0, y1, y2, y3, y4⟩ := I.each y hy
    have same : upd H x.2.1 (.dK (putK (gsK x.2.2) (Sum.inl (g : Int)) .non)) y.2.1 = some (.dK (gsK y.2.2)) := by
      by_cases e : y.2.1 = x.2.1
      · have := I.apart y hy x hx e
        subst this
        rw [upd_same, gsK_put_old hm]
      · rw [upd_ne e]
        exact y1
    refine ⟨y0, same, y2, y3, fun u => (y4 u).trans ⟨fun z => ⟨List.mem_cons_of_mem _ z.1, z.2⟩, fun z => ?_⟩⟩
    rcases List.mem_cons.mp z.1 with e | h
    · subst e
      exact ⟨((x4 u).mp hm).1, z.2⟩
    · exact ⟨h, z.2⟩
  · refine ⟨ws.map fun y => if y = x then (x.1, x.2.1, x.2.2 ++ [g]) else y, I.gr.put0 x0, I.f0, ?_, ?_, fun y hy => ?_, fun y hy z hz e => ?_, fun v => ?_⟩
    · rw [upd_ne x2.symm, I.hF]
      congr 2
      unfold wsK
      rw [List.map_map]
      refine List.map_congr_left fun y _ => ?_
      show _ = ((Sum.inl ((if y = x then (x.1, x.2.1, x.2.2 ++ [g]) else y).1 : Int) : Key) , L2.V.ref (if y = x then (x.1, x.2.1, x.2.2 ++ [g]) else y).2.1)
      by_cases e : y = x
      · subst e
        rw [if_pos rfl]
      · rw [if_neg e]
    · have e : (ws.map fun y => if y = x then (x.1, x.2.1, x.2.2 ++ [g]) else y).map (·.1) = ws.map (·.1) := by
        rw [List.map_map]
        refine List.map_congr_left fun y _ => ?_
        show (if y = x then (x.1, x.2.1, x.2.2 ++ [g]) else y).1 = y.1
        by_cases e : y = x
        · subst e
          rw [if_pos rfl]
        · rw [if_neg e]
      rw [e]
      exact I.nd
    · obtain ⟨y', hy', rfl⟩ := List.mem_map.mp hy
      obtain ⟨y0, y1, y2, y3, y4⟩ := I.each y' hy'
      by_cases e : y' = x
      · subst e
        rw [if_pos rfl]
        refine ⟨y0, by rw [upd_same, gsK_put_new hm], y2, ?_, fun u => ?_⟩
        · rw [List.nodup_append]
          refine ⟨y3, by simp, fun a ha b hb z => ?_⟩
          subst z
          have e : a = g := by simpa using hb
          subst e
          exact hm ha
        · rw [List.mem_append, y4 u, List.mem_singleton, List.mem_cons]
          constructor
          · rintro (z | z)
            · exact ⟨.inr z.1, z.2⟩
            · subst z
              exact ⟨.inl rfl, hg⟩
          · rintro ⟨z | z, q⟩
            · exact .inr z
            · exact .inl ⟨z, q⟩
      · rw [if_neg e]
        have ne : y'.2.1 ≠ x.2.1 := fun z => e (I.apart y' hy' x hx z)
        refine ⟨y0, by rw [upd_ne ne]; exact y1, y2, y3, fun u => (y4 u).trans ⟨fun z => ⟨List.mem_cons_of_mem _ z.1, z.2⟩, fun z => ?_⟩⟩
        rcases List.mem_cons.mp z.1 with q | h
        · subst q
          have e1 : x.1 = y'.1 := hg.symm.trans z.2
          exfalso
          apply e
          have inj : ∀ {l : WD}, (l.map (·.1)).Nodup → ∀ a ∈ l, ∀ b ∈ l, a.1 = b.1 → a = b := by
            intro l
            induction l with
            | nil => intro _ a ha; cases ha
            | cons c l ih =>
              intro nd a ha b hb hab
              rw [List.map_cons, List.nodup_cons] at nd
              rcases List.mem_cons.mp ha with rfl | ha2 <;> rcases List.mem_cons.mp hb with rfl | hb2
              · rfl
              · exact absurd (List.mem_map.mpr ⟨b, hb2, hab.symm⟩) nd.1
              · exact absurd (List.mem_map.mpr ⟨a, ha2, hab⟩) nd.1
              · exact ih nd.2 a ha2 b hb2 hab
          exact inj I.nd y' hy' x hx e1.symm
        · exact ⟨h, z.2⟩
    · obtain ⟨y', hy', rfl⟩ := List.mem_map.mp hy
      obtain ⟨z', hz', rfl⟩ := List.mem_map.mp hz
      have a1 : ∀ y : Nat × Addr × List Nat, (if y = x then (x.1, x.2.1, x.2.2 ++ [g]) else y).2.1 = y.2.1 := fun y => by
        by_cases e : y = x
        · subst e
          rw [if_pos rfl]
        · rw [if_neg e]
      rw [a1, a1] at e
      rw [I.apart y' hy' z' hz' e]
    · rw [← I.keys v, List.map_map]
      have e : (ws.map ((fun x => x.1) ∘ fun y => if y = x then (x.1, x.2.1, x.2.2 ++ [g]) else y)) = ws.map (·.1) := by
        refine List.map_congr_left fun y _ => ?_
        show (if y = x then (x.1, x.2.1, x.2.2 ++ [g]) else y).1 = y.1
        by_cases e : y = x
        · subst e
          rw [if_pos rfl]
        · rw [if_neg e]
      rw [e]
theorem FInv.few {w : Wt} {k : Nat} (h : w.Ok k) {H0 H : Hp} {F : Addr} {S V : List Nat} {ws : WD} (I : FInv w H0 H F S V ws) (hV : ∀ v ∈ V, v ≤ 3) : ws.length ≤ 4 := by
  have e : (ws.map (·.1)).length ≤ (List.range 4).length := length_le_of_subset I.nd fun v hv => by
    have := hV v ((I.keys v).mp hv)
    rw [List.mem_range]
    omega
  rw [List.length_map, List.length_range] at e
  exact e
theorem FInv.goals_few {w : Wt} {H0 H : Hp} {F : Addr} {S V : List Nat} {ws : WD} (I : FInv w H0 H F S V ws) {n : Nat} (hS : ∀ g ∈ S, g < n) {x : Nat × Addr × List Nat} (hx : x ∈ ws) : x.2.2.length ≤ n := by
  obtain ⟨_, _, _, nd, m⟩ := I.each x hx
  have e : x.2.2.length ≤ (List.range n).length := length_le_of_subset nd fun g hg => List.mem_range.mpr (hS g ((m g).mp hg).1)
  rw [List.length_range] at e
  exact e
end HX
end
section
set_option Elab.async false
set_option linter.all false
set_option maxRecDepth 100000
set_option maxHeartbeats 4000000
/-! dict comprehensions over any walk; small things of lists. -/
namespace HX
open PySem PySem.Spec PyProof.Rows L2 HW
theorem dc_it {J : It} {n : Nat} {G : Hp → Prop} {Y : Nat → Hp → V → Hp → Prop} (w : Walk J n G Y) {g : TG} {tt : TT} {tk tv : TE} {vs : List Nat} {σ : L2.St} {H1 : Hp} {D : Addr} {Qd : Hp → Prop} (Pv : Nat → Hp → Prop) (h0 : Pv 0 (upd H1 D (.dK []))) (hG : ∀ i H, i ≤ n → Pv i H → G H)
    (hs : ∀ i x H H', i < n → Pv i H → Y i H x H' → g x (wipe σ vs) H' fun σ2 H2 => wipe σ2 vs = wipe σ vs ∧ tt σ2 H2 fun b H3 =>
      if b = true then tk σ2 H3 fun y H4 => tv σ2 H4 fun z H5 => ∃ kvs k, y = kV k ∧ H5 D = some (.dK kvs) ∧ kvs.length < sizeLine ∧ Pv (i + 1) (upd H5 D (.dK (putK kvs k z))) else Pv (i + 1) H3) (hd : ∀ H, Pv n H → Qd H) :
    ∃ W : Nat → Nat → Hp → Prop, (∃ m, W 0 m (upd H1 D (.dK []))) ∧ ∀ i m H, W i m H →
      (J.stop i H ∧ Qd H) ∨ (J.go i H ∧ ∃ Nx : Hp → Prop, (∀ H', Nx H' → ∃ m', m' < m ∧ W (i + 1) m' H') ∧ ∀ x H', J.yld i H x H' → g x (wipe σ vs) H' fun σ2 H2 => wipe σ2 vs = wipe σ vs ∧ tt σ2 H2 fun b H3 =>
        if b = true then tk σ2 H3 fun y H4 => tv σ2 H4 fun z H5 => ∃ kvs k, y = kV k ∧ H5 D = some (.dK kvs) ∧ kvs.length < sizeLine ∧ Nx (upd H5 D (.dK (putK kvs k z))) else Nx H3) := by
  refine ⟨fun i m H => m = n - i ∧ i ≤ n ∧ Pv i H, ⟨n, by simp, Nat.zero_le _, h0⟩, ?_⟩
  rintro i m H ⟨rfl, hi, p⟩
  have q := hG i H hi p
  by_cases hlt : i < n
  · exact .inr ⟨w.goes i H hlt q, Pv (i + 1), fun H' p' => ⟨n - (i + 1), by omega, rfl, hlt, p'⟩, fun x H' y => hs i x H H' hlt p (w.yields i H x H' hlt q y)⟩
  · have e : i = n := by omega
    subst e
    exact .inl ⟨w.stops H q, hd H p⟩
theorem zip_snoc {α β : Type} : ∀ {l : List α} {ts : List β} {i : Nat} {x : α} (t : β), ts.length = i → l[i]? = some x → l.zip (ts ++ [t]) = l.zip ts ++ [(x, t)]
  | [], _, _, _, _, _, e => by simp at e
  | a :: l, [], 0, x, t, _, e => by
    simp at e
    subst e
    simp
  | a :: l, b :: ts, i + 1, x, t, h, e => by
    show (a, b) :: l.zip (ts ++ [t]) = (a, b) :: (l.zip ts ++ [(x, t)])
    rw [zip_snoc (i := i) (x := x) t (by simpa using h) (by simpa using e)]
  | a :: l, b :: ts, 0, x, t, h, e => by simp at h
theorem Gr.none {H H' : Hp} {a : Addr} {ms : List Addr} (g : Gr ms H H') (h : H' a = Option.none) (ha : a ∉ ms) : H a = Option.none := by
  cases e : H a with
  | none => rfl
  | some o =>
    rw [g a o e fun z => absurd z ha] at h
    cases h
theorem Gr.none0 {H H' : Hp} {a : Addr} (g : Gr [] H H') (h : H' a = Option.none) : H a = Option.none := g.none h (by simp)
theorem sorted_nvs {is : List Int} {m : List Nat} (hs : is.Pairwise (· ≤ ·)) (hn : is.Nodup) (ha : m.Pairwise (· < ·)) (hm : ∀ x : Int, x ∈ is ↔ ∃ g ∈ m, x = (g : Int)) : is.map V.int = nvs m := by
  rw [nvs_map, sorted_is hs hn ha hm]
end HX
end
section
set_option Elab.async false
set_option linter.all false
set_option maxRecDepth 100000
set_option maxHeartbeats 4000000
/-! Dicts that count: numbers of ways by places. Lots by words, looked up. -/
namespace HX
open PySem PySem.Spec PyProof.Rows L2 HW
abbrev CM := List (Nat × Nat)
def tot (m : CM) (f : Nat → Nat) : Nat := (m.map fun x => x.2 * f x.1).sum
def addK (m : CM) (g c : Nat) : CM := if (m.any fun x => decide (x.1 = g)) = true then m.map (fun x => if x.1 = g then (x.1, x.2 + c) else x) else m ++ [(g, c)]
def cK (m : CM) : List (Key × V) := m.map fun x => ((Sum.inl (x.1 : Int) : Key), V.int (x.2 : Int))
theorem any_key {m : CM} {g : Nat} : (m.any fun x => decide (x.1 = g)) = true ↔ g ∈ m.map (·.1) := by
  rw [List.any_eq_true, List.mem_map]
  exact ⟨fun ⟨x, h, e⟩ => ⟨x, h, of_decide_eq_true e⟩, fun ⟨x, h, e⟩ => ⟨x, h, decide_eq_true e⟩⟩
theorem addK_keys (m : CM) (g c : Nat) : (addK m g c).map (·.1) = if g ∈ m.map (·.1) then m.map (·.1) else m.map (·.1) ++ [g] := by
  unfold addK
  by_cases h : (m.any fun x => decide (x.1 = g)) = true
  · rw [if_pos h, if_pos (any_key.mp h), List.map_map]
    refine List.map_congr_left fun x _ => ?_
    show (if x.1 = g then (x.1, x.2 + c) else x).1 = x.1
    split <;> rfl
  · rw [if_neg h, if_neg (fun z => h (any_key.mpr z)), List.map_append] <;> rfl
theorem addK_nodup {m : CM} (h : (m.map (·.1)).Nodup) (g c : Nat) : ((addK m g c).map (·.1)).Nodup := by
  rw [addK_keys]
  split
  · exact h
  · rename_i hn
    rw [List.nodup_append]
    refine ⟨h, by simp, fun a ha b hb z => ?_⟩
    subst z
    have e : a = g := by simpa using hb
    subst e
    exact hn ha
theorem addK_lt {m : CM} {n : Nat} (h : ∀ p ∈ m.map (·.1), p < n) {g c : Nat} (hg : g < n) : ∀ p ∈ (addK m g c).map (·.1), p < n := by
  rw [addK_keys]
  intro p hp
  split at hp
  · exact h p hp
  · rcases List.mem_append.mp hp with hp | hp
    · exact h p hp
    · rw [List.mem_singleton] at hp
      subst hp
      exact hg
theorem tot_addK {f : Nat → Nat} : ∀ {m : CM}, (m.map (·.1)).Nodup → ∀ (g c : Nat), tot (addK m g c) f = tot m f + c * f g := by
  intro m nd g c
  unfold addK
  by_cases h : (m.any fun x => decide (x.1 = g)) = true
  · rw [if_pos h]
    have hm := any_key.mp h
    clear h
    induction m with
    | nil => cases hm
    | cons x m ih =>
      rw [List.map_cons, List.nodup_cons] at nd
      unfold tot at ih ⊢
      rw [List.map_cons, List.map_cons, List.sum_cons, List.map_cons, List.sum_cons]
      by_cases e : x.1 = g
      · subst e
        rw [if_pos rfl]
        have same : (m.map fun y => if y.1 = x.1 then (y.1, y.2 + c) else y) = m := by
          conv => rhs; rw [← List.map_id m]
          refine List.map_congr_left fun y hy => ?_
          rw [if_neg fun z => nd.1 (List.mem_map.mpr ⟨y, hy, z⟩)] <;> rfl
        rw [same]
        show (x.2 + c) * f x.1 + (m.map fun x => x.2 * f x.1).sum = x.2 * f x.1 + (m.map fun x => x.2 * f x.1).sum + c * f x.1
        rw [Nat.add_mul]
        omega
      · rw [if_neg e]
        have hm2 : g ∈ m.map (·.1) := by
          rw [List.map_cons] at hm
          rcases List.mem_cons.mp hm with z | z
          · exact absurd z.symm e
          · exact z
        rw [ih nd.2 hm2]
        omega
  · rw [if_neg h]
    unfold tot
    rw [List.map_append, List.sum_append]
    simp
theorem cK_keys (m : CM) : (cK m).map (·.1) = m.map fun x => ((Sum.inl (x.1 : Int) : Key)) := by
  unfold cK
  rw [List.map_map] <;> rfl
theorem cK_put {m : CM} (nd : (m.map (·.1)).Nodup) (g c : Nat) : ∃ old : Nat, (valV (cK m) (Sum.inl (g : Int))).getD (.int 0) = .int (old : Int) ∧ putK (cK m) (Sum.inl (g : Int)) (.int ((old : Int) + (c : Int))) = cK (addK m g c) := by
  by_cases h : (m.any fun x => decide (x.1 = g)) = true
  · obtain ⟨x, hx, hxg⟩ := List.any_eq_true.mp h
    have hxg := of_decide_eq_true hxg
    have hv : valV (cK m) (Sum.inl (g : Int)) = some (.int (x.2 : Int)) := by
      have := val_nodup (kvs := cK m) (by rw [cK_keys]; exact nodup_map_inl nd) (Sum.inl (x.1 : Int), V.int (x.2 : Int)) (List.mem_map.mpr ⟨x, hx, rfl⟩)
      rw [← hxg]
      exact this
    refine ⟨x.2, by rw [hv] <;> rfl, ?_⟩
    unfold putK addK
    have ha : ((cK m).any fun kv => decide (kv.1 = Sum.inl (g : Int))) = true := List.any_eq_true.mpr ⟨_, List.mem_map.mpr ⟨x, hx, rfl⟩, by simp [hxg]⟩
    rw [if_pos h, if_pos ha]
    unfold cK
    rw [List.map_map, List.map_map]
    refine List.map_congr_left fun y hy => ?_
    show (if ((Sum.inl (y.1 : Int) : Key)) = Sum.inl (g : Int) then ((Sum.inl (y.1 : Int) : Key), V.int ((x.2 : Int) + (c : Int))) else (Sum.inl (y.1 : Int), V.int (y.2 : Int))) = ((Sum.inl ((if y.1 = g then (y.1, y.2 + c) else y).1 : Int) : Key), V.int ((if y.1 = g then (y.1, y.2 + c) else y).2 : Int))
    by_cases e : y.1 = g
    · rw [if_pos e, if_pos (by rw [e])]
      have exy : y = x := by
        have nd2 : (m.map (·.1)).Nodup := nd
        obtain ⟨i, hi⟩ := List.mem_iff_getElem?.mp hy
        obtain ⟨j, hj⟩ := List.mem_iff_getElem?.mp hx
        have a1 : (m.map (·.1))[i]? = some g := by rw [List.getElem?_map, hi, ← e] <;> rfl
        have a2 : (m.map (·.1))[j]? = some g := by rw [List.getElem?_map, hj, ← hxg] <;> rfl
        have := (List.getElem?_inj (List.getElem?_eq_some_iff.mp a1).1 nd2).mp (a1.trans a2.symm)
        subst this
        rw [hi] at hj
        cases hj
        rfl
      subst exy
      simp
    · rw [if_neg e, if_neg (fun z => e (inl_inj z))]
  · have hn : g ∉ m.map (·.1) := fun z => h (any_key.mpr z)
    have hv : valV (cK m) (Sum.inl (g : Int)) = none := valV_none fun p hp z => by
      obtain ⟨x, hx, rfl⟩ := List.mem_map.mp hp
      exact hn (List.mem_map.mpr ⟨x, hx, inl_inj z⟩)
    refine ⟨0, by rw [hv] <;> rfl, ?_⟩
    rw [putK_new _ hv]
    unfold addK
    rw [if_neg h]
    unfold cK
    rw [List.map_append]
    simp
/-- what the ways of m lead to with the verdict v -/
structure Behind (w : Wt) (v : Nat) (F : (Nat → Nat) → Nat) (m2 : CM) : Prop where
  nd : (m2.map (·.1)).Nodup
  lt : ∀ p ∈ m2.map (·.1), p < w.n
  sum : ∀ f, tot m2 f = F f
def stepF (w : Wt) (v : Nat) (f : Nat → Nat) (p : Nat) : Nat := ((w.goals p).map fun g => if w.word g = v then f g else 0).sum
theorem Behind.few {w : Wt} {k v : Nat} (h : w.Ok k) {F : (Nat → Nat) → Nat} {m2 : CM} (b : Behind w v F m2) : m2.length ≤ 6 := by
  have e : (m2.map (·.1)).length ≤ (List.range w.n).length := length_le_of_subset b.nd fun p hp => List.mem_range.mpr (b.lt p hp)
  rw [List.length_map, List.length_range] at e
  have := h.n6
  omega
theorem Behind.congr {w : Wt} {v : Nat} {F G : (Nat → Nat) → Nat} {m2 : CM} (b : Behind w v F m2) (h : ∀ f, F f = G f) : Behind w v G m2 := ⟨b.nd, b.lt, fun f => (b.sum f).trans (h f)⟩
theorem Behind.add {w : Wt} {v : Nat} {F : (Nat → Nat) → Nat} {m2 : CM} (b : Behind w v F m2) {g : Nat} (c : Nat) (hg : g < w.n) : Behind w v (fun f => F f + c * f g) (addK m2 g c) :=
  ⟨addK_nodup b.nd g c, addK_lt b.lt hg, fun f => by rw [tot_addK b.nd, b.sum f]⟩
theorem tot_snoc (m : CM) (x : Nat × Nat) (f : Nat → Nat) : tot (m ++ [x]) f = tot m f + x.2 * f x.1 := by
  unfold tot
  rw [List.map_append, List.sum_append]
  simp
/-- the dict of a watch's lots behind a lot -/
def LotsAt (H : Hp) (d : Addr) (l : List (Nat × List Nat)) : Prop := ∃ ts : List Addr, ts.length = l.length ∧ H d = some (.dK ((l.zip ts).map fun x => (Sum.inl (x.1.1 : Int), V.ref x.2))) ∧ ∀ (i : Nat) (x : Nat × List Nat) (t : Addr), l[i]? = some x → ts[i]? = some t → H t = some (.tup (nvs x.2))
theorem LotsAt.look {H : Hp} {d : Addr} {w : Wt} {L : List Nat} (h : LotsAt H d (wb w L)) {v : Nat} (hv : v ≤ 3) :
    ∃ kvs, H d = some (.dK kvs) ∧ ((∃ t, valV kvs (Sum.inl (v : Int)) = some (.ref t) ∧ H t = some (.tup (nvs (gl w L v))) ∧ gl w L v ≠ []) ∨ (valV kvs (Sum.inl (v : Int)) = none ∧ gl w L v = [])) := by
  obtain ⟨ts, hl, hd, hall⟩ := h
  refine ⟨_, hd, ?_⟩
  by_cases e : gl w L v = []
  · refine .inr ⟨valV_none fun p hp z => ?_, e⟩
    obtain ⟨y, hy, rfl⟩ := List.mem_map.mp hp
    have e1 : y.1.1 = v := inl_inj z
    have hm : y.1 ∈ wb w L := (List.of_mem_zip hy).1
    obtain ⟨⟨a, b⟩, t⟩ := y
    obtain ⟨_, h2, h3⟩ := mem_wb.mp hm
    subst e1
    rw [h2] at h3
    exact h3 e
  · refine .inl ?_
    have hm : (v, gl w L v) ∈ wb w L := mem_wb.mpr ⟨by omega, rfl, e⟩
    obtain ⟨i, hi⟩ := List.mem_iff_getElem?.mp hm
    have hit : i < ts.length := by
      rw [hl]
      exact (List.getElem?_eq_some_iff.mp hi).1
    have ht : ts[i]? = some ts[i] := List.getElem?_eq_getElem hit
    refine ⟨ts[i], ?_, hall i _ _ hi ht, e⟩
    refine val_nodup (kvs := ((wb w L).zip ts).map fun x => ((Sum.inl (x.1.1 : Int) : Key), V.ref x.2)) ?_ (Sum.inl (v : Int), V.ref ts[i]) (List.mem_map.mpr ⟨((v, gl w L v), ts[i]), List.mem_of_getElem? (List.getElem?_zip_eq_some.mpr ⟨hi, ht⟩), rfl⟩)
    rw [List.map_map]
    have e2 : ((fun x : Key × V => x.1) ∘ fun x : (Nat × List Nat) × Addr => ((Sum.inl (x.1.1 : Int) : Key), V.ref x.2)) = fun x : (Nat × List Nat) × Addr => ((Sum.inl (x.1.1 : Int) : Key)) := rfl
    rw [e2]
    refine nodup_map_inl (f := fun x : (Nat × List Nat) × Addr => x.1.1) ?_
    have e3 : (((wb w L).zip ts).map fun x => x.1.1) = (wb w L).map (·.1) := by
      have : ((wb w L).zip ts).map Prod.fst = wb w L := List.map_fst_zip (by omega)
      calc (((wb w L).zip ts).map fun x => x.1.1) = (((wb w L).zip ts).map Prod.fst).map (·.1) := by rw [List.map_map] <;> rfl
        _ = _ := by rw [this]
    rw [e3]
    exact wb_nodup w L
end HX
namespace HX
open PySem PySem.Spec PyProof.Rows L2 HW
theorem cK_sum (m : CM) : (m.map fun x => (x.2 : Int)).sum = (tot m (fun _ => 1) : Int) := by
  unfold tot
  induction m with
  | nil => rfl
  | cons x m ih =>
    rw [List.map_cons, List.sum_cons, List.map_cons, List.sum_cons, ih]
    simp
theorem tot_step {w : Wt} {v : Nat} {f : Nat → Nat} {m : CM} {j : Nat} {x : Nat × Nat} (h : m[j]? = some x) : tot (m.take (j + 1)) (stepF w v f) = tot (m.take j) (stepF w v f) + x.2 * ((w.goals x.1).map fun g => if w.word g = v then f g else 0).sum := by
  have e : m.take (j + 1) = m.take j ++ [x] := by rw [List.take_add_one, h] <;> rfl
  rw [e, tot_snoc] <;> rfl
theorem take_sum {l : List Nat} {j g : Nat} (h : l[j]? = some g) (f : Nat → Nat) : ((l.take (j + 1)).map f).sum = ((l.take j).map f).sum + f g := by
  have e : l.take (j + 1) = l.take j ++ [g] := by rw [List.take_add_one, h] <;> rfl
  rw [e, List.map_append, List.sum_append]
  simp
end HX
end
section
set_option Elab.async false
set_option linter.all false
set_option maxRecDepth 100000
set_option maxHeartbeats 4000000
/-! Dicts keyed by lots. -/
namespace HX
open PySem PySem.Spec PyProof.Rows L2 HW
def kk (L : List Nat) : List Key := L.map fun g : Nat => ((Sum.inl (g : Int) : Key))
theorem kk_V (L : List Nat) : (kk L).map kV = nvs L := by
  unfold kk nvs
  rw [List.map_map] <;> rfl
theorem kk_inj {L M : List Nat} (h : kk L = kk M) : L = M := by
  unfold kk at h
  induction L generalizing M with
  | nil =>
    cases M with
    | nil => rfl
    | cons a M => simp at h
  | cons b L ih =>
    cases M with
    | nil => simp at h
    | cons a M =>
      rw [List.map_cons, List.map_cons] at h
      injection h with h1 h2
      rw [inl_inj h1, ih h2]
theorem valD_some {kvs : KD} (nd : (kvs.map (·.1)).Nodup) {p : List Key × Addr × V} (hp : p ∈ kvs) : valD kvs p.1 = some p.2.2 := by
  induction kvs with
  | nil => cases hp
  | cons q r ih =>
    rw [List.map_cons, List.nodup_cons] at nd
    unfold valD
    rw [List.find?_cons]
    rcases List.mem_cons.mp hp with e | h
    · subst e
      simp
    · have ne : ¬ q.1 = p.1 := fun z => nd.1 (List.mem_map.mpr ⟨p, h, z.symm⟩)
      have hd : decide (q.1 = p.1) = false := decide_eq_false ne
      rw [hd]
      exact ih nd.2 h
theorem valD_none {kvs : KD} {k : List Key} (h : k ∉ kvs.map (·.1)) : valD kvs k = none := by
  unfold valD
  rw [Option.map_eq_none_iff, List.find?_eq_none]
  intro p hp
  simpa using fun z => h (List.mem_map.mpr ⟨p, hp, z⟩)
abbrev LX := List (List Nat × Addr × Addr)
def kdL (xs : LX) : KD := xs.map fun x => (kk x.1, x.2.1, V.ref x.2.2)
theorem kdL_keys (xs : LX) : (kdL xs).map (·.1) = (xs.map (·.1)).map kk := by
  unfold kdL
  rw [List.map_map, List.map_map] <;> rfl
theorem kdL_nodup {xs : LX} (nd : (xs.map (·.1)).Nodup) : ((kdL xs).map (·.1)).Nodup := by
  rw [kdL_keys]
  exact List.Pairwise.map _ (fun a b hab z => hab (kk_inj z)) nd
theorem kdL_some {xs : LX} (nd : (xs.map (·.1)).Nodup) {x : List Nat × Addr × Addr} (hx : x ∈ xs) : valD (kdL xs) (kk x.1) = some (.ref x.2.2) :=
  valD_some (kdL_nodup nd) (p := (kk x.1, x.2.1, V.ref x.2.2)) (List.mem_map.mpr ⟨x, hx, rfl⟩)
theorem kdL_none {xs : LX} {G : List Nat} (h : G ∉ xs.map (·.1)) : valD (kdL xs) (kk G) = none := valD_none fun z => by
  rw [kdL_keys] at z
  obtain ⟨M, hM, e⟩ := List.mem_map.mp z
  rw [kk_inj e] at hM
  exact h hM
theorem kdL_put {xs : LX} {G : List Nat} (h : G ∉ xs.map (·.1)) (b t : Addr) : putD (kdL xs) (kk G) b (.ref t) = kdL (xs ++ [(G, b, t)]) := by
  unfold putD
  rw [kdL_none h]
  rw [if_neg (by simp)]
  unfold kdL
  rw [List.map_append] <;> rfl
/-! ### how many lots there are -/
def subs : List Nat → List (List Nat)
  | [] => [[]]
  | a :: l => subs l ++ (subs l).map (a :: ·)
theorem subs_length : ∀ l : List Nat, (subs l).length = 2 ^ l.length
  | [] => rfl
  | a :: l => by
    show (subs l ++ (subs l).map (a :: ·)).length = 2 ^ (l.length + 1)
    rw [List.length_append, List.length_map, subs_length l, Nat.pow_succ]
    omega
theorem filter_subs (p : Nat → Bool) : ∀ l : List Nat, l.filter p ∈ subs l
  | [] => by simp [subs]
  | a :: l => by
    show (a :: l).filter p ∈ subs l ++ (subs l).map (a :: ·)
    rw [List.filter_cons]
    split
    · exact List.mem_append_right _ (List.mem_map.mpr ⟨_, filter_subs p l, rfl⟩)
    · exact List.mem_append_left _ (filter_subs p l)
theorem lots_few {w : Wt} {k : Nat} (h : w.Ok k) {Ls : List (List Nat)} (nd : Ls.Nodup) (hl : ∀ l ∈ Ls, Lot w l) : Ls.length ≤ 64 := by
  have hm : ∀ l ∈ Ls, l ∈ subs (List.range w.n) := fun l hm => by
    have e : l = (List.range w.n).filter fun x => l.contains x := asc_ext (hl l hm).asc asc_filter fun x => by
      rw [List.mem_filter, List.mem_range, List.contains_iff_mem]
      exact ⟨fun z => ⟨(hl l hm).lt x z, z⟩, fun z => z.2⟩
    rw [e]
    exact filter_subs _ _
  have := length_le_of_subset nd hm
  rw [subs_length, List.length_range] at this
  have h2 : 2 ^ w.n ≤ 2 ^ 6 := Nat.pow_le_pow_right (by omega) h.n6
  omega
structure LInv (P : Program) (W : World) (K : PySem.W.Frag) (w : Wt) (H0 H : Hp) (F l : Addr) (xs : LX) : Prop where
  gr : Gr [] H0 H
  F0 : H0 F = none
  l0 : H0 l = none
  hF : H F = some (DN P W F (kdL xs))
  hl : H l = some (.lst (xs.map fun x => V.ref x.2.1))
  nd : (xs.map (·.1)).Nodup
  first : [0] ∈ xs.map (·.1)
  adr : ∀ x ∈ xs, SqT K H x.2.1 (nvs x.1)
  path : ∀ x ∈ xs, ∃ ps : List Nat, H x.2.2 = some (.tup (nvs ps)) ∧ ps.length ≤ xs.length
  reach : ∀ x ∈ xs, x.1 ≠ [] ∧ ∃ hs : List Nat, (∀ v ∈ hs, v ≤ 3) ∧ x.1 = placesBy w [0] hs
section
variable {P : Program} {W : World} {K : PySem.W.Frag} {w : Wt} {k : Nat} {H0 H : Hp} {F l : Addr} {xs : LX}
theorem LInv.kok (I : LInv P W K w H0 H F l xs) : KOk K H (kdL xs) := fun p hp => by
  obtain ⟨x, hx, rfl⟩ := List.mem_map.mp hp
  show SqT K H x.2.1 ((kk x.1).map kV)
  rw [kk_V]
  exact I.adr x hx
theorem LInv.lot (I : LInv P W K w H0 H F l xs) (h : w.Ok k) {x : List Nat × Addr × Addr} (hx : x ∈ xs) : Lot w x.1 := by
  obtain ⟨_, hs, _, e⟩ := I.reach x hx
  rw [e]
  exact Lot.by (Lot.first h)
theorem LInv.few (I : LInv P W K w H0 H F l xs) (h : w.Ok k) : xs.length ≤ 64 := by
  have := lots_few h I.nd fun L hL => by
    obtain ⟨x, hx, rfl⟩ := List.mem_map.mp hL
    exact I.lot h hx
  rw [List.length_map] at this
  exact this
theorem LInv.gr' (I : LInv P W K w H0 H F l xs) {H1 : Hp} (g : Gr [] H H1) : LInv P W K w H0 H1 F l xs :=
  ⟨I.gr.trans g, I.F0, I.l0, g.all _ _ I.hF, g.all _ _ I.hl, I.nd, I.first, fun x hx => g.sqT (I.adr x hx), fun x hx => let ⟨ps, h1, h2⟩ := I.path x hx; ⟨ps, g.tup h1, h2⟩, I.reach⟩
/-- a lot more -/
theorem LInv.more (I : LInv P W K w H0 H F l xs) {x : List Nat × Addr × Addr} (hx : x ∈ xs) {v : Nat} (hv : v ≤ 3) (hne : gl w x.1 v ≠ []) (hn : gl w x.1 v ∉ xs.map (·.1)) {b t : Addr} (hb : SqT K H b (nvs (gl w x.1 v))) {ps : List Nat} (ht : H t = some (.tup (nvs ps))) (hps : ps.length ≤ xs.length + 1) :
    LInv P W K w H0 (upd (upd H F (DN P W F (putD (kdL xs) (kk (gl w x.1 v)) b (.ref t)))) l (.lst ((xs.map fun x => V.ref x.2.1) ++ [V.ref b]))) F l (xs ++ [(gl w x.1 v, b, t)]) := by
  have nFl : F ≠ l := ne_of I.hF I.hl (fun z => by unfold DN at z; cases z)
  have keepT : ∀ c ys, H c = some (.tup ys) → upd (upd H F (DN P W F (putD (kdL xs) (kk (gl w x.1 v)) b (.ref t)))) l (.lst ((xs.map fun x => V.ref x.2.1) ++ [V.ref b])) c = some (.tup ys) := fun c ys e => by
    rw [upd_ne (ne_of e I.hl (fun z => nomatch z)), upd_ne (ne_of e I.hF (fun z => by unfold DN at z; cases z))]
    exact e
  have keepS : ∀ c ys, SqT K H c ys → SqT K (upd (upd H F (DN P W F (putD (kdL xs) (kk (gl w x.1 v)) b (.ref t)))) l (.lst ((xs.map fun x => V.ref x.2.1) ++ [V.ref b]))) c ys := fun c ys e => by
    rcases e with (e | ⟨o, e⟩) | e
    · exact .inl (.inl (keepT c ys e))
    · refine .inl (.inr ⟨o, ?_⟩)
      rw [upd_ne (ne_of e I.hl (fun z => nomatch z)), upd_ne (ne_of e I.hF (fun z => by unfold DN at z; cases z))]
      exact e
    · exact .inr e
  refine ⟨(I.gr.put0 I.F0).put0 I.l0, I.F0, I.l0, ?_, ?_, ?_, ?_, fun y hy => ?_, fun y hy => ?_, fun y hy => ?_⟩
  · rw [upd_ne nFl, upd_same, kdL_put hn]
  · rw [upd_same, List.map_append] <;> rfl
  · rw [List.map_append, List.nodup_append]
    refine ⟨I.nd, by simp, fun a ha c hc z => ?_⟩
    subst z
    have e : a = gl w x.1 v := by simpa using hc
    subst e
    exact hn ha
  · rw [List.map_append]
    exact List.mem_append_left _ I.first
  · rcases List.mem_append.mp hy with hy | hy
    · exact keepS _ _ (I.adr y hy)
    · rw [List.mem_singleton] at hy
      subst hy
      exact keepS _ _ hb
  · rw [List.length_append, List.length_singleton]
    rcases List.mem_append.mp hy with hy | hy
    · obtain ⟨qs, h1, h2⟩ := I.path y hy
      exact ⟨qs, keepT _ _ h1, by omega⟩
    · rw [List.mem_singleton] at hy
      subst hy
      exact ⟨ps, keepT _ _ ht, hps⟩
  · rcases List.mem_append.mp hy with hy | hy
    · exact I.reach y hy
    · rw [List.mem_singleton] at hy
      subst hy
      obtain ⟨_, hs, h1, h2⟩ := I.reach x hx
      refine ⟨hne, hs ++ [v], fun u hu => ?_, ?_⟩
      · rcases List.mem_append.mp hu with hu | hu
        · exact h1 u hu
        · rw [List.mem_singleton] at hu
          subst hu
          exact hv
      · show gl w x.1 v = _
        rw [placesBy_snoc, ← h2]
end
end HX
namespace HX
open PySem PySem.Spec PyProof.Rows L2 HW
def un (k : List Key) : List Nat := k.map fun | .inl i => i.toNat | .inr _ => 0
theorem un_kk (L : List Nat) : un (kk L) = L := by
  unfold un kk
  rw [List.map_map]
  conv => rhs; rw [← List.map_id L]
  exact List.map_congr_left fun x _ => by simp
def ksL (xs : LX) : List (List Key × Addr) := xs.map fun x => (kk x.1, x.2.1)
abbrev fI (w : Wt) (j : Nat) : List Key → Int := fun k => it w j (un k)
theorem ksL_keys (xs : LX) : (ksL xs).map (·.1) = (xs.map (·.1)).map kk := by
  unfold ksL
  rw [List.map_map, List.map_map] <;> rfl
theorem ksL_length (xs : LX) : (ksL xs).length = xs.length := by simp [ksL]
theorem tabN_keys (ks : List (List Key × Addr)) (f : List Key → Int) : (tabN ks f).map (·.1) = ks.map (·.1) := by
  unfold tabN
  rw [List.map_map] <;> rfl
theorem ksL_nodup {xs : LX} (nd : (xs.map (·.1)).Nodup) : ((ksL xs).map (·.1)).Nodup := by
  rw [ksL_keys]
  exact List.Pairwise.map _ (fun a b hab z => hab (kk_inj z)) nd
theorem tabN_val {xs : LX} (nd : (xs.map (·.1)).Nodup) (f : List Key → Int) {G : List Nat} (hG : G ∈ xs.map (·.1)) : valD (tabN (ksL xs) f) (kk G) = some (.int (f (kk G))) := by
  obtain ⟨x, hx, rfl⟩ := List.mem_map.mp hG
  exact valD_some (by rw [tabN_keys]; exact ksL_nodup nd) (p := (kk x.1, x.2.1, V.int (f (kk x.1)))) (List.mem_map.mpr ⟨(kk x.1, x.2.1), List.mem_map.mpr ⟨x, hx, rfl⟩, rfl⟩)
theorem tabN_put {xs : LX} (nd : (xs.map (·.1)).Nodup) (f : List Key → Int) {i : Nat} {x : List Nat × Addr × Addr} (h : xs[i]? = some x) {z : Int} (hz : z = f (kk x.1)) : putD (tabN (ksL (xs.take i)) f) (kk x.1) x.2.1 (.int z) = tabN (ksL (xs.take (i + 1))) f := by
  subst hz
  have hn : kk x.1 ∉ (tabN (ksL (xs.take i)) f).map (·.1) := fun hm => by
    rw [tabN_keys, ksL_keys] at hm
    obtain ⟨M, hM, e⟩ := List.mem_map.mp hm
    rw [kk_inj e, List.map_take] at hM
    obtain ⟨j, hj⟩ := List.mem_iff_getElem?.mp hM
    have hji : j < i := by
      have := (List.getElem?_eq_some_iff.mp hj).1
      rw [List.length_take] at this
      omega
    rw [List.getElem?_take_of_lt hji] at hj
    have a2 : (xs.map (·.1))[i]? = some x.1 := by rw [List.getElem?_map, h] <;> rfl
    have := (List.getElem?_inj (List.getElem?_eq_some_iff.mp hj).1 nd).mp (hj.trans a2.symm)
    omega
  unfold putD
  rw [valD_none hn, if_neg (by simp)]
  have e : xs.take (i + 1) = xs.take i ++ [x] := by rw [List.take_add_one, h] <;> rfl
  rw [e]
  unfold tabN ksL
  rw [List.map_append, List.map_append] <;> rfl
theorem ksL_ok {K : PySem.W.Frag} {H : Hp} {xs : LX} (h : ∀ x ∈ xs, SqT K H x.2.1 (nvs x.1)) : ∀ k ∈ ksL xs, SqT K H k.2 (k.1.map kV) := fun k hk => by
  obtain ⟨x, hx, rfl⟩ := List.mem_map.mp hk
  show SqT K H x.2.1 ((kk x.1).map kV)
  rw [kk_V]
  exact h x hx
theorem tab_kok {K : PySem.W.Frag} {H : Hp} {xs : LX} (h : ∀ x ∈ xs, SqT K H x.2.1 (nvs x.1)) (f : List Key → Int) : KOk K H (tabN (ksL xs) f) := fun p hp => by
  obtain ⟨k, hk, rfl⟩ := List.mem_map.mp hp
  exact ksL_ok h k hk
theorem still_iff {w : Wt} {xs : LX} {j : Nat} : (∀ k ∈ ksL xs, fI w (j + 1) k.1 = fI w j k.1) ↔ Still w (xs.map (·.1)) j := by
  constructor
  · intro h l hl
    obtain ⟨x, hx, rfl⟩ := List.mem_map.mp hl
    have := h (kk x.1, x.2.1) (List.mem_map.mpr ⟨x, hx, rfl⟩)
    simpa [fI, un_kk] using this
  · intro h k hk
    obtain ⟨x, hx, rfl⟩ := List.mem_map.mp hk
    have := h x.1 (List.mem_map.mpr ⟨x, hx, rfl⟩)
    simpa [fI, un_kk] using this
end HX
end
section
set_option Elab.async false
set_option linter.all false
set_option maxRecDepth 100000
set_option maxHeartbeats 4000000
/-! An observer as it stands. -/
namespace HX
open PySem PySem.Spec PyProof.Rows L2 HW
structure Ways (w : Wt) (m : CM) : Prop where
  nd : (m.map (·.1)).Nodup
  lt : ∀ p ∈ m.map (·.1), p < w.n
abbrev fs4 (p l h t : Addr) : List (Str × V) := [("own_watch", .ref p), ("own_line", .ref l), ("own_heard", .ref h), ("own_later", .ref t)]
theorem fs_wl : (("own_line" : Str) == "own_watch") = false := by decide +kernel
theorem fs_wh : (("own_heard" : Str) == "own_watch") = false := by decide +kernel
theorem fs_wt : (("own_later" : Str) == "own_watch") = false := by decide +kernel
theorem fs_lh : (("own_heard" : Str) == "own_line") = false := by decide +kernel
theorem fs_lt : (("own_later" : Str) == "own_line") = false := by decide +kernel
theorem fs_ht : (("own_later" : Str) == "own_heard") = false := by decide +kernel
theorem fn_of_beq {a b : Str} (h : (a == b) = false) : ¬ b = a := fun e => by
  subst e
  rw [beq_self_eq_true] at h
  cases h
theorem fs4_watch (p l h t : Addr) : (fs4 p l h t).lookup ("own_watch" : Str) = some (.ref p) := rfl
theorem fs4_line (p l h t : Addr) : (fs4 p l h t).lookup ("own_line" : Str) = some (.ref l) := by simp [fs4, List.lookup, fs_wl]
theorem fs4_heard (p l h t : Addr) : (fs4 p l h t).lookup ("own_heard" : Str) = some (.ref h) := by simp [fs4, List.lookup, fs_wh, fs_lh]
abbrev fs1 (p : Addr) : List (Str × V) := [("own_watch", .ref p)]
abbrev fs2 (p l : Addr) : List (Str × V) := [("own_watch", .ref p), ("own_line", .ref l)]
abbrev fs3 (p l h : Addr) : List (Str × V) := [("own_watch", .ref p), ("own_line", .ref l), ("own_heard", .ref h)]
theorem put1 (p : Addr) : putF "own_watch" (.ref p) [] = fs1 p := rfl
theorem put2 (p l : Addr) : putF "own_line" (.ref l) (fs1 p) = fs2 p l := by
  unfold fs1 fs2
  rw [putF, if_neg (fn_of_beq fs_wl), putF]
theorem put3 (p l h : Addr) : putF "own_heard" (.ref h) (fs2 p l) = fs3 p l h := by
  unfold fs2 fs3
  rw [putF, if_neg (fn_of_beq fs_wh), putF, if_neg (fn_of_beq fs_lh), putF]
theorem put4 (p l h t : Addr) : putF "own_later" (.ref t) (fs3 p l h) = fs4 p l h t := by
  unfold fs3 fs4
  rw [putF, if_neg (fn_of_beq fs_wt), putF, if_neg (fn_of_beq fs_lt), putF, if_neg (fn_of_beq fs_ht), putF]
theorem put5 (p l h t t2 : Addr) : putF "own_later" (.ref t2) (fs4 p l h t) = fs4 p l h t2 := by
  unfold fs4
  rw [putF, if_neg (fn_of_beq fs_wt), putF, if_neg (fn_of_beq fs_lt), putF, if_neg (fn_of_beq fs_ht), putF, if_pos rfl]
/-- the observer at o: its list of what was, its list of verdicts, its watch -/
structure ObsAt (CO CW : Addr) (K : PySem.W.Frag) (H : Hp) (o l h p : Addr) (w : Wt) (L : List Nat) (nh : Nat) : Prop where
  ins : ∃ dx t, H o = some (.ins CO dx (fs4 p l h t))
  watch : WatchAt CW H p w
  line : ∃ items tr, H l = some (.lst (items ++ [V.ref tr])) ∧ items.length = nh ∧ ∃ (a d wo : Addr) (m : CM) (ws : List Addr), H tr = some (.tup [.ref a, .ref d, .ref wo]) ∧ SqT K H a (nvs L) ∧ H d = some (.dK (cK m)) ∧ Ways w m ∧ H wo = some (.tup (ws.map V.ref)) ∧ (∀ x ∈ ws, ∃ l, SqT K H x (nvs l) ∧ ∀ g ∈ l, g < w.n) ∧ ws.length ≤ 4
  heard : ∃ hs, H h = some (.lst hs) ∧ hs.length = nh
  lh : l ≠ h
  lot : Lot w L
theorem ObsAt.gr {CO CW : Addr} {K : PySem.W.Frag} {H H' : Hp} {o l h p : Addr} {w : Wt} {L : List Nat} {nh : Nat} {ms : List Addr} (O : ObsAt CO CW K H o l h p w L nh) (g : Gr ms H H') (ho : o ∉ ms) (hl : l ∉ ms) (hh : h ∉ ms) (hp : p ∉ ms) (hk : ∀ m ∈ ms, ∀ kvs, H m ≠ some (.dK kvs)) : ObsAt CO CW K H' o l h p w L nh := by
  obtain ⟨⟨dx, t, h1⟩, h2, ⟨items, tr, h3, h4, a, d, wo, m, ws, h5, h6, h7, h8, h9, h10, h11⟩, ⟨hs, h12, h13⟩, h14, h15⟩ := O
  exact ⟨⟨dx, t, g _ _ h1 fun z => absurd z ho⟩, h2.gr g hp, ⟨items, tr, g _ _ h3 fun z => absurd z hl, h4, a, d, wo, m, ws, g.tup h5, g.sqT h6, g _ _ h7 fun z => absurd h7 (hk d z _), h8, g.tup h9, fun x hx => let ⟨l, e1, e2⟩ := h10 x hx; ⟨l, g.sqT e1, e2⟩, h11⟩, ⟨hs, g _ _ h12 fun z => absurd z hh, h13⟩, h14, h15⟩
theorem ObsAt.gr0 {CO CW : Addr} {K : PySem.W.Frag} {H H' : Hp} {o l h p : Addr} {w : Wt} {L : List Nat} {nh : Nat} (O : ObsAt CO CW K H o l h p w L nh) (g : Gr [] H H') : ObsAt CO CW K H' o l h p w L nh :=
  O.gr g (by simp) (by simp) (by simp) (by simp) (by simp)
theorem last_at {α : Type} (xs : List α) (x : α) : atI (xs ++ [x]) (-1) = some x := by
  unfold atI ixN
  rw [List.length_append, List.length_singleton]
  have h0 : ¬ (0 ≤ (-1 : Int)) := by omega
  rw [if_neg h0]
  have h1 : -(((xs.length + 1 : Nat)) : Int) ≤ -1 := by omega
  rw [if_pos h1]
  have h2 : ((-1 : Int) + ((xs.length + 1 : Nat) : Int)).toNat = xs.length := by omega
  rw [h2]
  show (xs ++ [x])[xs.length]? = some x
  simp
end HX
end
section
set_option Elab.async false
set_option linter.all false
set_option maxRecDepth 100000
set_option maxHeartbeats 4000000
/-! The tape of drawn numbers; data compared. -/
namespace HX
open PySem PySem.Spec PyProof.Rows L2 HW
def tk (l : Addr) (r : Int) (c : Addr) (t : Int) : List (Key × V) := [(Sum.inr "large", .ref l), (Sum.inr "rest", .int r), (Sum.inr "cells", .ref c), (Sum.inr "turn", .int t)]
theorem k_rl : ¬ ((Sum.inr ("large" : Str) : Key) = Sum.inr ("rest" : Str)) := by decide +kernel
theorem k_cl : ¬ ((Sum.inr ("large" : Str) : Key) = Sum.inr ("cells" : Str)) := by decide +kernel
theorem k_tl : ¬ ((Sum.inr ("large" : Str) : Key) = Sum.inr ("turn" : Str)) := by decide +kernel
theorem k_cr : ¬ ((Sum.inr ("rest" : Str) : Key) = Sum.inr ("cells" : Str)) := by decide +kernel
theorem k_tr : ¬ ((Sum.inr ("rest" : Str) : Key) = Sum.inr ("turn" : Str)) := by decide +kernel
theorem k_tc : ¬ ((Sum.inr ("cells" : Str) : Key) = Sum.inr ("turn" : Str)) := by decide +kernel
theorem k_rt : ¬ ((Sum.inr ("turn" : Str) : Key) = Sum.inr ("rest" : Str)) := by decide +kernel
theorem k_rc : ¬ ((Sum.inr ("cells" : Str) : Key) = Sum.inr ("rest" : Str)) := by decide +kernel
theorem tk_large (l : Addr) (r : Int) (c : Addr) (t : Int) : valV (tk l r c t) (Sum.inr ("large" : Str)) = some (.ref l) := valV_pos rfl
theorem tk_rest (l : Addr) (r : Int) (c : Addr) (t : Int) : valV (tk l r c t) (Sum.inr ("rest" : Str)) = some (.int r) := by
  unfold tk
  rw [valV_neg k_rl, valV_pos rfl]
theorem tk_cells (l : Addr) (r : Int) (c : Addr) (t : Int) : valV (tk l r c t) (Sum.inr ("cells" : Str)) = some (.ref c) := by
  unfold tk
  rw [valV_neg k_cl, valV_neg k_cr, valV_pos rfl]
theorem tk_turn (l : Addr) (r : Int) (c : Addr) (t : Int) : valV (tk l r c t) (Sum.inr ("turn" : Str)) = some (.int t) := by
  unfold tk
  rw [valV_neg k_tl, valV_neg k_tr, valV_neg k_tc, valV_pos rfl]
theorem tk_put_turn (l : Addr) (r : Int) (c : Addr) (t u : Int) : putK (tk l r c t) (Sum.inr ("turn" : Str)) (.int u) = tk l r c u := by
  unfold putK
  have e : ((tk l r c t).any fun kv => decide (kv.1 = Sum.inr ("turn" : Str))) = true := by
    rw [valV_any, tk_turn] <;> rfl
  rw [if_pos e]
  unfold tk
  rw [List.map_cons, List.map_cons, List.map_cons, List.map_cons, List.map_nil, if_neg k_tl, if_neg k_tr, if_neg k_tc, if_pos rfl]
theorem tk_put_rest (l : Addr) (r : Int) (c : Addr) (t u : Int) : putK (tk l r c t) (Sum.inr ("rest" : Str)) (.int u) = tk l u c t := by
  unfold putK
  have e : ((tk l r c t).any fun kv => decide (kv.1 = Sum.inr ("rest" : Str))) = true := by
    rw [valV_any, tk_rest] <;> rfl
  rw [if_pos e]
  unfold tk
  rw [List.map_cons, List.map_cons, List.map_cons, List.map_cons, List.map_nil, if_neg k_rl, if_pos rfl, if_neg k_rc, if_neg k_rt]
/-- the tape at d, its list of large numbers at l, its cells at c -/
structure TapeAt (H : Hp) (d l c : Addr) : Prop where
  tape : ∃ r t, H d = some (.dK (tk l r c t))
  large : ∃ ns : List Int, H l = some (.lst (ns.map V.int))
  cells : ∃ ns : List Int, H c = some (.lst (ns.map V.int))
  apart : l ≠ c
theorem TapeAt.gx {H H' : Hp} {d l c : Addr} {ms : List Addr} (T : TapeAt H d l c) (g : Gx ms H H') (hd : d ∉ ms) (hl : l ∉ ms) (hc : c ∉ ms) : TapeAt H' d l c := by
  obtain ⟨⟨r, t, h1⟩, ⟨ns, h2⟩, ⟨ms, h3⟩, h4⟩ := T
  exact ⟨⟨r, t, g _ _ h1 (fun z => absurd z hd) fun _ z => nomatch z⟩, ⟨ns, g.lst h2 hl⟩, ⟨ms, g.lst h3 hc⟩, h4⟩
theorem TapeAt.gr0 {H H' : Hp} {d l c : Addr} (T : TapeAt H d l c) (g : Gr [] H H') : TapeAt H' d l c := T.gx g.gx (by simp) (by simp) (by simp)
/-! ### data compared -/
theorem dp_ints {K : PySem.W.Frag} {H : Hp} : ∀ ns : List Int, DpAll K H (ns.map V.int) (ns.map PyData.int)
  | [] => .nil
  | n :: ns => .cons (.int n) (dp_ints ns)
theorem dp_nvs {K : PySem.W.Frag} {H : Hp} (l : List Nat) : DpAll K H (nvs l) ((l.map fun g : Nat => (g : Int)).map PyData.int) := by
  rw [nvs_map]
  exact dp_ints _
theorem shapedT (ns : List Int) : SeqAt.shaped (.tuple (ns.map PyData.int)) = true := by
  have h1 := PySem.W.depthAll_ints ns
  have h2 : PyData.depth (.tuple (ns.map PyData.int)) ≤ 64 := by simp only [PyData.depth]; omega
  show (PyData.canLay0 (.tuple (ns.map PyData.int)) && decide (PyData.depth (.tuple (ns.map PyData.int)) ≤ 64)) = true
  rw [Bool.and_eq_true]
  exact ⟨by simp only [PyData.canLay0]; exact PySem.W.canLayAll0_ints ns, decide_eq_true h2⟩
theorem eqv_list (ns ms : List Int) : PyData.eqv (.list (ns.map PyData.int)) (.list (ms.map PyData.int)) = decide (ns = ms) := by
  rw [← SeqAt.same_eq_eqv _ _ (by simp only [SeqAt.noMix]; exact PySem.W.noMix_ints ns ms)]
  simp only [PySem.Spec.same]
  exact PySem.W.same_ints ns ms
theorem eqv_tup (ns ms : List Int) : PyData.eqv (.tuple (ns.map PyData.int)) (.tuple (ms.map PyData.int)) = decide (ns = ms) := by
  rw [← SeqAt.same_eq_eqv _ _ (by simp only [SeqAt.noMix]; exact PySem.W.noMix_ints ns ms)]
  simp only [PySem.Spec.same]
  exact PySem.W.same_ints ns ms
end HX
end
section
set_option Elab.async false
set_option linter.all false
set_option maxRecDepth 100000
set_option maxHeartbeats 4000000
/-! Ways as a list by places. -/
namespace HX
open PySem PySem.Spec PyProof.Rows L2 HW
/-- Σ of ways by places -/
def totL (ws : List Nat) (f : Nat → Nat) : Nat := ((List.range ws.length).map fun p => ws.getD p 0 * f p).sum
theorem sum_at {n g : Nat} (hg : g < n) (a b : Nat → Nat) (c : Nat) (h1 : b g = a g + c) (h2 : ∀ p, p ≠ g → b p = a p) : ((List.range n).map b).sum = ((List.range n).map a).sum + c := by
  induction n with
  | zero => omega
  | succ n ih =>
    rw [List.range_succ, List.map_append, List.map_append, List.sum_append, List.sum_append]
    simp only [List.map_cons, List.map_nil, List.sum_cons, List.sum_nil, Nat.add_zero]
    by_cases e : g = n
    · subst e
      have : (List.range g).map b = (List.range g).map a := List.map_congr_left fun p hp => h2 p (by have := List.mem_range.mp hp; omega)
      rw [this, h1]
      omega
    · rw [ih (by omega), h2 n (fun z => e z.symm)]
      omega
theorem totL_set {ws : List Nat} {g : Nat} (hg : g < ws.length) (c : Nat) (f : Nat → Nat) : totL (ws.set g (ws.getD g 0 + c)) f = totL ws f + c * f g := by
  unfold totL
  rw [List.length_set]
  refine sum_at hg _ _ (c * f g) ?_ fun p hp => ?_
  · rw [List.getD_eq_getElem?_getD, List.getElem?_set_self (by simpa using hg)]
    simp [Nat.add_mul]
  · rw [List.getD_eq_getElem?_getD, List.getElem?_set_ne (fun z => hp z.symm), List.getD_eq_getElem?_getD]
theorem totL_zero (n : Nat) (f : Nat → Nat) : totL (List.replicate n 0) f = 0 := by
  unfold totL
  have : ∀ m, ((List.range m).map fun p => (List.replicate n 0).getD p 0 * f p).sum = 0 := fun m => by
    induction m with
    | zero => rfl
    | succ m ih =>
      rw [List.range_succ, List.map_append, List.sum_append, ih]
      simp only [List.getD_eq_getElem?_getD, List.getElem?_replicate, List.map_cons, List.map_nil, List.sum_cons, List.sum_nil]
      split <;> simp
  exact this _
theorem totL_one (n : Nat) (f : Nat → Nat) : totL (1 :: List.replicate n 0) f = f 0 := by
  unfold totL
  have h := sum_at (n := (1 :: List.replicate n 0).length) (g := 0) (by simp) (fun _ => 0) (fun p => (1 :: List.replicate n 0).getD p 0 * f p) (f 0) (by simp) (fun p hp => by
    cases p with
    | zero => exact absurd rfl hp
    | succ p =>
      simp only [List.getD_eq_getElem?_getD, List.getElem?_cons_succ, List.getElem?_replicate]
      split <;> simp)
  rw [h]
  have : ((List.range (1 :: List.replicate n 0).length).map fun _ => 0).sum = 0 := by
    have : ∀ m, ((List.range m).map fun _ => 0).sum = 0 := fun m => by
      induction m with
      | zero => rfl
      | succ m ih => rw [List.range_succ, List.map_append, List.sum_append, ih] <;> rfl
    exact this _
  omega
theorem totL_sum (ws : List Nat) : totL ws (fun _ => 1) = ws.sum := by
  unfold totL
  have : (List.range ws.length).map (fun p => ws.getD p 0 * 1) = ws := by
    apply List.ext_getElem (by simp)
    intro i h1 h2
    simp [List.getD_eq_getElem?_getD, h2]
  rw [this]
/-- the first j places' share -/
def totLj (w : Wt) (v : Nat) (ws : List Nat) (j : Nat) (f : Nat → Nat) : Nat := ((List.range j).map fun p => ws.getD p 0 * stepF w v f p).sum
theorem totLj_succ (w : Wt) (v : Nat) (ws : List Nat) (j : Nat) (f : Nat → Nat) : totLj w v ws (j + 1) f = totLj w v ws j f + ws.getD j 0 * stepF w v f j := by
  unfold totLj
  rw [List.range_succ, List.map_append, List.sum_append]
  simp
theorem nvs_set (ws : List Nat) (g x : Nat) : (nvs ws).set g (.int (x : Int)) = nvs (ws.set g x) := by
  unfold nvs
  rw [List.map_set]
theorem nvs_sum (ws : List Nat) : (ws.map fun g : Nat => (g : Int)).sum = (ws.sum : Int) := by
  induction ws with
  | nil => rfl
  | cons x ws ih =>
    rw [List.map_cons, List.sum_cons, List.sum_cons, ih]
    simp
end HX
end
section
set_option Elab.async false
set_option linter.all false
set_option maxRecDepth 100000
set_option maxHeartbeats 4000000
/-! What the top leaves, as one structure (printed by gen_facts.py). -/
namespace K75
open PySem PySem.Spec PyProof.Rows L2
def top (i : Nat) : Stmt := PySem.Challenge.pw_heardwatch_k75_whole_hearing_in_two_piec.main.body.getD i (.Pass ⟨0, 0, 0, 0⟩)
def DD (K : PySem.W.Frag) (mg : Str → Option Value) (x : Str) (st : Stmt) : Prop := ∃ f fd, C8.Def K mg x st f fd ∧ fd.defaults = .none
def DT (K : PySem.W.Frag) (mg : Str → Option Value) (base : Heap) (x : Str) (st : Stmt) (T : Addr) : Prop := ∃ f fd c, C8.Def K mg x st f fd ∧ fd.defaults = .none ∧ fd.code = .ref c ∧ LamX.TabB base mg c T
def DN1 (K : PySem.W.Frag) (mg : Str → Option Value) (x : Str) (st : Stmt) : Prop := ∃ f fd, FunD K x x (C8.fnArgs st) (C8.fnBody st) (C8.fnScope st) [.non] [] f fd ∧ mg x = some (.ref f)
def MK (K : PySem.W.Frag) (C : Addr) (q : Str) (st : Stmt) : Prop := ∃ f fd, Mk K C f ∧ C8.Fun K "__init__" q st f fd ∧ fd.defaults = .none
def MM (K : PySem.W.Frag) (C : Addr) (m q : Str) (st : Stmt) : Prop := ∃ f fd, Meth K C m f ∧ C8.Fun K m q st f fd ∧ fd.defaults = .none
def PP (K : PySem.W.Frag) (C : Addr) (m q : Str) (st : Stmt) : Prop := ∃ p f fd, PropOf K C m p f ∧ C8.Fun K m q st f fd ∧ fd.defaults = .none
theorem fun_c8 {K : PySem.W.Frag} {x q : Str} {st : Stmt} {f : Addr} {oc kV doc pm cdv ct : Value} {dV : Value} {od an : Option Addr} {osl : Array (Option Value)} (l : K.lookup f = some ⟨oc, od, .func (PySem.W.fnOf x q (C8.fnArgs st) (C8.fnBody st) (C8.fnScope st) dV kV doc pm an cdv ct), osl⟩) (c : PySem.W.codeIn K cdv q = true) :
    C8.Fun K x q st f (PySem.W.fnOf x q (C8.fnArgs st) (C8.fnBody st) (C8.fnScope st) dV kV doc pm an cdv ct) := ⟨oc, od, dV, kV, doc, pm, an, cdv, ct, osl, rfl, l, c⟩
abbrev s_is_number : Stmt := top 11
abbrev s_is_between : Stmt := top 12
abbrev s_is_list : Stmt := top 13
abbrev s_first_wrong : Stmt := top 18
abbrev s_is_word : Stmt := top 19
abbrev s_is_line : Stmt := top 22
abbrev s_need_moves : Stmt := top 23
abbrev s_need_words : Stmt := top 24
abbrev s_need_watch : Stmt := top 26
abbrev s_is_heard : Stmt := top 29
abbrev s_need_heard : Stmt := top 30
abbrev s_words_behind : Stmt := top 31
abbrev s_places_by : Stmt := top 32
abbrev s_can_be : Stmt := top 33
abbrev s_lots_by : Stmt := top 34
abbrev s_rows_count : Stmt := top 35
abbrev s_ways_behind : Stmt := top 37
abbrev s_without_behind : Stmt := top 38
abbrev s_numbers_by : Stmt := top 41
abbrev s_settles_after : Stmt := top 42
abbrev s_law_begun : Stmt := top 44
abbrev s_law_blend : Stmt := top 45
abbrev s_law_draw : Stmt := top 46
abbrev s_law_pick : Stmt := top 47
abbrev s_law_watch : Stmt := top 48
abbrev s_law_made : Stmt := top 49
abbrev s_law_wide : Stmt := top 50
abbrev s_law_told : Stmt := top 51
abbrev s_law_next_lots : Stmt := top 52
abbrev s_law_can_be : Stmt := top 53
abbrev s_law_fit_many : Stmt := top 54
abbrev s_law_drawn_heard : Stmt := top 55
abbrev s_law_begun_at : Stmt := top 56
abbrev s_law_there : Stmt := top 57
abbrev s_law : Stmt := top 58
abbrev s_Watch_init : Stmt := inClass (top 25) 0
abbrev s_Watch_moves : Stmt := inClass (top 25) 1
abbrev s_Watch_words : Stmt := inClass (top 25) 2
abbrev s_Watch_kinds : Stmt := inClass (top 25) 3
abbrev s_Watch_eq : Stmt := inClass (top 25) 4
abbrev s_Observer_init : Stmt := inClass (top 39) 0
abbrev s_Observer_watch : Stmt := inClass (top 39) 1
abbrev s_Observer_hear : Stmt := inClass (top 39) 2
abbrev s_Observer_undo : Stmt := inClass (top 39) 3
abbrev s_Observer_redo : Stmt := inClass (top 39) 4
abbrev s_Observer_log : Stmt := inClass (top 39) 5
abbrev s_Observer_can_hear : Stmt := inClass (top 39) 6
abbrev s_Observer_at : Stmt := inClass (top 39) 7
abbrev s_Observer_many : Stmt := inClass (top 39) 8
abbrev s_Observer_is_found : Stmt := inClass (top 39) 9
abbrev s_Observer_eq : Stmt := inClass (top 39) 10
structure Txt (K : PySem.W.Frag) (mg : Str → Option Value) (base : Heap) (CWatch CObserver : Addr) : Prop where
  d_is_number : DD K mg "is_number" (top 11)
  d_is_between : DD K mg "is_between" (top 12)
  d_is_list : DD K mg "is_list" (top 13)
  d_first_wrong : DD K mg "first_wrong" (top 18)
  d_is_word : DD K mg "is_word" (top 19)
  d_is_line : DD K mg "is_line" (top 22)
  d_need_moves : DT K mg base "need_moves" (top 23) 178
  d_need_words : DD K mg "need_words" (top 24)
  d_need_watch : DN1 K mg "need_watch" (top 26)
  d_is_heard : DD K mg "is_heard" (top 29)
  d_need_heard : DD K mg "need_heard" (top 30)
  d_words_behind : DD K mg "words_behind" (top 31)
  d_places_by : DD K mg "places_by" (top 32)
  d_can_be : DD K mg "can_be" (top 33)
  d_lots_by : DD K mg "lots_by" (top 34)
  d_rows_count : DD K mg "rows_count" (top 35)
  d_ways_behind : DD K mg "ways_behind" (top 37)
  d_without_behind : DD K mg "without_behind" (top 38)
  d_numbers_by : DD K mg "numbers_by" (top 41)
  d_settles_after : DD K mg "settles_after" (top 42)
  d_law_begun : DD K mg "_law_begun" (top 44)
  d_law_blend : DD K mg "_law_blend" (top 45)
  d_law_draw : DD K mg "_law_draw" (top 46)
  d_law_pick : DD K mg "_law_pick" (top 47)
  d_law_watch : DD K mg "_law_watch" (top 48)
  d_law_made : DD K mg "_law_made" (top 49)
  d_law_wide : DD K mg "_law_wide" (top 50)
  d_law_told : DD K mg "_law_told" (top 51)
  d_law_next_lots : DD K mg "_law_next_lots" (top 52)
  d_law_can_be : DD K mg "_law_can_be" (top 53)
  d_law_fit_many : DD K mg "_law_fit_many" (top 54)
  d_law_drawn_heard : DD K mg "_law_drawn_heard" (top 55)
  d_law_begun_at : DD K mg "_law_begun_at" (top 56)
  d_law_there : DD K mg "_law_there" (top 57)
  mgWatch : mg "Watch" = some (.ref CWatch)
  kpWatch : PySem.W.keepIn K (.ref CWatch) = true
  clWatch : Cls K CWatch
  isWatch : C8.InsC K CWatch
  nWatch_own_moves : NoAttr K CWatch "own_moves"
  nWatch_own_words : NoAttr K CWatch "own_words"
  mWatch : MK K CWatch "Watch.__init__" (inClass (top 25) 0)
  pWatch_moves : PP K CWatch "moves" "Watch.moves" (inClass (top 25) 1)
  pWatch_words : PP K CWatch "words" "Watch.words" (inClass (top 25) 2)
  pWatch_kinds : PP K CWatch "kinds" "Watch.kinds" (inClass (top 25) 3)
  mgObserver : mg "Observer" = some (.ref CObserver)
  kpObserver : PySem.W.keepIn K (.ref CObserver) = true
  clObserver : Cls K CObserver
  nObserver_own_watch : NoAttr K CObserver "own_watch"
  nObserver_own_line : NoAttr K CObserver "own_line"
  nObserver_own_heard : NoAttr K CObserver "own_heard"
  nObserver_own_later : NoAttr K CObserver "own_later"
  mObserver : MK K CObserver "Observer.__init__" (inClass (top 39) 0)
  mObserver_hear : MM K CObserver "hear" "Observer.hear" (inClass (top 39) 2)
  mObserver_can_hear : MM K CObserver "can_hear" "Observer.can_hear" (inClass (top 39) 6)
  mObserver_at : MM K CObserver "at" "Observer.at" (inClass (top 39) 7)
  mObserver_many : MM K CObserver "many" "Observer.many" (inClass (top 39) 8)
  g_MOST_EVENTS : ∃ u, mg "MOST_EVENTS" = some u ∧ RelV (.int 300) u
  g_MOST_KINDS : ∃ u, mg "MOST_KINDS" = some u ∧ RelV (.int 4) u
  g_MOST_WORD : ∃ u, mg "MOST_WORD" = some u ∧ RelV (.int 3) u
  g_MOST_PLACES : ∃ u, mg "MOST_PLACES" = some u ∧ RelV (.int 6) u
  g_FIRST : ∃ a, mg "FIRST" = some (.ref a) ∧ ∀ H, SqT K H a [.int 0]
  z_abs : mg "abs" = none
  z_all : mg "all" = none
  z_bool : mg "bool" = none
  z_enumerate : mg "enumerate" = none
  z_int : mg "int" = none
  z_isinstance : mg "isinstance" = none
  z_len : mg "len" = none
  z_list : mg "list" = none
  z_max : mg "max" = none
  z_min : mg "min" = none
  z_property : mg "property" = none
  z_range : mg "range" = none
  z_set : mg "set" = none
  z_sorted : mg "sorted" = none
  z_sum : mg "sum" = none
  z_tuple : mg "tuple" = none
/-- what the law's end asks of the def law -/
def LawOk (l : PySem.W.OpenLaw) (w : World) (k : Nat) (sp : PySem.W.Frag → (Str → Option Value) → Sp) : Prop := ∀ (K : PySem.W.Frag) (mg : Str → Option Value) (base : Heap) (CWatch CObserver f : Addr) (fd : FuncData), Txt K mg base CWatch CObserver → C8.Fun K "law" "law" (top 58) f fd → fd.defaults = .none → FnOk l.prog w K mg base C8.CX0 k f fd ["script"] (sp K mg)
theorem all_mk {l : PySem.W.OpenLaw} {k : Nat} {w : World} {K : PySem.W.Frag} {h : Heap} {mg : Str → Option Value} {fa : Addr} {sp : PySem.W.Frag → (Str → Option Value) → Sp} (hL : LawOk l w k sp) (X : K.In h) (G : h.Ns mainGlobals mg) (hfa : mg "law" = some (.ref fa))
    (hTab : ∀ P ∈ [178], h.get? P = some (PySem.W.tabObj #[]))
    {f2 : Addr}
    {oc3 kV4 dc5 pm6 cd7 ct8 : Value} {od9 an10 : Option Addr} {sl11 : Array (Option Value)}
    {f16 : Addr}
    {oc17 kV18 dc19 pm20 cd21 ct22 : Value} {od23 an24 : Option Addr} {sl25 : Array (Option Value)}
    {f30 : Addr}
    {oc31 kV32 dc33 pm34 cd35 ct36 : Value} {od37 an38 : Option Addr} {sl39 : Array (Option Value)}
    {f44 : Addr}
    {oc45 kV46 dc47 pm48 cd49 ct50 : Value} {od51 an52 : Option Addr} {sl53 : Array (Option Value)}
    {f58 : Addr}
    {oc59 kV60 dc61 pm62 cd63 ct64 : Value} {od65 an66 : Option Addr} {sl67 : Array (Option Value)}
    {f72 : Addr}
    {oc73 kV74 dc75 pm76 cd77 ct78 : Value} {od79 an80 : Option Addr} {sl81 : Array (Option Value)}
    {f86 : Addr}
    {co87 : Addr}
    {oc88 kV89 dc90 pm91 ct93 : Value} {od94 an95 : Option Addr} {sl96 : Array (Option Value)}
    {f103 : Addr}
    {oc104 kV105 dc106 pm107 cd108 ct109 : Value} {od110 an111 : Option Addr} {sl112 : Array (Option Value)}
    {f117 : Addr}
    {T118 : Addr} {nT121 : Nat} {sT120 : Array (Option Value)} {od123 : Option Addr}
    {oc124 kV125 dc126 pm127 cd128 ct129 : Value} {od130 an131 : Option Addr} {sl132 : Array (Option Value)}
    {f138 : Addr}
    {oc139 kV140 dc141 pm142 cd143 ct144 : Value} {od145 an146 : Option Addr} {sl147 : Array (Option Value)}
    {f152 : Addr}
    {oc153 kV154 dc155 pm156 cd157 ct158 : Value} {od159 an160 : Option Addr} {sl161 : Array (Option Value)}
    {f166 : Addr}
    {oc167 kV168 dc169 pm170 cd171 ct172 : Value} {od173 an174 : Option Addr} {sl175 : Array (Option Value)}
    {f180 : Addr}
    {oc181 kV182 dc183 pm184 cd185 ct186 : Value} {od187 an188 : Option Addr} {sl189 : Array (Option Value)}
    {f194 : Addr}
    {oc195 kV196 dc197 pm198 cd199 ct200 : Value} {od201 an202 : Option Addr} {sl203 : Array (Option Value)}
    {f208 : Addr}
    {oc209 kV210 dc211 pm212 cd213 ct214 : Value} {od215 an216 : Option Addr} {sl217 : Array (Option Value)}
    {f222 : Addr}
    {oc223 kV224 dc225 pm226 cd227 ct228 : Value} {od229 an230 : Option Addr} {sl231 : Array (Option Value)}
    {f236 : Addr}
    {oc237 kV238 dc239 pm240 cd241 ct242 : Value} {od243 an244 : Option Addr} {sl245 : Array (Option Value)}
    {f250 : Addr}
    {oc251 kV252 dc253 pm254 cd255 ct256 : Value} {od257 an258 : Option Addr} {sl259 : Array (Option Value)}
    {f264 : Addr}
    {oc265 kV266 dc267 pm268 cd269 ct270 : Value} {od271 an272 : Option Addr} {sl273 : Array (Option Value)}
    {f278 : Addr}
    {oc279 kV280 dc281 pm282 cd283 ct284 : Value} {od285 an286 : Option Addr} {sl287 : Array (Option Value)}
    {f292 : Addr}
    {oc293 kV294 dc295 pm296 cd297 ct298 : Value} {od299 an300 : Option Addr} {sl301 : Array (Option Value)}
    {f306 : Addr}
    {oc307 kV308 dc309 pm310 cd311 ct312 : Value} {od313 an314 : Option Addr} {sl315 : Array (Option Value)}
    {f320 : Addr}
    {oc321 kV322 dc323 pm324 cd325 ct326 : Value} {od327 an328 : Option Addr} {sl329 : Array (Option Value)}
    {f334 : Addr}
    {oc335 kV336 dc337 pm338 cd339 ct340 : Value} {od341 an342 : Option Addr} {sl343 : Array (Option Value)}
    {f348 : Addr}
    {oc349 kV350 dc351 pm352 cd353 ct354 : Value} {od355 an356 : Option Addr} {sl357 : Array (Option Value)}
    {f362 : Addr}
    {oc363 kV364 dc365 pm366 cd367 ct368 : Value} {od369 an370 : Option Addr} {sl371 : Array (Option Value)}
    {f376 : Addr}
    {oc377 kV378 dc379 pm380 cd381 ct382 : Value} {od383 an384 : Option Addr} {sl385 : Array (Option Value)}
    {f390 : Addr}
    {oc391 kV392 dc393 pm394 cd395 ct396 : Value} {od397 an398 : Option Addr} {sl399 : Array (Option Value)}
    {f404 : Addr}
    {oc405 kV406 dc407 pm408 cd409 ct410 : Value} {od411 an412 : Option Addr} {sl413 : Array (Option Value)}
    {f418 : Addr}
    {oc419 kV420 dc421 pm422 cd423 ct424 : Value} {od425 an426 : Option Addr} {sl427 : Array (Option Value)}
    {f432 : Addr}
    {oc433 kV434 dc435 pm436 cd437 ct438 : Value} {od439 an440 : Option Addr} {sl441 : Array (Option Value)}
    {f446 : Addr}
    {oc447 kV448 dc449 pm450 cd451 ct452 : Value} {od453 an454 : Option Addr} {sl455 : Array (Option Value)}
    {f460 : Addr}
    {oc461 kV462 dc463 pm464 cd465 ct466 : Value} {od467 an468 : Option Addr} {sl469 : Array (Option Value)}
    {f474 : Addr}
    {oc475 kV476 dc477 pm478 cd479 ct480 : Value} {od481 an482 : Option Addr} {sl483 : Array (Option Value)}
    {CWatch : Addr}
    {f500 : Addr}
    {oc503 kV504 dc505 pm506 cd507 ct508 : Value} {od509 an510 : Option Addr} {sl511 : Array (Option Value)}
    {p515 : Addr}
    {f516 : Addr}
    {re517 : List Value}
    {oc522 kV523 dc524 pm525 cd526 ct527 : Value} {od528 an529 : Option Addr} {sl530 : Array (Option Value)}
    {p534 : Addr}
    {f535 : Addr}
    {re536 : List Value}
    {oc541 kV542 dc543 pm544 cd545 ct546 : Value} {od547 an548 : Option Addr} {sl549 : Array (Option Value)}
    {p553 : Addr}
    {f554 : Addr}
    {re555 : List Value}
    {oc560 kV561 dc562 pm563 cd564 ct565 : Value} {od566 an567 : Option Addr} {sl568 : Array (Option Value)}
    {CObserver : Addr}
    {f583 : Addr}
    {oc586 kV587 dc588 pm589 cd590 ct591 : Value} {od592 an593 : Option Addr} {sl594 : Array (Option Value)}
    {f598 : Addr}
    {oc601 kV602 dc603 pm604 cd605 ct606 : Value} {od607 an608 : Option Addr} {sl609 : Array (Option Value)}
    {f613 : Addr}
    {oc616 kV617 dc618 pm619 cd620 ct621 : Value} {od622 an623 : Option Addr} {sl624 : Array (Option Value)}
    {f628 : Addr}
    {oc631 kV632 dc633 pm634 cd635 ct636 : Value} {od637 an638 : Option Addr} {sl639 : Array (Option Value)}
    {f643 : Addr}
    {oc646 kV647 dc648 pm649 cd650 ct651 : Value} {od652 an653 : Option Addr} {sl654 : Array (Option Value)}
    {tk658 : Tok}
    {tk660 : Tok}
    {tk662 : Tok}
    {tk664 : Tok}
    {f666 : Addr}
    {od668 : Option Addr} {nn669 : Nat} {sl670 : Array (Option Value)} {tk671 : Tok}
    {f689 : Addr}
    {oc691 kV692 dc693 pm694 cd695 ct696 : Value} {od697 an698 : Option Addr} {sl699 : Array (Option Value)}
    (a1 : PySem.W.nsIn K mainGlobals "is_number" = some (some (.ref f2)))
    (l12 : K.lookup f2 = some ⟨oc3, od9, .func (PySem.W.fnOf "is_number" "is_number" (C8.fnArgs (top 11)) (C8.fnBody (top 11)) (C8.fnScope (top 11)) .none kV4 dc5 pm6 an10 cd7 ct8), sl11⟩)
    (c13 : PySem.W.codeIn K cd7 "is_number" = true)
    (k14 : PySem.W.keepIn K (.ref f2) = true)
    (a15 : PySem.W.nsIn K mainGlobals "is_between" = some (some (.ref f16)))
    (l26 : K.lookup f16 = some ⟨oc17, od23, .func (PySem.W.fnOf "is_between" "is_between" (C8.fnArgs (top 12)) (C8.fnBody (top 12)) (C8.fnScope (top 12)) .none kV18 dc19 pm20 an24 cd21 ct22), sl25⟩)
    (c27 : PySem.W.codeIn K cd21 "is_between" = true)
    (k28 : PySem.W.keepIn K (.ref f16) = true)
    (a29 : PySem.W.nsIn K mainGlobals "is_list" = some (some (.ref f30)))
    (l40 : K.lookup f30 = some ⟨oc31, od37, .func (PySem.W.fnOf "is_list" "is_list" (C8.fnArgs (top 13)) (C8.fnBody (top 13)) (C8.fnScope (top 13)) .none kV32 dc33 pm34 an38 cd35 ct36), sl39⟩)
    (c41 : PySem.W.codeIn K cd35 "is_list" = true)
    (k42 : PySem.W.keepIn K (.ref f30) = true)
    (a43 : PySem.W.nsIn K mainGlobals "first_wrong" = some (some (.ref f44)))
    (l54 : K.lookup f44 = some ⟨oc45, od51, .func (PySem.W.fnOf "first_wrong" "first_wrong" (C8.fnArgs (top 18)) (C8.fnBody (top 18)) (C8.fnScope (top 18)) .none kV46 dc47 pm48 an52 cd49 ct50), sl53⟩)
    (c55 : PySem.W.codeIn K cd49 "first_wrong" = true)
    (k56 : PySem.W.keepIn K (.ref f44) = true)
    (a57 : PySem.W.nsIn K mainGlobals "is_word" = some (some (.ref f58)))
    (l68 : K.lookup f58 = some ⟨oc59, od65, .func (PySem.W.fnOf "is_word" "is_word" (C8.fnArgs (top 19)) (C8.fnBody (top 19)) (C8.fnScope (top 19)) .none kV60 dc61 pm62 an66 cd63 ct64), sl67⟩)
    (c69 : PySem.W.codeIn K cd63 "is_word" = true)
    (k70 : PySem.W.keepIn K (.ref f58) = true)
    (a71 : PySem.W.nsIn K mainGlobals "is_line" = some (some (.ref f72)))
    (l82 : K.lookup f72 = some ⟨oc73, od79, .func (PySem.W.fnOf "is_line" "is_line" (C8.fnArgs (top 22)) (C8.fnBody (top 22)) (C8.fnScope (top 22)) .none kV74 dc75 pm76 an80 cd77 ct78), sl81⟩)
    (c83 : PySem.W.codeIn K cd77 "is_line" = true)
    (k84 : PySem.W.keepIn K (.ref f72) = true)
    (a85 : PySem.W.nsIn K mainGlobals "need_moves" = some (some (.ref f86)))
    (l97 : K.lookup f86 = some ⟨oc88, od94, .func (PySem.W.fnOf "need_moves" "need_moves" (C8.fnArgs (top 23)) (C8.fnBody (top 23)) (C8.fnScope (top 23)) .none kV89 dc90 pm91 an95 (.ref co87) ct93), sl96⟩)
    (c98 : PySem.W.codeIn K (.ref co87) "need_moves" = true)
    (k99 : PySem.W.keepIn K (.ref f86) = true)
    (t100 : PySem.W.codeHdIn K co87 178 = true)
    (t101 : K.lookup 178 = none)
    (a102 : PySem.W.nsIn K mainGlobals "need_words" = some (some (.ref f103)))
    (l113 : K.lookup f103 = some ⟨oc104, od110, .func (PySem.W.fnOf "need_words" "need_words" (C8.fnArgs (top 24)) (C8.fnBody (top 24)) (C8.fnScope (top 24)) .none kV105 dc106 pm107 an111 cd108 ct109), sl112⟩)
    (c114 : PySem.W.codeIn K cd108 "need_words" = true)
    (k115 : PySem.W.keepIn K (.ref f103) = true)
    (a116 : PySem.W.nsIn K mainGlobals "need_watch" = some (some (.ref f117)))
    (l133 : K.lookup f117 = some ⟨oc124, od130, .func (PySem.W.fnOf "need_watch" "need_watch" (C8.fnArgs (top 26)) (C8.fnBody (top 26)) (C8.fnScope (top 26)) (.ref T118) kV125 dc126 pm127 an131 cd128 ct129), sl132⟩)
    (c134 : PySem.W.codeIn K cd128 "need_watch" = true)
    (k135 : PySem.W.keepIn K (.ref f117) = true)
    (t136 : K.lookup T118 = some ⟨.type "tuple", od123, .seq #[.none] nT121, sT120⟩)
    (a137 : PySem.W.nsIn K mainGlobals "is_heard" = some (some (.ref f138)))
    (l148 : K.lookup f138 = some ⟨oc139, od145, .func (PySem.W.fnOf "is_heard" "is_heard" (C8.fnArgs (top 29)) (C8.fnBody (top 29)) (C8.fnScope (top 29)) .none kV140 dc141 pm142 an146 cd143 ct144), sl147⟩)
    (c149 : PySem.W.codeIn K cd143 "is_heard" = true)
    (k150 : PySem.W.keepIn K (.ref f138) = true)
    (a151 : PySem.W.nsIn K mainGlobals "need_heard" = some (some (.ref f152)))
    (l162 : K.lookup f152 = some ⟨oc153, od159, .func (PySem.W.fnOf "need_heard" "need_heard" (C8.fnArgs (top 30)) (C8.fnBody (top 30)) (C8.fnScope (top 30)) .none kV154 dc155 pm156 an160 cd157 ct158), sl161⟩)
    (c163 : PySem.W.codeIn K cd157 "need_heard" = true)
    (k164 : PySem.W.keepIn K (.ref f152) = true)
    (a165 : PySem.W.nsIn K mainGlobals "words_behind" = some (some (.ref f166)))
    (l176 : K.lookup f166 = some ⟨oc167, od173, .func (PySem.W.fnOf "words_behind" "words_behind" (C8.fnArgs (top 31)) (C8.fnBody (top 31)) (C8.fnScope (top 31)) .none kV168 dc169 pm170 an174 cd171 ct172), sl175⟩)
    (c177 : PySem.W.codeIn K cd171 "words_behind" = true)
    (k178 : PySem.W.keepIn K (.ref f166) = true)
    (a179 : PySem.W.nsIn K mainGlobals "places_by" = some (some (.ref f180)))
    (l190 : K.lookup f180 = some ⟨oc181, od187, .func (PySem.W.fnOf "places_by" "places_by" (C8.fnArgs (top 32)) (C8.fnBody (top 32)) (C8.fnScope (top 32)) .none kV182 dc183 pm184 an188 cd185 ct186), sl189⟩)
    (c191 : PySem.W.codeIn K cd185 "places_by" = true)
    (k192 : PySem.W.keepIn K (.ref f180) = true)
    (a193 : PySem.W.nsIn K mainGlobals "can_be" = some (some (.ref f194)))
    (l204 : K.lookup f194 = some ⟨oc195, od201, .func (PySem.W.fnOf "can_be" "can_be" (C8.fnArgs (top 33)) (C8.fnBody (top 33)) (C8.fnScope (top 33)) .none kV196 dc197 pm198 an202 cd199 ct200), sl203⟩)
    (c205 : PySem.W.codeIn K cd199 "can_be" = true)
    (k206 : PySem.W.keepIn K (.ref f194) = true)
    (a207 : PySem.W.nsIn K mainGlobals "lots_by" = some (some (.ref f208)))
    (l218 : K.lookup f208 = some ⟨oc209, od215, .func (PySem.W.fnOf "lots_by" "lots_by" (C8.fnArgs (top 34)) (C8.fnBody (top 34)) (C8.fnScope (top 34)) .none kV210 dc211 pm212 an216 cd213 ct214), sl217⟩)
    (c219 : PySem.W.codeIn K cd213 "lots_by" = true)
    (k220 : PySem.W.keepIn K (.ref f208) = true)
    (a221 : PySem.W.nsIn K mainGlobals "rows_count" = some (some (.ref f222)))
    (l232 : K.lookup f222 = some ⟨oc223, od229, .func (PySem.W.fnOf "rows_count" "rows_count" (C8.fnArgs (top 35)) (C8.fnBody (top 35)) (C8.fnScope (top 35)) .none kV224 dc225 pm226 an230 cd227 ct228), sl231⟩)
    (c233 : PySem.W.codeIn K cd227 "rows_count" = true)
    (k234 : PySem.W.keepIn K (.ref f222) = true)
    (a235 : PySem.W.nsIn K mainGlobals "ways_behind" = some (some (.ref f236)))
    (l246 : K.lookup f236 = some ⟨oc237, od243, .func (PySem.W.fnOf "ways_behind" "ways_behind" (C8.fnArgs (top 37)) (C8.fnBody (top 37)) (C8.fnScope (top 37)) .none kV238 dc239 pm240 an244 cd241 ct242), sl245⟩)
    (c247 : PySem.W.codeIn K cd241 "ways_behind" = true)
    (k248 : PySem.W.keepIn K (.ref f236) = true)
    (a249 : PySem.W.nsIn K mainGlobals "without_behind" = some (some (.ref f250)))
    (l260 : K.lookup f250 = some ⟨oc251, od257, .func (PySem.W.fnOf "without_behind" "without_behind" (C8.fnArgs (top 38)) (C8.fnBody (top 38)) (C8.fnScope (top 38)) .none kV252 dc253 pm254 an258 cd255 ct256), sl259⟩)
    (c261 : PySem.W.codeIn K cd255 "without_behind" = true)
    (k262 : PySem.W.keepIn K (.ref f250) = true)
    (a263 : PySem.W.nsIn K mainGlobals "numbers_by" = some (some (.ref f264)))
    (l274 : K.lookup f264 = some ⟨oc265, od271, .func (PySem.W.fnOf "numbers_by" "numbers_by" (C8.fnArgs (top 41)) (C8.fnBody (top 41)) (C8.fnScope (top 41)) .none kV266 dc267 pm268 an272 cd269 ct270), sl273⟩)
    (c275 : PySem.W.codeIn K cd269 "numbers_by" = true)
    (k276 : PySem.W.keepIn K (.ref f264) = true)
    (a277 : PySem.W.nsIn K mainGlobals "settles_after" = some (some (.ref f278)))
    (l288 : K.lookup f278 = some ⟨oc279, od285, .func (PySem.W.fnOf "settles_after" "settles_after" (C8.fnArgs (top 42)) (C8.fnBody (top 42)) (C8.fnScope (top 42)) .none kV280 dc281 pm282 an286 cd283 ct284), sl287⟩)
    (c289 : PySem.W.codeIn K cd283 "settles_after" = true)
    (k290 : PySem.W.keepIn K (.ref f278) = true)
    (a291 : PySem.W.nsIn K mainGlobals "_law_begun" = some (some (.ref f292)))
    (l302 : K.lookup f292 = some ⟨oc293, od299, .func (PySem.W.fnOf "_law_begun" "_law_begun" (C8.fnArgs (top 44)) (C8.fnBody (top 44)) (C8.fnScope (top 44)) .none kV294 dc295 pm296 an300 cd297 ct298), sl301⟩)
    (c303 : PySem.W.codeIn K cd297 "_law_begun" = true)
    (k304 : PySem.W.keepIn K (.ref f292) = true)
    (a305 : PySem.W.nsIn K mainGlobals "_law_blend" = some (some (.ref f306)))
    (l316 : K.lookup f306 = some ⟨oc307, od313, .func (PySem.W.fnOf "_law_blend" "_law_blend" (C8.fnArgs (top 45)) (C8.fnBody (top 45)) (C8.fnScope (top 45)) .none kV308 dc309 pm310 an314 cd311 ct312), sl315⟩)
    (c317 : PySem.W.codeIn K cd311 "_law_blend" = true)
    (k318 : PySem.W.keepIn K (.ref f306) = true)
    (a319 : PySem.W.nsIn K mainGlobals "_law_draw" = some (some (.ref f320)))
    (l330 : K.lookup f320 = some ⟨oc321, od327, .func (PySem.W.fnOf "_law_draw" "_law_draw" (C8.fnArgs (top 46)) (C8.fnBody (top 46)) (C8.fnScope (top 46)) .none kV322 dc323 pm324 an328 cd325 ct326), sl329⟩)
    (c331 : PySem.W.codeIn K cd325 "_law_draw" = true)
    (k332 : PySem.W.keepIn K (.ref f320) = true)
    (a333 : PySem.W.nsIn K mainGlobals "_law_pick" = some (some (.ref f334)))
    (l344 : K.lookup f334 = some ⟨oc335, od341, .func (PySem.W.fnOf "_law_pick" "_law_pick" (C8.fnArgs (top 47)) (C8.fnBody (top 47)) (C8.fnScope (top 47)) .none kV336 dc337 pm338 an342 cd339 ct340), sl343⟩)
    (c345 : PySem.W.codeIn K cd339 "_law_pick" = true)
    (k346 : PySem.W.keepIn K (.ref f334) = true)
    (a347 : PySem.W.nsIn K mainGlobals "_law_watch" = some (some (.ref f348)))
    (l358 : K.lookup f348 = some ⟨oc349, od355, .func (PySem.W.fnOf "_law_watch" "_law_watch" (C8.fnArgs (top 48)) (C8.fnBody (top 48)) (C8.fnScope (top 48)) .none kV350 dc351 pm352 an356 cd353 ct354), sl357⟩)
    (c359 : PySem.W.codeIn K cd353 "_law_watch" = true)
    (k360 : PySem.W.keepIn K (.ref f348) = true)
    (a361 : PySem.W.nsIn K mainGlobals "_law_made" = some (some (.ref f362)))
    (l372 : K.lookup f362 = some ⟨oc363, od369, .func (PySem.W.fnOf "_law_made" "_law_made" (C8.fnArgs (top 49)) (C8.fnBody (top 49)) (C8.fnScope (top 49)) .none kV364 dc365 pm366 an370 cd367 ct368), sl371⟩)
    (c373 : PySem.W.codeIn K cd367 "_law_made" = true)
    (k374 : PySem.W.keepIn K (.ref f362) = true)
    (a375 : PySem.W.nsIn K mainGlobals "_law_wide" = some (some (.ref f376)))
    (l386 : K.lookup f376 = some ⟨oc377, od383, .func (PySem.W.fnOf "_law_wide" "_law_wide" (C8.fnArgs (top 50)) (C8.fnBody (top 50)) (C8.fnScope (top 50)) .none kV378 dc379 pm380 an384 cd381 ct382), sl385⟩)
    (c387 : PySem.W.codeIn K cd381 "_law_wide" = true)
    (k388 : PySem.W.keepIn K (.ref f376) = true)
    (a389 : PySem.W.nsIn K mainGlobals "_law_told" = some (some (.ref f390)))
    (l400 : K.lookup f390 = some ⟨oc391, od397, .func (PySem.W.fnOf "_law_told" "_law_told" (C8.fnArgs (top 51)) (C8.fnBody (top 51)) (C8.fnScope (top 51)) .none kV392 dc393 pm394 an398 cd395 ct396), sl399⟩)
    (c401 : PySem.W.codeIn K cd395 "_law_told" = true)
    (k402 : PySem.W.keepIn K (.ref f390) = true)
    (a403 : PySem.W.nsIn K mainGlobals "_law_next_lots" = some (some (.ref f404)))
    (l414 : K.lookup f404 = some ⟨oc405, od411, .func (PySem.W.fnOf "_law_next_lots" "_law_next_lots" (C8.fnArgs (top 52)) (C8.fnBody (top 52)) (C8.fnScope (top 52)) .none kV406 dc407 pm408 an412 cd409 ct410), sl413⟩)
    (c415 : PySem.W.codeIn K cd409 "_law_next_lots" = true)
    (k416 : PySem.W.keepIn K (.ref f404) = true)
    (a417 : PySem.W.nsIn K mainGlobals "_law_can_be" = some (some (.ref f418)))
    (l428 : K.lookup f418 = some ⟨oc419, od425, .func (PySem.W.fnOf "_law_can_be" "_law_can_be" (C8.fnArgs (top 53)) (C8.fnBody (top 53)) (C8.fnScope (top 53)) .none kV420 dc421 pm422 an426 cd423 ct424), sl427⟩)
    (c429 : PySem.W.codeIn K cd423 "_law_can_be" = true)
    (k430 : PySem.W.keepIn K (.ref f418) = true)
    (a431 : PySem.W.nsIn K mainGlobals "_law_fit_many" = some (some (.ref f432)))
    (l442 : K.lookup f432 = some ⟨oc433, od439, .func (PySem.W.fnOf "_law_fit_many" "_law_fit_many" (C8.fnArgs (top 54)) (C8.fnBody (top 54)) (C8.fnScope (top 54)) .none kV434 dc435 pm436 an440 cd437 ct438), sl441⟩)
    (c443 : PySem.W.codeIn K cd437 "_law_fit_many" = true)
    (k444 : PySem.W.keepIn K (.ref f432) = true)
    (a445 : PySem.W.nsIn K mainGlobals "_law_drawn_heard" = some (some (.ref f446)))
    (l456 : K.lookup f446 = some ⟨oc447, od453, .func (PySem.W.fnOf "_law_drawn_heard" "_law_drawn_heard" (C8.fnArgs (top 55)) (C8.fnBody (top 55)) (C8.fnScope (top 55)) .none kV448 dc449 pm450 an454 cd451 ct452), sl455⟩)
    (c457 : PySem.W.codeIn K cd451 "_law_drawn_heard" = true)
    (k458 : PySem.W.keepIn K (.ref f446) = true)
    (a459 : PySem.W.nsIn K mainGlobals "_law_begun_at" = some (some (.ref f460)))
    (l470 : K.lookup f460 = some ⟨oc461, od467, .func (PySem.W.fnOf "_law_begun_at" "_law_begun_at" (C8.fnArgs (top 56)) (C8.fnBody (top 56)) (C8.fnScope (top 56)) .none kV462 dc463 pm464 an468 cd465 ct466), sl469⟩)
    (c471 : PySem.W.codeIn K cd465 "_law_begun_at" = true)
    (k472 : PySem.W.keepIn K (.ref f460) = true)
    (a473 : PySem.W.nsIn K mainGlobals "_law_there" = some (some (.ref f474)))
    (l484 : K.lookup f474 = some ⟨oc475, od481, .func (PySem.W.fnOf "_law_there" "_law_there" (C8.fnArgs (top 57)) (C8.fnBody (top 57)) (C8.fnScope (top 57)) .none kV476 dc477 pm478 an482 cd479 ct480), sl483⟩)
    (c485 : PySem.W.codeIn K cd479 "_law_there" = true)
    (k486 : PySem.W.keepIn K (.ref f474) = true)
    (a487 : PySem.W.nsIn K mainGlobals "Watch" = some (some (.ref CWatch)))
    (pg488 : PySem.W.plainGet K CWatch Str.empty = true)
    (hd489 : PySem.W.hasDictIn K CWatch = true)
    (po490 : PySem.W.plainOver K CWatch = true)
    (sa491 : PySem.W.findIn K (.ref CWatch) "__setattr__" = some (some (.builtin "object.__setattr__")))
    (mk492 : PySem.W.makesIn K CWatch = true)
    (kc493 : PySem.W.keepIn K (.ref CWatch) = true)
    (is494 : PySem.W.findIn K (.ref CWatch) "__class__" = some (some (.builtin "object.__class__")))
    (is495 : PySem.W.specialIn K (.builtin "object.__class__") "__get__" = some (some (.builtin "getset_descriptor.__get__")))
    (is496 : PySem.W.takesIn K (.builtin "object.__class__") = some true)
    (is497 : PySem.W.mroIn K CWatch (.type "object") = some true)
    (n498 : PySem.W.findIn K (.ref CWatch) "own_moves" = some none)
    (n499 : PySem.W.findIn K (.ref CWatch) "own_words" = some none)
    (i501 : PySem.W.findIn K (.ref CWatch) "__init__" = some (some (.ref f500)))
    (i502 : PySem.W.isFn K (.ref f500) = true)
    (l512 : K.lookup f500 = some ⟨oc503, od509, .func (PySem.W.fnOf "__init__" "Watch.__init__" (C8.fnArgs (inClass (top 25) 0)) (C8.fnBody (inClass (top 25) 0)) (C8.fnScope (inClass (top 25) 0)) .none kV504 dc505 pm506 an510 cd507 ct508), sl511⟩)
    (c513 : PySem.W.codeIn K cd507 "Watch.__init__" = true)
    (k514 : PySem.W.keepIn K (.ref f500) = true)
    (pr518 : PySem.W.findIn K (.ref CWatch) "moves" = some (some (.ref p515)))
    (pr519 : PySem.W.specialIn K (.ref p515) "__get__" = some (some (.builtin "property.__get__")))
    (pr520 : PySem.W.takesIn K (.ref p515) = some true)
    (pr521 : PySem.W.recIn K p515 "property" = some (.ref f516 :: re517))
    (l531 : K.lookup f516 = some ⟨oc522, od528, .func (PySem.W.fnOf "moves" "Watch.moves" (C8.fnArgs (inClass (top 25) 1)) (C8.fnBody (inClass (top 25) 1)) (C8.fnScope (inClass (top 25) 1)) .none kV523 dc524 pm525 an529 cd526 ct527), sl530⟩)
    (c532 : PySem.W.codeIn K cd526 "Watch.moves" = true)
    (k533 : PySem.W.keepIn K (.ref f516) = true)
    (pr537 : PySem.W.findIn K (.ref CWatch) "words" = some (some (.ref p534)))
    (pr538 : PySem.W.specialIn K (.ref p534) "__get__" = some (some (.builtin "property.__get__")))
    (pr539 : PySem.W.takesIn K (.ref p534) = some true)
    (pr540 : PySem.W.recIn K p534 "property" = some (.ref f535 :: re536))
    (l550 : K.lookup f535 = some ⟨oc541, od547, .func (PySem.W.fnOf "words" "Watch.words" (C8.fnArgs (inClass (top 25) 2)) (C8.fnBody (inClass (top 25) 2)) (C8.fnScope (inClass (top 25) 2)) .none kV542 dc543 pm544 an548 cd545 ct546), sl549⟩)
    (c551 : PySem.W.codeIn K cd545 "Watch.words" = true)
    (k552 : PySem.W.keepIn K (.ref f535) = true)
    (pr556 : PySem.W.findIn K (.ref CWatch) "kinds" = some (some (.ref p553)))
    (pr557 : PySem.W.specialIn K (.ref p553) "__get__" = some (some (.builtin "property.__get__")))
    (pr558 : PySem.W.takesIn K (.ref p553) = some true)
    (pr559 : PySem.W.recIn K p553 "property" = some (.ref f554 :: re555))
    (l569 : K.lookup f554 = some ⟨oc560, od566, .func (PySem.W.fnOf "kinds" "Watch.kinds" (C8.fnArgs (inClass (top 25) 3)) (C8.fnBody (inClass (top 25) 3)) (C8.fnScope (inClass (top 25) 3)) .none kV561 dc562 pm563 an567 cd564 ct565), sl568⟩)
    (c570 : PySem.W.codeIn K cd564 "Watch.kinds" = true)
    (k571 : PySem.W.keepIn K (.ref f554) = true)
    (a572 : PySem.W.nsIn K mainGlobals "Observer" = some (some (.ref CObserver)))
    (pg573 : PySem.W.plainGet K CObserver Str.empty = true)
    (hd574 : PySem.W.hasDictIn K CObserver = true)
    (po575 : PySem.W.plainOver K CObserver = true)
    (sa576 : PySem.W.findIn K (.ref CObserver) "__setattr__" = some (some (.builtin "object.__setattr__")))
    (mk577 : PySem.W.makesIn K CObserver = true)
    (kc578 : PySem.W.keepIn K (.ref CObserver) = true)
    (n579 : PySem.W.findIn K (.ref CObserver) "own_watch" = some none)
    (n580 : PySem.W.findIn K (.ref CObserver) "own_line" = some none)
    (n581 : PySem.W.findIn K (.ref CObserver) "own_heard" = some none)
    (n582 : PySem.W.findIn K (.ref CObserver) "own_later" = some none)
    (i584 : PySem.W.findIn K (.ref CObserver) "__init__" = some (some (.ref f583)))
    (i585 : PySem.W.isFn K (.ref f583) = true)
    (l595 : K.lookup f583 = some ⟨oc586, od592, .func (PySem.W.fnOf "__init__" "Observer.__init__" (C8.fnArgs (inClass (top 39) 0)) (C8.fnBody (inClass (top 39) 0)) (C8.fnScope (inClass (top 39) 0)) .none kV587 dc588 pm589 an593 cd590 ct591), sl594⟩)
    (c596 : PySem.W.codeIn K cd590 "Observer.__init__" = true)
    (k597 : PySem.W.keepIn K (.ref f583) = true)
    (i599 : PySem.W.findIn K (.ref CObserver) "hear" = some (some (.ref f598)))
    (i600 : PySem.W.isFn K (.ref f598) = true)
    (l610 : K.lookup f598 = some ⟨oc601, od607, .func (PySem.W.fnOf "hear" "Observer.hear" (C8.fnArgs (inClass (top 39) 2)) (C8.fnBody (inClass (top 39) 2)) (C8.fnScope (inClass (top 39) 2)) .none kV602 dc603 pm604 an608 cd605 ct606), sl609⟩)
    (c611 : PySem.W.codeIn K cd605 "Observer.hear" = true)
    (k612 : PySem.W.keepIn K (.ref f598) = true)
    (i614 : PySem.W.findIn K (.ref CObserver) "can_hear" = some (some (.ref f613)))
    (i615 : PySem.W.isFn K (.ref f613) = true)
    (l625 : K.lookup f613 = some ⟨oc616, od622, .func (PySem.W.fnOf "can_hear" "Observer.can_hear" (C8.fnArgs (inClass (top 39) 6)) (C8.fnBody (inClass (top 39) 6)) (C8.fnScope (inClass (top 39) 6)) .none kV617 dc618 pm619 an623 cd620 ct621), sl624⟩)
    (c626 : PySem.W.codeIn K cd620 "Observer.can_hear" = true)
    (k627 : PySem.W.keepIn K (.ref f613) = true)
    (i629 : PySem.W.findIn K (.ref CObserver) "at" = some (some (.ref f628)))
    (i630 : PySem.W.isFn K (.ref f628) = true)
    (l640 : K.lookup f628 = some ⟨oc631, od637, .func (PySem.W.fnOf "at" "Observer.at" (C8.fnArgs (inClass (top 39) 7)) (C8.fnBody (inClass (top 39) 7)) (C8.fnScope (inClass (top 39) 7)) .none kV632 dc633 pm634 an638 cd635 ct636), sl639⟩)
    (c641 : PySem.W.codeIn K cd635 "Observer.at" = true)
    (k642 : PySem.W.keepIn K (.ref f628) = true)
    (i644 : PySem.W.findIn K (.ref CObserver) "many" = some (some (.ref f643)))
    (i645 : PySem.W.isFn K (.ref f643) = true)
    (l655 : K.lookup f643 = some ⟨oc646, od652, .func (PySem.W.fnOf "many" "Observer.many" (C8.fnArgs (inClass (top 39) 8)) (C8.fnBody (inClass (top 39) 8)) (C8.fnScope (inClass (top 39) 8)) .none kV647 dc648 pm649 an653 cd650 ct651), sl654⟩)
    (c656 : PySem.W.codeIn K cd650 "Observer.many" = true)
    (k657 : PySem.W.keepIn K (.ref f643) = true)
    (a659 : PySem.W.nsIn K mainGlobals "MOST_EVENTS" = some (some (.int 300 tk658)))
    (a661 : PySem.W.nsIn K mainGlobals "MOST_KINDS" = some (some (.int 4 tk660)))
    (a663 : PySem.W.nsIn K mainGlobals "MOST_WORD" = some (some (.int 3 tk662)))
    (a665 : PySem.W.nsIn K mainGlobals "MOST_PLACES" = some (some (.int 6 tk664)))
    (a667 : PySem.W.nsIn K mainGlobals "FIRST" = some (some (.ref f666)))
    (l672 : K.lookup f666 = some ⟨.type "tuple", od668, .seq #[.int 0 tk671] nn669, sl670⟩)
    (z673 : PySem.W.nsIn K mainGlobals "abs" = some none)
    (z674 : PySem.W.nsIn K mainGlobals "all" = some none)
    (z675 : PySem.W.nsIn K mainGlobals "bool" = some none)
    (z676 : PySem.W.nsIn K mainGlobals "enumerate" = some none)
    (z677 : PySem.W.nsIn K mainGlobals "int" = some none)
    (z678 : PySem.W.nsIn K mainGlobals "isinstance" = some none)
    (z679 : PySem.W.nsIn K mainGlobals "len" = some none)
    (z680 : PySem.W.nsIn K mainGlobals "list" = some none)
    (z681 : PySem.W.nsIn K mainGlobals "max" = some none)
    (z682 : PySem.W.nsIn K mainGlobals "min" = some none)
    (z683 : PySem.W.nsIn K mainGlobals "property" = some none)
    (z684 : PySem.W.nsIn K mainGlobals "range" = some none)
    (z685 : PySem.W.nsIn K mainGlobals "set" = some none)
    (z686 : PySem.W.nsIn K mainGlobals "sorted" = some none)
    (z687 : PySem.W.nsIn K mainGlobals "sum" = some none)
    (z688 : PySem.W.nsIn K mainGlobals "tuple" = some none)
    (a690 : PySem.W.nsIn K mainGlobals "law" = some (some (.ref f689)))
    (l700 : K.lookup f689 = some ⟨oc691, od697, .func (PySem.W.fnOf "law" "law" (C8.fnArgs (top 58)) (C8.fnBody (top 58)) (C8.fnScope (top 58)) .none kV692 dc693 pm694 an698 cd695 ct696), sl699⟩)
    (c701 : PySem.W.codeIn K cd695 "law" = true)
    (k702 : PySem.W.keepIn K (.ref f689) = true)
    (hsp : ∀ (H : Hp) (a : Addr) (ns : List Int), ns.length ≤ 63 → (∀ z ∈ ns, Builtin.Int.intBits z ≤ 1048576) → H 178 = some (.tbl #[]) → SqL K H a (ns.map V.int) → sp K mg [.ref a] H (fun v _ => v = .bl true) fun _ _ _ => False) :
    LamX.LawAtS l w K C8.CX0 k 63 "script" mg fa h := by
  have e := hfa.symm.trans (PySem.W.mg_of X G a690)
  cases e
  refine ⟨PySem.W.fnOf "law" "law" (C8.fnArgs (top 58)) (C8.fnBody (top 58)) (C8.fnScope (top 58)) .none kV692 dc693 pm694 an698 cd695 ct696, [(co87, 178)], sp K mg, fun p hp => ?_, fun p hp => ?_, fun p hp => ?_, fun s v => .of_eq rfl, fun H a ns h1 h2 h3 h4 => hsp H a ns h1 h2 (h3 _ (List.mem_singleton.mpr rfl)) h4, fun base _ _ hTB => ?_⟩
  · rw [List.mem_singleton] at hp
    subst hp
    exact hTab _ (List.mem_singleton.mpr rfl)
  · rw [List.mem_singleton] at hp
    subst hp
    exact t101
  · rw [List.mem_singleton] at hp
    subst hp
    exact PySem.W.codeHd_of_K X t100
  replace hTB : ∀ c T, (c, T) ∈ [(co87, 178)] → LamX.TabB base mg c T := fun c T hm => hTB (c, T) hm
  refine hL K mg base CWatch CObserver _ _ ?_ (fun_c8 (st := top 58) l700 c701) rfl
  exact {
    d_is_number := ⟨_, _, ⟨fun_c8 l12 c13, PySem.W.mg_of X G a1, k14⟩, rfl⟩
    d_is_between := ⟨_, _, ⟨fun_c8 l26 c27, PySem.W.mg_of X G a15, k28⟩, rfl⟩
    d_is_list := ⟨_, _, ⟨fun_c8 l40 c41, PySem.W.mg_of X G a29, k42⟩, rfl⟩
    d_first_wrong := ⟨_, _, ⟨fun_c8 l54 c55, PySem.W.mg_of X G a43, k56⟩, rfl⟩
    d_is_word := ⟨_, _, ⟨fun_c8 l68 c69, PySem.W.mg_of X G a57, k70⟩, rfl⟩
    d_is_line := ⟨_, _, ⟨fun_c8 l82 c83, PySem.W.mg_of X G a71, k84⟩, rfl⟩
    d_need_moves := ⟨_, _, _, ⟨fun_c8 l97 c98, PySem.W.mg_of X G a85, k99⟩, rfl, rfl, hTB _ _ (by exact List.mem_singleton.mpr rfl)⟩
    d_need_words := ⟨_, _, ⟨fun_c8 l113 c114, PySem.W.mg_of X G a102, k115⟩, rfl⟩
    d_need_watch := ⟨_, _, ⟨⟨_, _, _, _, _, _, _, _, _, _, rfl, l133, c134, .inr ⟨by simp, _, _, [.none], _, rfl, t136, rfl, .cons rfl .nil⟩, .inl rfl⟩, k135⟩, PySem.W.mg_of X G a116⟩
    d_is_heard := ⟨_, _, ⟨fun_c8 l148 c149, PySem.W.mg_of X G a137, k150⟩, rfl⟩
    d_need_heard := ⟨_, _, ⟨fun_c8 l162 c163, PySem.W.mg_of X G a151, k164⟩, rfl⟩
    d_words_behind := ⟨_, _, ⟨fun_c8 l176 c177, PySem.W.mg_of X G a165, k178⟩, rfl⟩
    d_places_by := ⟨_, _, ⟨fun_c8 l190 c191, PySem.W.mg_of X G a179, k192⟩, rfl⟩
    d_can_be := ⟨_, _, ⟨fun_c8 l204 c205, PySem.W.mg_of X G a193, k206⟩, rfl⟩
    d_lots_by := ⟨_, _, ⟨fun_c8 l218 c219, PySem.W.mg_of X G a207, k220⟩, rfl⟩
    d_rows_count := ⟨_, _, ⟨fun_c8 l232 c233, PySem.W.mg_of X G a221, k234⟩, rfl⟩
    d_ways_behind := ⟨_, _, ⟨fun_c8 l246 c247, PySem.W.mg_of X G a235, k248⟩, rfl⟩
    d_without_behind := ⟨_, _, ⟨fun_c8 l260 c261, PySem.W.mg_of X G a249, k262⟩, rfl⟩
    d_numbers_by := ⟨_, _, ⟨fun_c8 l274 c275, PySem.W.mg_of X G a263, k276⟩, rfl⟩
    d_settles_after := ⟨_, _, ⟨fun_c8 l288 c289, PySem.W.mg_of X G a277, k290⟩, rfl⟩
    d_law_begun := ⟨_, _, ⟨fun_c8 l302 c303, PySem.W.mg_of X G a291, k304⟩, rfl⟩
    d_law_blend := ⟨_, _, ⟨fun_c8 l316 c317, PySem.W.mg_of X G a305, k318⟩, rfl⟩
    d_law_draw := ⟨_, _, ⟨fun_c8 l330 c331, PySem.W.mg_of X G a319, k332⟩, rfl⟩
    d_law_pick := ⟨_, _, ⟨fun_c8 l344 c345, PySem.W.mg_of X G a333, k346⟩, rfl⟩
    d_law_watch := ⟨_, _, ⟨fun_c8 l358 c359, PySem.W.mg_of X G a347, k360⟩, rfl⟩
    d_law_made := ⟨_, _, ⟨fun_c8 l372 c373, PySem.W.mg_of X G a361, k374⟩, rfl⟩
    d_law_wide := ⟨_, _, ⟨fun_c8 l386 c387, PySem.W.mg_of X G a375, k388⟩, rfl⟩
    d_law_told := ⟨_, _, ⟨fun_c8 l400 c401, PySem.W.mg_of X G a389, k402⟩, rfl⟩
    d_law_next_lots := ⟨_, _, ⟨fun_c8 l414 c415, PySem.W.mg_of X G a403, k416⟩, rfl⟩
    d_law_can_be := ⟨_, _, ⟨fun_c8 l428 c429, PySem.W.mg_of X G a417, k430⟩, rfl⟩
    d_law_fit_many := ⟨_, _, ⟨fun_c8 l442 c443, PySem.W.mg_of X G a431, k444⟩, rfl⟩
    d_law_drawn_heard := ⟨_, _, ⟨fun_c8 l456 c457, PySem.W.mg_of X G a445, k458⟩, rfl⟩
    d_law_begun_at := ⟨_, _, ⟨fun_c8 l470 c471, PySem.W.mg_of X G a459, k472⟩, rfl⟩
    d_law_there := ⟨_, _, ⟨fun_c8 l484 c485, PySem.W.mg_of X G a473, k486⟩, rfl⟩
    mgWatch := PySem.W.mg_of X G a487
    kpWatch := kc493
    clWatch := ⟨pg488, hd489, po490, sa491⟩
    isWatch := ⟨⟨pg488, hd489, po490, sa491⟩, is494, is495, is496, is497, if_pos (beq_self_eq_true _)⟩
    nWatch_own_moves := n498
    nWatch_own_words := n499
    mWatch := ⟨_, _, ⟨mk492, i501, i502, kc493⟩, fun_c8 l512 c513, rfl⟩
    pWatch_moves := ⟨_, _, _, ⟨pr518, pr519, pr520, ⟨_, pr521⟩⟩, fun_c8 l531 c532, rfl⟩
    pWatch_words := ⟨_, _, _, ⟨pr537, pr538, pr539, ⟨_, pr540⟩⟩, fun_c8 l550 c551, rfl⟩
    pWatch_kinds := ⟨_, _, _, ⟨pr556, pr557, pr558, ⟨_, pr559⟩⟩, fun_c8 l569 c570, rfl⟩
    mgObserver := PySem.W.mg_of X G a572
    kpObserver := kc578
    clObserver := ⟨pg573, hd574, po575, sa576⟩
    nObserver_own_watch := n579
    nObserver_own_line := n580
    nObserver_own_heard := n581
    nObserver_own_later := n582
    mObserver := ⟨_, _, ⟨mk577, i584, i585, kc578⟩, fun_c8 l595 c596, rfl⟩
    mObserver_hear := ⟨_, _, ⟨i599, i600, k612⟩, fun_c8 l610 c611, rfl⟩
    mObserver_can_hear := ⟨_, _, ⟨i614, i615, k627⟩, fun_c8 l625 c626, rfl⟩
    mObserver_at := ⟨_, _, ⟨i629, i630, k642⟩, fun_c8 l640 c641, rfl⟩
    mObserver_many := ⟨_, _, ⟨i644, i645, k657⟩, fun_c8 l655 c656, rfl⟩
    g_MOST_EVENTS := ⟨_, PySem.W.mg_of X G a659, _, rfl⟩
    g_MOST_KINDS := ⟨_, PySem.W.mg_of X G a661, _, rfl⟩
    g_MOST_WORD := ⟨_, PySem.W.mg_of X G a663, _, rfl⟩
    g_MOST_PLACES := ⟨_, PySem.W.mg_of X G a665, _, rfl⟩
    g_FIRST := ⟨_, PySem.W.mg_of X G a667, fun H => .inr ⟨_, _, _, l672, rfl, rfl, by rw [sizeLine_eq]; simp, .cons ⟨_, rfl⟩ (.nil)⟩⟩
    z_abs := PySem.W.mg_none_of X G z673
    z_all := PySem.W.mg_none_of X G z674
    z_bool := PySem.W.mg_none_of X G z675
    z_enumerate := PySem.W.mg_none_of X G z676
    z_int := PySem.W.mg_none_of X G z677
    z_isinstance := PySem.W.mg_none_of X G z678
    z_len := PySem.W.mg_none_of X G z679
    z_list := PySem.W.mg_none_of X G z680
    z_max := PySem.W.mg_none_of X G z681
    z_min := PySem.W.mg_none_of X G z682
    z_property := PySem.W.mg_none_of X G z683
    z_range := PySem.W.mg_none_of X G z684
    z_set := PySem.W.mg_none_of X G z685
    z_sorted := PySem.W.mg_none_of X G z686
    z_sum := PySem.W.mg_none_of X G z687
    z_tuple := PySem.W.mg_none_of X G z688
  }
end K75
end
section
set_option Elab.async false
set_option linter.all false
set_option maxRecDepth 100000
set_option maxHeartbeats 4000000
/-! kinds, rows, watches -/
namespace K75
open PySem PySem.Spec PyProof.Rows L2 HW HX
section
variable {P : Program} {w : World} {K : PySem.W.Frag} {mg : Str → Option Value} {base : Heap} {CW CO : Addr}
/-! ### kinds -/
theorem sc_is_number : FnScope ["thing"] ["thing"] (C8.fnScope s_is_number) := C8.fnScope_by (by decide +kernel)
def spNum : Sp := fun vs H Q _ => ∃ i : Int, vs = [.int i] ∧ Q (.bl true) H
theorem c_is_number (T : Txt K mg base CW CO) : C8.Cal P w K mg base 1 "is_number" spNum [] := by
  obtain ⟨f, fd, D, df⟩ := T.d_is_number
  refine C8.cal0 D (D.fn.binds (ps := ["thing"]) df fun _ _ _ _ _ _ us hl => match us, hl with | [_], _ => rfl) .nil sc_is_number (fun vs H Q E h => ?_) (fun cdv A outer s H vs Q E hr h => ?_)
  · obtain ⟨i, rfl, _⟩ := h
    rfl
  · obtain ⟨i, rfl, q⟩ := h
    refine ⟨_, pss_one (ps_ret (pe_and (pe_callB call_isi (by rfl) T.z_isinstance (by decide +kernel) (pa_cons (pv 0) (pa_cons (pe_bltn (by rfl) T.z_int (by decide +kernel) (show RelV (.ty "int") _ from rfl)) pa_nil)))
      (pe_one (pe_not (pe_callB call_isi (by rfl) T.z_isinstance (by decide +kernel) (pa_cons (pv 0) (pa_cons (pe_bltn (by rfl) T.z_bool (by decide +kernel) (show RelV (.ty "bool") _ from rfl)) pa_nil))))))), ?_⟩
    refine ⟨_, rfl, _, _, _, _, true, rfl, .ty _, .base (.int i), kit_ty (by decide +kernel), true, rfl, ?_⟩
    exact ⟨_, rfl, _, _, _, _, false, rfl, .ty _, .base (.int i), kit_ty (by decide +kernel), false, rfl, q⟩
theorem sc_is_between : FnScope ["thing", "low", "high"] ["thing", "low", "high"] (C8.fnScope s_is_between) := C8.fnScope_by (by decide +kernel)
def spBetween : Sp := fun vs H Q _ => ∃ i lo hi : Int, vs = [.int i, .int lo, .int hi] ∧ Q (.bl (decide (lo ≤ i ∧ i ≤ hi))) H
theorem c_is_between (T : Txt K mg base CW CO) : C8.Cal P w K mg base 2 "is_between" spBetween [] := by
  obtain ⟨f, fd, D, df⟩ := T.d_is_between
  refine C8.cal0 D (D.fn.binds (ps := ["thing", "low", "high"]) df fun _ _ _ _ _ _ us hl => match us, hl with | [_, _, _], _ => rfl) .nil sc_is_between (fun vs H Q E h => ?_) (fun cdv A outer s H vs Q E hr h => ?_)
  · obtain ⟨i, lo, hi, rfl, _⟩ := h
    rfl
  · obtain ⟨i, lo, hi, rfl, q⟩ := h
    refine ⟨_, pss_one (ps_ret (pe_and (C8.pe_c (c_is_number T) hr (by decide) (by rfl) (pa_cons (pv 0) pa_nil)) (pe_one (pe_chain op_le op_le (pv 1) (pv 0) (pv 2))))), ?_⟩
    refine ⟨_, rfl, i, rfl, true, rfl, ?_⟩
    refine ⟨_, rfl, _, rfl, _, _, rfl, rfl, _, rfl, ?_⟩
    by_cases h1 : lo ≤ i
    · rw [if_pos (by simpa using h1)]
      refine ⟨_, rfl, _, _, rfl, rfl, ?_⟩
      have e : decide (lo ≤ i ∧ i ≤ hi) = decide (i ≤ hi) := by simp [h1]
      rw [e] at q
      exact q
    · rw [if_neg (by simpa using h1)]
      have e : decide (lo ≤ i ∧ i ≤ hi) = false := by simp [h1]
      rw [e] at q
      exact q
theorem sc_is_list : FnScope ["thing"] ["thing"] (C8.fnScope s_is_list) := C8.fnScope_by (by decide +kernel)
def spIsList : Sp := fun vs H Q _ => ∃ a xs, vs = [.ref a] ∧ Seq H a xs ∧ ∀ H', Gr [] H H' → Q (.bl true) H'
theorem c_is_list (T : Txt K mg base CW CO) : C8.Cal P w K mg base 1 "is_list" spIsList [] := by
  obtain ⟨f, fd, D, df⟩ := T.d_is_list
  refine C8.cal0 D (D.fn.binds (ps := ["thing"]) df fun _ _ _ _ _ _ us hl => match us, hl with | [_], _ => rfl) .nil sc_is_list (fun vs H Q E h => ?_) (fun cdv A outer s H vs Q E hr h => ?_)
  · obtain ⟨a, xs, rfl, _⟩ := h
    rfl
  · obtain ⟨a, xs, rfl, hs, q⟩ := h
    refine ⟨_, pss_one (ps_ret (pe_callB call_isiT (by rfl) T.z_isinstance (by decide +kernel) (pa_cons (pv 0) (pa_cons (pe_tup (pa_cons (pe_bltn (by rfl) T.z_list (by decide +kernel) (show RelV (.ty "list") _ from rfl)) (pa_cons (pe_bltn (by rfl) T.z_tuple (by decide +kernel) (show RelV (.ty "tuple") _ from rfl)) pa_nil))) pa_nil)))), ?_⟩
    refine ⟨_, rfl, (by rw [sizeLine_eq]; decide), fun t ht => ?_⟩
    have hg : Gr [] H (upd H t (.tup [V.ty "list", V.ty "tuple"])) := .new ht
    rcases (hs.gr hg).ty (K := K) with ty | ty
    · exact ⟨_, t, _, _, _, true, rfl, upd_same, .cons (.ty _) (.cons (.ty _) .nil), ty, kitAny_cons (b := true) (kit_ty (by decide +kernel)) (fun z => nomatch z) (fun _ => rfl), q _ hg⟩
    · exact ⟨_, t, _, _, _, true, rfl, upd_same, .cons (.ty _) (.cons (.ty _) .nil), ty, kitAny_cons (b := false) (kit_ty (by decide +kernel)) (fun _ => kitAny_cons (b := true) (kit_ty (by decide +kernel)) (fun z => nomatch z) (fun _ => rfl)) (fun _ => rfl), q _ hg⟩
/-! ### rows -/
theorem sc_is_word : FnScope ["thing"] ["thing"] (C8.fnScope s_is_word) := C8.fnScope_by (by decide +kernel)
def spIsWord : Sp := fun vs H Q _ => ∃ i : Int, vs = [.int i] ∧ 0 ≤ i ∧ i ≤ 3 ∧ Q (.bl true) H
theorem c_is_word (T : Txt K mg base CW CO) : C8.Cal P w K mg base 3 "is_word" spIsWord [] := by
  obtain ⟨f, fd, D, df⟩ := T.d_is_word
  obtain ⟨u, mu, ru⟩ := T.g_MOST_WORD
  refine C8.cal0 D (D.fn.binds (ps := ["thing"]) df fun _ _ _ _ _ _ us hl => match us, hl with | [_], _ => rfl) .nil sc_is_word (fun vs H Q E h => ?_) (fun cdv A outer s H vs Q E hr h => ?_)
  · obtain ⟨i, rfl, _⟩ := h
    rfl
  · obtain ⟨i, rfl, h0, h3, q⟩ := h
    refine ⟨_, pss_one (ps_ret (C8.pe_c (c_is_between T) hr (by decide) (by rfl) (pa_cons (pv 0) (pa_cons pe_int (pa_cons (pe_glob (by rfl) mu ru) pa_nil))))), ?_⟩
    refine ⟨_, rfl, i, 0, 3, rfl, ?_⟩
    have e : decide (0 ≤ i ∧ i ≤ 3) = true := by simp [h0, h3]
    rw [e]
    exact q
theorem is_word_at (T : Txt K mg base CW CO) : ∃ f, mg "is_word" = some (.ref f) ∧ C8.CalAt P w K mg base 3 f spIsWord := by
  obtain ⟨f, fd, ps, ds, F, hm, kp, b, d⟩ := (c_is_word (P := P) (w := w) T).ex
  cases d
  exact ⟨f, hm, fd, ps, F, kp, b⟩
theorem sc_first_wrong : FnScope ["several", "fits", "index", "item"] ["several", "fits"] (C8.fnScope s_first_wrong) := C8.fnScope_by (by decide +kernel)
def spFirst1 (mg : Str → Option Value) : Sp := fun vs H Q _ => ∃ (a f : Addr) (is : List Int), vs = [.ref a, .ref f] ∧ mg "is_word" = some (.ref f) ∧ H a = some (.lst (is.map V.int)) ∧ (∀ i ∈ is, 0 ≤ i ∧ i ≤ 3) ∧ ∀ H', Gr [] H H' → Q .non H'
theorem c_first_wrong (T : Txt K mg base CW CO) : C8.Cal P w K mg base 4 "first_wrong" (spFirst1 mg) [] := by
  obtain ⟨f, fd, D, df⟩ := T.d_first_wrong
  obtain ⟨fw, mw, cw⟩ := is_word_at (P := P) (w := w) T
  refine C8.cal0 D (D.fn.binds (ps := ["several", "fits"]) df fun _ _ _ _ _ _ us hl => match us, hl with | [_, _], _ => rfl) .nil sc_first_wrong (fun vs H Q E h => ?_) (fun cdv A outer s H vs Q E hr h => ?_)
  · obtain ⟨a, f, is, rfl, _⟩ := h
    rfl
  · obtain ⟨a, f2, is, rfl, hm, ha, hb, q⟩ := h
    have e2 := hm.symm.trans mw
    cases e2
    refine ⟨_, pss_cons (ps_for PassesOwn.never rfl (pi_enum (by rfl) T.z_enumerate (pa_cons (pv 0) pa_nil)) (pg_tup rfl (pgs_cons (pg_name (i := 2) sc_first_wrong.nd rfl (Or.inl rfl)) (pgs_cons (pg_name (i := 3) sc_first_wrong.nd rfl (Or.inl rfl)) pgs_nil)))
      (pss_one (ps_if (pt_not (pt_val (C8.pe_cv (i := 1) (f1 := fw) (f2 := fw) cw cw hr (by decide) (by decide) rfl (Or.inl rfl) (pa_cons (pv 3) pa_nil)))) (pss_one ps_never) pss_nil)))
      (pss_one (ps_ret pe_non)), ?_⟩
    refine ⟨_, rfl, a, _, rfl, .of ha, for_it (walk_enum (xs := is.map V.int)) (fun i σ H' => Gr [] H H' ∧ ∃ x y, σ = [some (.ref a), some (.ref fw), x, y]) ⟨.refl _ _, none, none, rfl⟩ (fun i σ H' _ h => h.1.sqL (.of ha)) ?_ ?_⟩
    · rintro i x σ H1 H2 hi ⟨g, x2, x3, rfl⟩ ⟨t, x, y, rfl, ht, rfl, h1, h2⟩
      cases h1
      replace h2 : (is.map V.int)[i]? = some y := h2
      rw [List.getElem?_map] at h2
      obtain ⟨n, hn, rfl⟩ := Option.map_eq_some_iff.mp h2
      refine ⟨t, _, rfl, .of upd_same, rfl, _, _, rfl, _, _, rfl, rfl, ?_⟩
      refine .inl ⟨rfl, _, rfl, n, rfl, (hb n (List.mem_of_getElem? hn)).1, (hb n (List.mem_of_getElem? hn)).2, true, rfl, ?_⟩
      exact ⟨g.trans (.new ht), _, _, rfl⟩
    · rintro σ H1 ⟨g, x2, x3, rfl⟩
      exact q _ g
/-! ### lines -/
theorem sc_is_line : FnScope ["thing", "kinds", "places", "item"] ["thing", "kinds", "places"] (C8.fnScope s_is_line) := C8.fnScope_by (by decide +kernel)
def spIsLine : Sp := fun vs H Q _ => ∃ (a : Addr) (l : List Nat) (n : Nat), vs = [.ref a, .int (l.length : Int), .int (n : Int)] ∧ Seq H a (nvs l) ∧ (∀ g ∈ l, g < n) ∧ l.length ≤ 1000 ∧ ∀ H', Gr [] H H' → Q (.bl true) H'
theorem c_is_line (T : Txt K mg base CW CO) : C8.Cal P w K mg base 3 "is_line" spIsLine [] := by
  obtain ⟨f, fd, D, df⟩ := T.d_is_line
  refine C8.cal0 D (D.fn.binds (ps := ["thing", "kinds", "places"]) df fun _ _ _ _ _ _ us hl => match us, hl with | [_, _, _], _ => rfl) .nil sc_is_line (fun vs H Q E h => ?_) (fun cdv A outer s H vs Q E hr h => ?_)
  · obtain ⟨a, l, n, rfl, _⟩ := h
    rfl
  · obtain ⟨a, l, n, rfl, ha, hl, hlen, q⟩ := h
    refine ⟨_, pss_cons (ps_if (PW.pt (pw_or (pt_not (pt_val (C8.pe_c (c_is_list T) hr (by decide) (by rfl) (pa_cons (pv 0) pa_nil)))) (pw_or1 (pt_cmpR op_ne (pe_callB call_len_seq (by rfl) T.z_len PySem.boot_len (pa_cons (pv 0) pa_nil)) (pv 1) (nomark _))))) (pss_one ps_never) pss_nil)
      (pss_one (ps_ret (pe_callB (cr_all rfl) (by rfl) T.z_all (by decide +kernel) (pa_cons (pe_lc (own := [("item", 3)]) (g := gName 3) (tt := tYes) (by rfl) sc_is_line.nd (pi_seq (i := 0) (pv 0)) (blkOk_by (own := [("item", 3)]) (N := ["thing", "kinds", "places", "item"]) (sc := C8.fnScope s_is_line) (by decide +kernel))
        (fun _ _ _ _ _ => pg_name (i := 3) sc_is_line.nd rfl (Or.inl rfl)) (fun _ _ _ _ _ => pts_nil) (fun _ _ _ _ _ => C8.pe_c (c_is_between T) hr (by decide) (by rfl) (pa_cons (pv 3) (pa_cons pe_int (pa_cons (pe_op op_sub (pv 2) pe_int) pa_nil))))) pa_nil)))), ?_⟩
    refine ⟨_, rfl, a, _, rfl, ha, fun H1 g1 => ⟨true, rfl, ?_⟩⟩
    refine iteF ⟨_, rfl, a, _, rfl, (ha.gr g1).sq, _, rfl, rfl, _, rfl, ?_⟩
    rw [nvs_length]
    refine iteNS rfl ?_
    refine ⟨a, _, rfl, ha.gr g1, fun J wk D hD => ?_⟩
    refine lc_it wk (fun i Hx => Gr [] H1 Hx ∧ Hx D = some (.lst ((List.replicate i true).map V.bl))) ⟨.new hD, upd_same⟩ (fun i Hx _ h => h.1) ?_ ?_
    · rintro i x Hx _ hi ⟨g, hx⟩ ⟨rfl, hi2⟩
      obtain ⟨m, hm, rfl⟩ := nvs_get hi2
      have hmn := hl m (List.mem_of_getElem? hm)
      refine ⟨rfl, _, rfl, _, rfl, _, _, rfl, rfl, (m : Int), 0, (n : Int) - 1, rfl, _, hx, by rw [sizeLine_eq, List.length_map, List.length_replicate]; rw [nvs_length] at hi; omega, g.put0 hD, ?_⟩
      have e : decide ((0 : Int) ≤ (m : Int) ∧ (m : Int) ≤ (n : Int) - 1) = true := decide_eq_true ⟨by omega, by omega⟩
      rw [e, upd_same, List.replicate_succ', List.map_append] <;> rfl
    · rintro Hx ⟨g, hx⟩
      refine ⟨D, _, rfl, .of hx, ?_⟩
      have e : (List.replicate (nvs l).length true).all id = true := by simp
      rw [e]
      exact q _ (g1.trans g)
/-! ### need_words -/
theorem sc_need_words : FnScope ["words", "many", "index"] ["words", "many"] (C8.fnScope s_need_words) := C8.fnScope_by (by decide +kernel)
def spNeedWords : Sp := fun vs H Q _ => ∃ (a : Addr) (l : List Nat), vs = [.ref a, .int (l.length : Int)] ∧ H a = some (.lst (nvs l)) ∧ (∀ g ∈ l, g ≤ 3) ∧ ∀ H', Gr [] H H' → Q .non H'
theorem c_need_words (T : Txt K mg base CW CO) : C8.Cal P w K mg base 5 "need_words" spNeedWords [] := by
  obtain ⟨f, fd, D, df⟩ := T.d_need_words
  obtain ⟨fw, mw, cw⟩ := is_word_at (P := P) (w := w) T
  refine C8.cal0 D (D.fn.binds (ps := ["words", "many"]) df fun _ _ _ _ _ _ us hl => match us, hl with | [_, _], _ => rfl) .nil sc_need_words (fun vs H Q E h => ?_) (fun cdv A outer s H vs Q E hr h => ?_)
  · obtain ⟨a, l, rfl, _⟩ := h
    rfl
  · obtain ⟨a, l, rfl, ha, hl, q⟩ := h
    refine ⟨_, pss_cons (ps_if (PW.pt (pw_or (pt_not (pt_val (C8.pe_c (c_is_list T) hr (by decide) (by rfl) (pa_cons (pv 0) pa_nil)))) (pw_or1 (pt_cmpR op_ne (pe_callB call_len_seq (by rfl) T.z_len PySem.boot_len (pa_cons (pv 0) pa_nil)) (pv 1) (nomark _))))) (pss_one ps_never) pss_nil)
      (pss_cons (ps_set (i := 2) sc_need_words.nd rfl (Or.inl rfl) (C8.pe_c (c_first_wrong T) hr (by decide) (by rfl) (pa_cons (pv 0) (pa_cons (pe_glob (v := .ref fw) (by rfl) mw rfl) pa_nil))))
      (pss_one (ps_if (pt_cmp (pc_notN (pv 2))) (pss_one ps_never) pss_nil))), ?_⟩
    refine ⟨_, rfl, a, _, rfl, .inl ha, fun H1 g1 => ⟨true, rfl, ?_⟩⟩
    refine iteF ⟨_, rfl, a, _, rfl, .inl (.of (g1.all _ _ ha)), _, rfl, rfl, _, rfl, ?_⟩
    rw [nvs_length]
    refine iteNS rfl ?_
    refine ⟨_, rfl, a, fw, l.map (fun g : Nat => (g : Int)), rfl, mw, ?_, fun i hi => ?_, fun H2 g2 => ?_⟩
    · rw [← nvs_map]
      exact g1.all _ _ ha
    · obtain ⟨g, hg, rfl⟩ := List.mem_map.mp hi
      have := hl g hg
      omega
    · exact ⟨_, rfl, false, rfl, q _ (g1.trans g2)⟩
end
end K75
end
section
set_option Elab.async false
set_option linter.all false
set_option maxRecDepth 100000
set_option maxHeartbeats 4000000
/-! need_moves, Watch -/
namespace K75
open PySem PySem.Spec PyProof.Rows L2 HW HX
def lamQ : Str := (envOfC "need_moves" (C8.fnScope s_need_moves) 0 0 .none).qual ++ "<lambda>"
abbrev TT0 : List (Addr × Str) := [(178, lamQ)]
section
variable {P : Program} {w : World} {K : PySem.W.Frag} {mg : Str → Option Value} {base : Heap} {CW CO : Addr}
/-- first_wrong(rows, lambda): each row is found right -/
def TTfw (tl : V → Hp → VK → Prop) (v0 : V) (H : Hp) (Q : VK) : Prop := ∃ (a : Addr) (rows : List Addr), v0 = .ref a ∧ H a = some (.lst (rows.map V.ref)) ∧
  (∀ r ∈ rows, ∀ (H1 : Hp) (Q1 : VK), Gr [] H H1 → (∀ H2, Gr [] H1 H2 → Q1 (.bl true) H2) → tl (.ref r) H1 Q1) ∧ ∀ H1, Gr [] H H1 → Q .non H1
theorem fw_gives {X : Cx} {g : Addr} {cdg : Value} {q : Str} (hz : X.mg "enumerate" = none) : GivesP X ["several", "fits", "index", "item"] g "first_wrong" (C8.fnScope s_first_wrong) cdg (C8.fnBody s_first_wrong) "fits" q TTfw := by
  intro f c' s H Q v0 tl act hc h
  obtain ⟨a, rows, rfl, ha, hr, hQ⟩ := h
  refine ⟨_, pss_cons (ps_for PassesOwn.never rfl (pi_enum (by rfl) hz (pa_cons (pv 0) pa_nil)) (pg_tup rfl (pgs_cons (pg_name (i := 2) sc_first_wrong.nd rfl (Or.inl rfl)) (pgs_cons (pg_name (i := 3) sc_first_wrong.nd rfl (Or.inl rfl)) pgs_nil)))
      (pss_one (ps_if (pt_not (pt_val (act _ _ _ _ (pv 3) rfl))) (pss_one ps_never) pss_nil)))
      (pss_one (ps_ret pe_non)), ?_⟩
  refine ⟨_, rfl, a, _, rfl, .of ha, for_it (walk_enum (xs := rows.map V.ref)) (fun i σ H' => Gr [] H H' ∧ ∃ x y, σ = [some (.ref a), some (.ref f), x, y]) ⟨.refl _ _, none, none, rfl⟩ (fun i σ H' _ h => h.1.sqL (.of ha)) ?_ ?_⟩
  · rintro i x σ H1 H2 hi ⟨g, x2, x3, rfl⟩ ⟨t, x, y, rfl, ht, rfl, h1, h2⟩
    cases h1
    replace h2 : (rows.map V.ref)[i]? = some y := h2
    rw [List.getElem?_map] at h2
    obtain ⟨n, hn, rfl⟩ := Option.map_eq_some_iff.mp h2
    have g2 : Gr [] H (upd H1 t (.tup [V.int (i : Nat), V.ref n])) := g.trans (.new ht)
    refine ⟨t, _, rfl, .of upd_same, rfl, _, _, rfl, _, _, rfl, rfl, ?_⟩
    refine ⟨rfl, _, rfl, g2.all _ _ hc, hr n (List.mem_of_getElem? hn) _ _ g2 fun H3 g3 => ⟨true, rfl, ?_⟩⟩
    exact ⟨g2.trans g3, _, _, rfl⟩
  · rintro σ H1 ⟨g, x2, x3, rfl⟩
    exact hQ _ g
theorem sc_need_moves : FnScope ["moves", "first", "index"] ["moves"] (C8.fnScope s_need_moves) := C8.fnScope_by (by decide +kernel)
/-- the rows of a watch, as they are handed in -/
structure RowsIn (H : Hp) (rows : List Addr) (mv : List (List Nat)) (k : Nat) : Prop where
  len : rows.length = mv.length
  row : ∀ (i : Nat) (r : Addr) (l : List Nat), rows[i]? = some r → mv[i]? = some l → Seq H r (nvs l)
  n1 : 1 ≤ mv.length
  n6 : mv.length ≤ 6
  k1 : 1 ≤ k
  k4 : k ≤ 4
  line : ∀ l ∈ mv, l.length = k ∧ ∀ g ∈ l, g < mv.length
theorem RowsIn.at {H : Hp} {rows : List Addr} {mv : List (List Nat)} {k : Nat} (h : RowsIn H rows mv k) {r : Addr} (hr : r ∈ rows) : ∃ l, Seq H r (nvs l) ∧ l.length = k ∧ ∀ g ∈ l, g < mv.length := by
  obtain ⟨i, hi⟩ := List.mem_iff_getElem?.mp hr
  have hlt : i < mv.length := by
    rw [← h.len]
    exact (List.getElem?_eq_some_iff.mp hi).1
  have hl : mv[i]? = some mv[i] := List.getElem?_eq_getElem hlt
  obtain ⟨a, b⟩ := h.line _ (List.mem_of_getElem? hl)
  exact ⟨_, h.row i r _ hi hl, a, b⟩
def spNeedMoves : Sp := fun vs H Q _ => ∃ (a : Addr) (rows : List Addr) (mv : List (List Nat)) (k : Nat), vs = [.ref a] ∧ H a = some (.lst (rows.map V.ref)) ∧ RowsIn H rows mv k ∧ LamX.Tabs TT0 H ∧ ∀ H', Gx [] H H' → LamX.Tabs TT0 H' → Q .non H'
theorem c_need_moves (T : Txt K mg base CW CO) : C8.Cal P w K mg base 7 "need_moves" spNeedMoves [] := by
  obtain ⟨f, fd, c, D, df, hcd, TB⟩ := T.d_need_moves
  obtain ⟨g, fg, Dg, dg⟩ := T.d_first_wrong
  obtain ⟨u4, m4, r4⟩ := T.g_MOST_KINDS
  obtain ⟨u6, m6, r6⟩ := T.g_MOST_PLACES
  have bg : L2.Binds K fg ["several", "fits"] [] := Dg.fn.binds (ps := ["several", "fits"]) dg fun _ _ _ _ _ _ us hl => match us, hl with | [_, _], _ => rfl
  have b : L2.Binds K fd ["moves"] [] := D.fn.binds (ps := ["moves"]) df fun _ _ _ _ _ _ us hl => match us, hl with | [_], _ => rfl
  refine ⟨f, fd, ["moves"], [], ?_, D.mgf, D.kp, b, .nil⟩
  obtain ⟨oc, od, dV, kV, doc, pm, an, cdv, ct, osl, rfl, lk, hcode⟩ := D.fn.ex
  have ecd : cdv = .ref c := hcd
  subst ecd
  refine fn_of lk hcode sc_need_moves (fun vs H Q E h => ?_) (fun A outer s H vs Q E hr h => ?_)
  · obtain ⟨a, rows, mv, k, rfl, _⟩ := h
    rfl
  · obtain ⟨a, rows, mv, k, rfl, ha, R, hT, q⟩ := h
    have main : ∃ t, PSs (cxOf C8.CX0 P w K mg base ["moves", "first", "index"] "need_moves" (C8.fnScope s_need_moves) f (.ref c) A outer s H E).nox (C8.fnBody s_need_moves) t ∧ t { nx := fun _ H' => Q .non H', rt := Q } (start ["moves", "first", "index"] [.ref a]) H := by
      refine ⟨_, pss_cons (ps_if (PW.pt (pw_or (pt_not (pt_val (C8.pe_c (c_is_list T) hr (by decide) (by rfl) (pa_cons (pv 0) pa_nil)))) (pw_or1 (pt_not (pt_chain op_le op_le pe_int (pe_callB call_len_seq (by rfl) T.z_len PySem.boot_len (pa_cons (pv 0) pa_nil)) (pe_glob (by rfl) m6 r6)))))) (pss_one ps_never) pss_nil)
        (pss_cons (ps_set (i := 1) sc_need_moves.nd rfl (Or.inr rfl) (pe_ix ix_list (pv 0) pe_int (fun _ _ => rfl)))
        (pss_cons (ps_if (PW.pt (pw_or (pt_not (pt_val (C8.pe_c (c_is_list T) hr (by decide) (by rfl) (pa_cons (pv 1) pa_nil)))) (pw_or1 (pt_not (pt_chain op_le op_le pe_int (pe_callB call_len_seq (by rfl) T.z_len PySem.boot_len (pa_cons (pv 1) pa_nil)) (pe_glob (by rfl) m4 r4)))))) (pss_one ps_never) pss_nil)
        (pss_cons (ps_set (i := 2) sc_need_moves.nd rfl (Or.inl rfl) (pe_lamP (T := TT0) (TT := TTfw) (k := 4) (x := "line") (a := "fits") (b := "several") (P := 178) (by rfl) Dg bg sc_first_wrong rfl (Or.inl rfl) (fun cdv => fw_gives T.z_enumerate) (pv 0) rfl TB rfl (List.mem_singleton.mpr rfl) (fun p hp _ => by
            rw [List.mem_singleton] at hp
            subst hp
            rfl) hr (lamP_by (N := ["moves", "first", "index"]) (sc := C8.fnScope s_need_moves) (by decide +kernel)) rfl (fun _ _ _ _ _ _ => rfl)
          (fun A outer s H f c' hr2 => C8.pe_c (c_is_line T) hr2 (by decide) (by rfl) (pa_cons (pv 3) (pa_cons (pe_callB (r := rLenK K) call_len_seq (by rfl) T.z_len PySem.boot_len (pa_cons (pv 1) pa_nil)) (pa_cons (pe_callB (r := rLenK K) call_len_seq (by rfl) T.z_len PySem.boot_len (pa_cons (pv 0) pa_nil)) pa_nil))))))
        (pss_one (ps_if (pt_cmp (pc_notN (pv 2))) (pss_one ps_never) pss_nil))))), ?_⟩
      refine ⟨_, rfl, a, _, rfl, .inl ha, fun H1 g1 => ⟨true, rfl, ?_⟩⟩
      have ha1 := g1.all _ _ ha
      have hlen : (rows.map V.ref).length = mv.length := by rw [List.length_map, R.len]
      have n1 := R.n1
      have n6 := R.n6
      have k1 := R.k1
      have k4 := R.k4
      refine iteF ⟨_, rfl, a, _, rfl, .inl (.of ha1), _, _, rfl, rfl, _, rfl, ?_⟩
      rw [hlen]
      refine ite2 (fun _ => ?_) (fun z => absurd (decide_eq_true (show (1 : Int) ≤ (mv.length : Int) by omega)) z)
      refine ⟨_, _, rfl, rfl, _, rfl, iteNS (by show (mv.length : Int) ≤ 6; omega) ?_⟩
      have hrl : 0 < rows.length := by rw [R.len]; omega
      have h0 : rows[0]? = some rows[0] := List.getElem?_eq_getElem hrl
      refine ⟨_, rfl, a, _, 0, .ref rows[0], rfl, rfl, .of ha1, atI_of (i := 0) (by rw [List.getElem?_map, h0] <;> rfl), ?_⟩
      obtain ⟨l0, hs0, hl0, _⟩ := R.at (List.mem_of_getElem? h0)
      refine ⟨_, rfl, rows[0], _, rfl, hs0.gr g1, fun H2 g2 => ⟨true, rfl, ?_⟩⟩
      have g12 := g1.trans g2
      refine iteF ⟨_, rfl, rows[0], _, rfl, (hs0.gr g12).sq, _, _, rfl, rfl, _, rfl, ?_⟩
      rw [nvs_length, hl0]
      refine ite2 (fun _ => ?_) (fun z => absurd (decide_eq_true (show (1 : Int) ≤ (k : Int) by omega)) z)
      refine ⟨_, _, rfl, rfl, _, rfl, iteNS (by show (k : Int) ≤ 4; omega) ?_⟩
      refine ⟨_, rfl, tabs_gr hT g12, fun H3 eN T3 => ⟨a, rows, rfl, ?_, fun r hr H4 Q4 g4 k4 => ?_, fun H4 g4 => ?_⟩⟩
      · exact (gx_extN eN).lst (g12.all _ _ ha) (by simp)
      · obtain ⟨l, hs, hl, hm⟩ := R.at hr
        have up4 : ∀ {b : Addr} {xs : List V}, Seq H b xs → Seq H4 b xs := fun h => ((gx_extN eN).seq (h.gr g12) (by simp)).gr g4
        refine ⟨_, rfl, _, rfl, rows[0], _, rfl, (up4 hs0).sq, _, rfl, a, _, rfl, (up4 (.inl ha)).sq, r, l, mv.length, ?_, up4 hs, hm, by omega, fun H5 g5 => k4 _ g5⟩
        rw [nvs_length, hl0, hl, hlen] <;> rfl
      · exact ⟨_, rfl, false, rfl, q _ ((g12.gx.trans (gx_extN eN)).trans g4.gx) (tabs_gr T3 g4)⟩
    obtain ⟨t, h1, h2⟩ := main
    exact ⟨t, h1.nox, h2⟩
end
end K75
end
section
set_option Elab.async false
set_option linter.all false
set_option maxRecDepth 100000
set_option maxHeartbeats 4000000
/-! Watch, need_watch, heard -/
namespace K75
open PySem PySem.Spec PyProof.Rows L2 HW HX
section
variable {P : Program} {w : World} {K : PySem.W.Frag} {mg : Str → Option Value} {base : Heap} {CW CO : Addr}
theorem sc_Watch_init : FnScope ["self", "moves", "words", "line"] ["self", "moves", "words"] (C8.fnScope s_Watch_init) := C8.fnScope_by (by decide +kernel)
def spWatch (CW : Addr) : Sp := fun vs H Q _ => ∃ (p a b dx : Addr) (rows : List Addr) (mv : List (List Nat)) (wd : List Nat) (k : Nat), vs = [.ref p, .ref a, .ref b] ∧ H p = some (.ins CW dx []) ∧ H a = some (.lst (rows.map V.ref)) ∧ RowsIn H rows mv k ∧ H b = some (.lst (nvs wd)) ∧ wd.length = mv.length ∧ (∀ v ∈ wd, v ≤ 3) ∧ LamX.Tabs TT0 H ∧
  ∀ H', Gx [p] H H' → LamX.Tabs TT0 H' → WatchAt CW H' p ⟨mv, wd⟩ → Q .non H'
theorem c_Watch (T : Txt K mg base CW CO) : C8.Mak P w K mg base 8 "Watch" CW (spWatch CW) [] := by
  obtain ⟨f, fd, M, F, df⟩ := T.mWatch
  refine C8.mak0 M T.mgWatch F (F.binds (ps := ["self", "moves", "words"]) df fun _ _ _ _ _ _ us hl => match us, hl with | [_, _, _], _ => rfl) .nil sc_Watch_init (fun vs H Q E h => ?_) (fun cdv A outer s H vs Q E hr h => ?_)
  · obtain ⟨p, a, b, dx, rows, mv, wd, k, rfl, _⟩ := h
    rfl
  · obtain ⟨p, a, b, dx, rows, mv, wd, k, rfl, hp, ha, R, hb, hwl, hwv, hT, q⟩ := h
    refine ⟨_, pss_cons (ps_expr (C8.pe_c (c_need_moves T) hr (by decide) (by rfl) (pa_cons (pv 1) pa_nil)))
      (pss_cons (ps_expr (C8.pe_c (c_need_words T) hr (by decide) (by rfl) (pa_cons (pv 2) (pa_cons (pe_callB call_len_seq (by rfl) T.z_len PySem.boot_len (pa_cons (pv 1) pa_nil)) pa_nil))))
      (pss_cons (ps_fld (pv 0) (pe_callTy call_tuple_of (by rfl) T.z_tuple (by decide +kernel) (pa_cons (pe_lc (own := [("line", 3)]) (g := gName 3) (tt := tYes) (by rfl) sc_Watch_init.nd (pi_list (pv 1)) (blkOk_by (own := [("line", 3)]) (N := ["self", "moves", "words", "line"]) (sc := C8.fnScope s_Watch_init) (by decide +kernel))
        (fun _ _ _ _ _ => pg_name (i := 3) sc_Watch_init.nd rfl (Or.inl rfl)) (fun _ _ _ _ _ => pts_nil) (fun _ _ _ _ _ => pe_callTy (r := rTupOf K) call_tuple_of (by rfl) T.z_tuple (by decide +kernel) (pa_cons (pv 3) pa_nil))) pa_nil)) rfl)
      (pss_one (ps_fld (pv 0) (pe_callTy call_tuple_of (by rfl) T.z_tuple (by decide +kernel) (pa_cons (pv 2) pa_nil)) rfl)))), ?_⟩
    have hlen : (rows.map V.ref).length = mv.length := by rw [List.length_map, R.len]
    refine ⟨_, rfl, a, rows, mv, k, rfl, ha, R, hT, fun H1 g1 T1 => ?_⟩
    have ha1 := g1.lst ha (by simp)
    have hb1 := g1.lst hb (by simp)
    refine ⟨_, rfl, _, rfl, a, _, rfl, .inl (.of ha1), b, wd, by rw [hlen, hwl] <;> rfl, hb1, hwv, fun H2 g2 => ?_⟩
    have g12 := g1.trans g2.gx
    have ha2 := g2.all _ _ ha1
    have hp2 := g12.ins hp (by simp)
    refine ⟨_, rfl, a, rfl, ⟨_, .of ha2⟩, fun D hD => ?_⟩
    refine lc_it (walk_list (xs := rows.map V.ref)) (fun i Hx => Gr [] H2 Hx ∧ ∃ ts : List Addr, ts.length = i ∧ Hx D = some (.lst (ts.map V.ref)) ∧ ∀ (j : Nat) (t : Addr) (l : List Nat), ts[j]? = some t → mv[j]? = some l → Hx t = some (.tup (nvs l))) ⟨.new hD, [], rfl, upd_same, fun j t l e _ => by simp at e⟩ (fun i Hx _ h => h.1.sqL (.of ha2)) ?_ ?_
    · rintro i x Hy0 Hx hi ⟨g, ts, hts, hDx, hall⟩ ⟨rfl, hx⟩
      rw [List.getElem?_map] at hx
      obtain ⟨r, hr', rfl⟩ := Option.map_eq_some_iff.mp hx
      have hi2 : i < mv.length := by rw [hlen] at hi; exact hi
      have hl : mv[i]? = some mv[i] := List.getElem?_eq_getElem hi2
      have hs : Seq Hx r (nvs mv[i]) := (g12.seq (R.row i r _ hr' hl) (by simp)).gr g
      have fin : ∀ (t : Addr) (Hy : Hp), Gr [] H2 Hy → Hy D = some (.lst (ts.map V.ref)) → (∀ (j : Nat) (t : Addr) (l : List Nat), ts[j]? = some t → mv[j]? = some l → Hy t = some (.tup (nvs l))) → Hy t = some (.tup (nvs mv[i])) →
          ∃ acc, Hy D = some (.lst acc) ∧ acc.length < sizeLine ∧ (Gr [] H2 (upd Hy D (.lst (acc ++ [V.ref t]))) ∧ ∃ ts : List Addr, ts.length = i + 1 ∧ (upd Hy D (.lst (acc ++ [V.ref t]))) D = some (.lst (ts.map V.ref)) ∧ ∀ (j : Nat) (t' : Addr) (l : List Nat), ts[j]? = some t' → mv[j]? = some l → (upd Hy D (.lst (acc ++ [V.ref t]))) t' = some (.tup (nvs l))) := fun t Hy gy hDy hally hty => by
        have n6 := R.n6
        refine ⟨_, hDy, by rw [sizeLine_eq, List.length_map]; omega, gy.put0 hD, ts ++ [t], by rw [List.length_append, hts] <;> rfl, by rw [upd_same, List.map_append] <;> rfl, fun j t' l e1 e2 => ?_⟩
        have ht' : Hy t' = some (.tup (nvs l)) := by
          by_cases hj : j < ts.length
          · rw [List.getElem?_append_left hj] at e1
            exact hally j t' l e1 e2
          · have : j = ts.length := by
              have := (List.getElem?_eq_some_iff.mp e1).1
              rw [List.length_append, List.length_singleton] at this
              omega
            subst this
            rw [List.getElem?_append_right (Nat.le_refl _), Nat.sub_self] at e1
            cases e1
            rw [hts, hl] at e2
            cases e2
            exact hty
        rw [upd_ne (ne_of ht' hDy (fun z => nomatch z))]
        exact ht'
      rcases hs with hs | hs
      · refine ⟨rfl, _, rfl, r, _, rfl, .inl ⟨.of hs, fun t ht => ?_⟩⟩
        exact fin t _ (g.trans (.new ht)) (by rw [upd_ne (ne_of_none hDx ht)]; exact hDx) (fun j t' l e1 e2 => by rw [upd_ne (ne_of_none (hall j t' l e1 e2) ht)]; exact hall j t' l e1 e2) upd_same
      · exact ⟨rfl, _, rfl, r, _, rfl, .inr ⟨.of hs, fin r _ g hDx hall hs⟩⟩
    · rintro Hx ⟨g, ts, hts, hDx, hall⟩
      have hp3 := g.all _ _ hp2
      refine ⟨D, _, rfl, .inl ⟨.of hDx, fun tm htm => ?_⟩⟩
      have npm : p ≠ tm := ne_of_none hp3 htm
      refine ⟨_, rfl, p, CW, dx, [], rfl, (by rw [upd_ne npm]; exact hp3), T.clWatch, T.nWatch_own_moves, (by show 0 < 1000; decide), ?_⟩
      have hb3 : Hx b = some (.lst (nvs wd)) := (g2.trans g).all _ _ hb1
      have nbp : b ≠ p := ne_of hb hp (fun z => nomatch z)
      refine ⟨_, rfl, b, _, rfl, .inl ⟨.of (show upd (upd Hx tm (.tup (ts.map V.ref))) p _ b = _ by rw [upd_ne nbp, upd_ne (ne_of_none hb3 htm)]; exact hb3), fun tw htw => ?_⟩⟩
      have npw : p ≠ tw := fun z => by
        rw [z, upd_same] at htw
        cases htw
      have htw2 : Hx tw = none := by
        rw [upd_ne npw.symm] at htw
        by_cases hz : tw = tm
        · rw [hz, upd_same] at htw
          cases htw
        · rw [upd_ne hz] at htw
          exact htw
      have nmw : tm ≠ tw := fun z => by
        rw [← z, upd_ne npm.symm, upd_same] at htw
        cases htw
      refine ⟨_, rfl, p, CW, dx, _, rfl, (by rw [upd_ne npw, upd_same]), T.clWatch, T.nWatch_own_words, (by show 1 < 1000; decide), ?_⟩
      have hput : putF "own_words" (.ref tw) (putF "own_moves" (.ref tm) []) = wfs tm tw := by
        have ne : ¬ (("own_moves" : Str) = "own_words") := by decide +kernel
        show (if ("own_moves" : Str) = "own_words" then _ else (("own_moves" : Str), V.ref tm) :: putF "own_words" (V.ref tw) []) = _
        rw [if_neg ne] <;> rfl
      have gA : Gx [] H Hx := g12.trans g.gx
      have keep : ∀ b o, Hx b = some o → b ≠ p → upd (upd (upd (upd Hx tm (.tup (ts.map V.ref))) p (.ins CW dx (putF "own_moves" (.ref tm) []))) tw (.tup (nvs wd))) p (.ins CW dx (wfs tm tw)) b = some o := fun b o e nb => by
        rw [upd_ne nb, upd_ne (ne_of_none e htw2), upd_ne nb, upd_ne (ne_of_none e htm)]
        exact e
      have gB : Gx [p] Hx (upd (upd (upd (upd Hx tm (.tup (ts.map V.ref))) p (.ins CW dx (putF "own_moves" (.ref tm) []))) tw (.tup (nvs wd))) p (.ins CW dx (wfs tm tw))) := fun b o e n _ => by
        by_cases hbp : b = p
        · subst hbp
          rw [hp3] at e
          cases e
          exact (n (by simp)).elim
        · exact keep b o e hbp
      rw [hput]
      refine q _ ((gA.more (by simp)).trans gB) (fun pr hpr => ?_) ⟨dx, tm, tw, upd_same, ⟨⟨ts, ?_, ?_, fun j t l e1 e2 => ?_⟩, ?_⟩⟩
      · have T2 := tabs_gr (tabs_gr T1 g2) g
        obtain ⟨ps, e1, e2, e3⟩ := T2 pr hpr
        refine ⟨ps, keep _ _ e1 (ne_of e1 hp3 (fun z => nomatch z)), e2, fun pos cv hc => ?_⟩
        obtain ⟨c, e4, e5⟩ := e3 pos cv hc
        exact ⟨c, e4, keep _ _ e5 (ne_of e5 hp3 (fun z => by unfold LamX.CodeO at z; cases z))⟩
      · rw [upd_ne npm.symm, upd_ne nmw, upd_ne npm.symm, upd_same]
      · rw [hts, List.length_map, R.len]
      · have e3 := hall j t l e1 e2
        exact keep _ _ e3 (ne_of e3 hp3 (fun z => nomatch z))
      · rw [upd_ne npw.symm, upd_same]
end
end K75
end
section
set_option Elab.async false
set_option linter.all false
set_option maxRecDepth 100000
set_option maxHeartbeats 4000000
/-! watches read; need_watch, heard -/
namespace K75
open PySem PySem.Spec PyProof.Rows L2 HW HX
section
variable {X : Cx} {CW CO : Addr} {j : Nat}
theorem sc_moves : FnScope ["self"] ["self"] (C8.fnScope s_Watch_moves) := C8.fnScope_by (by decide +kernel)
theorem sc_words : FnScope ["self"] ["self"] (C8.fnScope s_Watch_words) := C8.fnScope_by (by decide +kernel)
theorem sc_kinds : FnScope ["self"] ["self"] (C8.fnScope s_Watch_kinds) := C8.fnScope_by (by decide +kernel)
theorem pe_moves {e : Expr} {ta : TE} {pos : Pos} (T : Txt X.K X.mg X.base CW CO) (hr : Room j X.A) (hj : 2 ≤ j) (he : PE X e ta) (hab : attributeBase e "moves" X.env (eval e X.env) = eval e X.env := by rfl) :
    PE X (.Attribute e "moves" pos) (tProp CW (getSp CW "own_moves") [] C8.E0 ta) := by
  obtain ⟨p, f, fd, PO, F, df⟩ := T.pWatch_moves
  have b : L2.Binds X.K fd ["self"] [] := F.binds (ps := ["self"]) df fun _ _ _ _ _ _ us hl => match us, hl with | [_], _ => rfl
  obtain ⟨oc, od, dV, kV, doc, pm, an, cdv, ct, osl, rfl, lk, hcd⟩ := F.ex
  exact pe_prop (k := 1) he T.clWatch PO (fn_getter (k := 0) lk hcd sc_moves rfl rfl T.clWatch T.nWatch_own_moves) (hr.mono hj) b .nil C8.pass0 hab
theorem pe_words {e : Expr} {ta : TE} {pos : Pos} (T : Txt X.K X.mg X.base CW CO) (hr : Room j X.A) (hj : 2 ≤ j) (he : PE X e ta) (hab : attributeBase e "words" X.env (eval e X.env) = eval e X.env := by rfl) :
    PE X (.Attribute e "words" pos) (tProp CW (getSp CW "own_words") [] C8.E0 ta) := by
  obtain ⟨p, f, fd, PO, F, df⟩ := T.pWatch_words
  have b : L2.Binds X.K fd ["self"] [] := F.binds (ps := ["self"]) df fun _ _ _ _ _ _ us hl => match us, hl with | [_], _ => rfl
  obtain ⟨oc, od, dV, kV, doc, pm, an, cdv, ct, osl, rfl, lk, hcd⟩ := F.ex
  exact pe_prop (k := 1) he T.clWatch PO (fn_getter (k := 0) lk hcd sc_words rfl rfl T.clWatch T.nWatch_own_words) (hr.mono hj) b .nil C8.pass0 hab
/-- watch.moves[place] -/
theorem pe_goals {e0 e1 : Expr} {i : Nat} {p1 p2 : Pos} (T : Txt X.K X.mg X.base CW CO) (hr : Room j X.A) (hj : 2 ≤ j) (h0 : PE X e0 (tVar 0)) (h1 : PE X e1 (tVar i)) (hs : PlainIx e1 := by intro _ _; rfl) (hab : attributeBase e0 "moves" X.env (eval e0 X.env) = eval e0 X.env := by rfl) :
    PE X (.Subscript (.Attribute e0 "moves" p1) e1 p2) (tGoals CW i) := PE.of (pe_ix ix_tup (pe_moves T hr hj h0 hab) h1 hs) fun _ _ _ => goals_raw
/-- watch.words[goal] -/
theorem pe_wordat {e0 e1 : Expr} {i : Nat} {p1 p2 : Pos} (T : Txt X.K X.mg X.base CW CO) (hr : Room j X.A) (hj : 2 ≤ j) (h0 : PE X e0 (tVar 0)) (h1 : PE X e1 (tVar i)) (hs : PlainIx e1 := by intro _ _; rfl) (hab : attributeBase e0 "words" X.env (eval e0 X.env) = eval e0 X.env := by rfl) :
    PE X (.Subscript (.Attribute e0 "words" p1) e1 p2) (tWord CW i) := PE.of (pe_ix ix_tup (pe_words T hr hj h0 hab) h1 hs) fun _ _ _ => word_raw
/-- watch.kinds -/
def spKinds (CW : Addr) : Sp := fun vs H Q _ => ∃ p w k, vs = [.ref p] ∧ WatchAt CW H p w ∧ w.Ok k ∧ Q (.int (k : Int)) H
theorem pe_kinds {e : Expr} {ta : TE} {pos : Pos} (T : Txt X.K X.mg X.base CW CO) (hr : Room j X.A) (hj : 2 ≤ j) (he : PE X e ta) (hab : attributeBase e "kinds" X.env (eval e X.env) = eval e X.env := by rfl) :
    PE X (.Attribute e "kinds" pos) (tProp CW (spKinds CW) [] C8.E0 ta) := by
  obtain ⟨p, f, fd, PO, F, df⟩ := T.pWatch_kinds
  have b : L2.Binds X.K fd ["self"] [] := F.binds (ps := ["self"]) df fun _ _ _ _ _ _ us hl => match us, hl with | [_], _ => rfl
  refine pe_prop (k := 1) (CX := C8.CX0) he T.clWatch PO (C8.fn0 (k := 0) (N := ["self"]) F sc_kinds (fun vs H Q E h => ?_) (fun cdv A outer s H vs Q E hr h => ?_)) (hr.mono hj) b .nil C8.pass0 hab
  · obtain ⟨p, w, k, rfl, _⟩ := h
    rfl
  · obtain ⟨p, w, k, rfl, ⟨dx, tm, tw, hp, d⟩, ok, q⟩ := h
    refine ⟨_, pss_one (ps_ret (pe_callB call_len_seq (by rfl) T.z_len PySem.boot_len (pa_cons (pe_ix ix_tup (pe_fld (pv 0) rfl) pe_int (fun _ _ => rfl)) pa_nil))), ?_⟩
    obtain ⟨rows, r, e1, e2, e3⟩ := d.row (i := 0) (by have := ok.n1; omega)
    refine ⟨_, rfl, p, CW, dx, _, .ref tm, rfl, hp, T.clWatch, T.nWatch_own_moves, rfl, tm, _, 0, .ref r, rfl, rfl, .of e1, atI_of (i := 0) (by rw [List.getElem?_map, e2] <;> rfl), r, _, rfl, .inr (.of e3), ?_⟩
    rw [nvs_length, ok.goals_len (by have := ok.n1; omega)]
    exact q
end
section
variable {P : Program} {w : World} {K : PySem.W.Frag} {mg : Str → Option Value} {base : Heap} {CW CO : Addr}
theorem sc_need_watch : FnScope ["watch", "part"] ["watch", "part"] (C8.fnScope s_need_watch) := C8.fnScope_by (by decide +kernel)
def spNeedWatch (CW : Addr) : Sp := fun vs H Q _ => ∃ p wt, vs = [.ref p, .non] ∧ WatchAt CW H p wt ∧ Q .non H
theorem c_need_watch (T : Txt K mg base CW CO) : C8.Cal P w K mg base 1 "need_watch" (spNeedWatch CW) [.non] := by
  obtain ⟨f, fd, F, hm⟩ := T.d_need_watch
  obtain ⟨ds, hv, b⟩ := F.binds1 (ps := ["watch", "part"]) 1 0 (by simp) rfl (fun T kV doc pm an cdv ct us its h1 h2 => match us, its, h1, h2 with | [_], [_], _, _ => ⟨_, rfl, rfl⟩)
  refine ⟨f, fd, _, ds, F.ok (k := 0) (N := ["watch", "part"]) sc_need_watch (fun vs H Q E h => ?_) (fun cdv A outer s H vs Q E hr h => ?_), hm, F.kp, b, hv⟩
  · obtain ⟨p, wt, rfl, _⟩ := h
    rfl
  · obtain ⟨p, wt, rfl, ⟨dx, tm, tw, hp, d⟩, q⟩ := h
    have main : ∃ t, PSs (cxOf C8.CX0 P w K mg base ["watch", "part"] "need_watch" (C8.fnScope s_need_watch) f cdv A outer s H E).nox (C8.fnBody s_need_watch) t ∧ t { nx := fun _ H' => Q .non H', rt := Q } (start ["watch", "part"] [.ref p, .non]) H := by
      refine ⟨_, pss_one (ps_if (pt_not (pt_val (pe_callB (C8.call_isC T.isWatch) (by rfl) T.z_isinstance (by decide +kernel) (pa_cons (pv 0) (pa_cons (pe_glob (v := .ref CW) (by rfl) T.mgWatch rfl) pa_nil))))) (pss_one ps_never) pss_nil), ?_⟩
      exact ⟨_, rfl, p, dx, _, rfl, hp, true, rfl, q⟩
    obtain ⟨t, h1, h2⟩ := main
    exact ⟨t, h1.nox, h2⟩
end
end K75
end
section
set_option Elab.async false
set_option linter.all false
set_option maxRecDepth 100000
set_option maxHeartbeats 4000000
/-! heard: words_behind -/
namespace K75
open PySem PySem.Spec PyProof.Rows L2 HW HX
section
variable {P : Program} {w : World} {K : PySem.W.Frag} {mg : Str → Option Value} {base : Heap} {CW CO : Addr}
theorem sc_is_heard : FnScope ["thing", "word"] ["thing"] (C8.fnScope s_is_heard) := C8.fnScope_by (by decide +kernel)
def spIsHeard : Sp := fun vs H Q _ => ∃ (a : Addr) (hs : List Nat), vs = [.ref a] ∧ H a = some (.tup (nvs hs)) ∧ (∀ v ∈ hs, v ≤ 3) ∧ hs.length ≤ 300 ∧ ∀ H', Gr [] H H' → Q (.bl true) H'
theorem c_is_heard (T : Txt K mg base CW CO) : C8.Cal P w K mg base 3 "is_heard" spIsHeard [] := by
  obtain ⟨f, fd, D, df⟩ := T.d_is_heard
  obtain ⟨u, mu, ru⟩ := T.g_MOST_EVENTS
  refine C8.cal0 D (D.fn.binds (ps := ["thing"]) df fun _ _ _ _ _ _ us hl => match us, hl with | [_], _ => rfl) .nil sc_is_heard (fun vs H Q E h => ?_) (fun cdv A outer s H vs Q E hr h => ?_)
  · obtain ⟨a, hs, rfl, _⟩ := h
    rfl
  · obtain ⟨a, hs, rfl, ha, hv, hn, q⟩ := h
    refine ⟨_, pss_one (ps_ret (pe_and (C8.pe_c (c_is_list T) hr (by decide) (by rfl) (pa_cons (pv 0) pa_nil)) (pe_and (pe_cmpR op_le (pe_callB call_len_seq (by rfl) T.z_len PySem.boot_len (pa_cons (pv 0) pa_nil)) (pe_glob (by rfl) mu ru) (nomark _))
      (pe_one (pe_callB (cr_all rfl) (by rfl) T.z_all (by decide +kernel) (pa_cons (pe_lc (own := [("word", 1)]) (g := gName 1) (tt := tYes) (by rfl) sc_is_heard.nd (pi_tup (pv 0)) (blkOk_by (own := [("word", 1)]) (N := ["thing", "word"]) (sc := C8.fnScope s_is_heard) (by decide +kernel))
        (fun _ _ _ _ _ => pg_name (i := 1) sc_is_heard.nd rfl (Or.inl rfl)) (fun _ _ _ _ _ => pts_nil) (fun _ _ _ _ _ => C8.pe_c (c_is_between T) hr (by decide) (by rfl) (pa_cons (pv 1) (pa_cons pe_int (pa_cons pe_int pa_nil))))) pa_nil)))))), ?_⟩
    refine ⟨_, rfl, a, _, rfl, .inr ha, fun H1 g1 => ⟨true, rfl, ?_⟩⟩
    have ha1 := g1.tup ha
    refine iteT ⟨_, rfl, a, _, rfl, .inr (.of ha1), _, _, rfl, rfl, _, rfl, ?_⟩
    rw [nvs_length]
    refine ite2 (fun _ => ?_) (fun z => absurd (decide_eq_true (show (hs.length : Int) ≤ 300 by omega)) z)
    refine ⟨_, rfl, a, rfl, ⟨_, .of ha1⟩, fun D hD => ?_⟩
    refine lc_it (walk_tup (xs := nvs hs)) (fun i Hx => Gr [] H1 Hx ∧ Hx D = some (.lst ((List.replicate i true).map V.bl))) ⟨.new hD, upd_same⟩ (fun i Hx _ h => h.1.sqT (.of ha1)) ?_ ?_
    · rintro i x Hy Hx hi ⟨g, hx⟩ ⟨rfl, hi2⟩
      obtain ⟨m, hm, rfl⟩ := nvs_get hi2
      have hmn := hv m (List.mem_of_getElem? hm)
      refine ⟨rfl, _, rfl, (m : Int), 0, 3, rfl, _, hx, by rw [sizeLine_eq, List.length_map, List.length_replicate]; rw [nvs_length] at hi; omega, g.put0 hD, ?_⟩
      have e : decide ((0 : Int) ≤ (m : Int) ∧ (m : Int) ≤ 3) = true := decide_eq_true ⟨by omega, by omega⟩
      rw [e, upd_same, List.replicate_succ', List.map_append] <;> rfl
    · rintro Hx ⟨g, hx⟩
      refine ⟨D, _, rfl, .of hx, ?_⟩
      have e : (List.replicate (nvs hs).length true).all id = true := by simp
      rw [e]
      exact q _ (g1.trans g)
theorem sc_need_heard : FnScope ["watch", "heard"] ["watch", "heard"] (C8.fnScope s_need_heard) := C8.fnScope_by (by decide +kernel)
def spNeedHeard (CW : Addr) : Sp := fun vs H Q _ => ∃ (p a : Addr) (wt : Wt) (hs : List Nat), vs = [.ref p, .ref a] ∧ WatchAt CW H p wt ∧ H a = some (.tup (nvs hs)) ∧ (∀ v ∈ hs, v ≤ 3) ∧ hs.length ≤ 300 ∧ ∀ H', Gr [] H H' → Q .non H'
theorem c_need_heard (T : Txt K mg base CW CO) : C8.Cal P w K mg base 4 "need_heard" (spNeedHeard CW) [] := by
  obtain ⟨f, fd, D, df⟩ := T.d_need_heard
  refine C8.cal0 D (D.fn.binds (ps := ["watch", "heard"]) df fun _ _ _ _ _ _ us hl => match us, hl with | [_, _], _ => rfl) .nil sc_need_heard (fun vs H Q E h => ?_) (fun cdv A outer s H vs Q E hr h => ?_)
  · obtain ⟨p, a, wt, hs, rfl, _⟩ := h
    rfl
  · obtain ⟨p, a, wt, hs, rfl, hp, ha, hv, hn, q⟩ := h
    refine ⟨_, pss_cons (ps_expr (C8.pe_c (c_need_watch T) hr (by decide) (by rfl) (pa_cons (pv 0) pa_nil)))
      (pss_one (ps_if (pt_not (pt_val (C8.pe_c (c_is_heard T) hr (by decide) (by rfl) (pa_cons (pv 1) pa_nil)))) (pss_one ps_never) pss_nil)), ?_⟩
    exact ⟨_, rfl, p, wt, rfl, hp, _, rfl, a, hs, rfl, ha, hv, hn, fun H1 g1 => ⟨true, rfl, q _ g1⟩⟩
/-! ### words_behind -/
theorem sc_words_behind : FnScope ["watch", "places", "found", "place", "goal", "word"] ["watch", "places"] (C8.fnScope s_words_behind) := C8.fnScope_by (by decide +kernel)
def spWordsBehind (K : PySem.W.Frag) (CW : Addr) : Sp := fun vs H Q _ => ∃ (p a : Addr) (wt : Wt) (k : Nat) (L : List Nat), vs = [.ref p, .ref a] ∧ WatchAt CW H p wt ∧ wt.Ok k ∧ SqT K H a (nvs L) ∧ (∀ g ∈ L, g < wt.n) ∧
  ∀ H' d, Gr [] H H' → H d = none → LotsAt H' d (wb wt L) → Q (.ref d) H'
theorem c_words_behind (T : Txt K mg base CW CO) : C8.Cal P w K mg base 3 "words_behind" (spWordsBehind K CW) [] := by
  obtain ⟨f, fd, D, df⟩ := T.d_words_behind
  refine C8.cal0 D (D.fn.binds (ps := ["watch", "places"]) df fun _ _ _ _ _ _ us hl => match us, hl with | [_, _], _ => rfl) .nil sc_words_behind (fun vs H Q E h => ?_) (fun cdv A outer s H vs Q E hr h => ?_)
  · obtain ⟨p, a, wt, k, L, rfl, _⟩ := h
    rfl
  · obtain ⟨p, a, wt, k, L, rfl, hp, ok, ha, hL, q⟩ := h
    have hu := hu_of hr
    refine ⟨_, pss_cons (ps_set (i := 2) sc_words_behind.nd rfl (Or.inr rfl) pe_dnewK)
      (pss_cons (ps_for PassesOwn.never rfl (pi_tup (pv 1)) (pg_name (i := 3) sc_words_behind.nd rfl (Or.inl rfl))
        (pss_one (ps_for PassesOwn.never rfl (pi_tup (pe_goals (i := 3) T hr (by decide) (pv 0) (pv 3))) (pg_name (i := 4) sc_words_behind.nd rfl (Or.inl rfl))
          (pss_cons (ps_if (pt_cmp (pc_dnotin hu (pe_wordat (i := 4) T hr (by decide) (pv 0) (pv 4)) (pv 2))) (pss_one (ps_dput hu (pv 2) (pe_wordat (i := 4) T hr (by decide) (pv 0) (pv 4)) pe_dnewK rfl)) pss_nil)
          (pss_one (ps_dput hu (pe_dget hu (pv 2) (pe_wordat (i := 4) T hr (by decide) (pv 0) (pv 4)) (fun _ _ => rfl)) (pv 4) pe_non rfl))))))
      (pss_one (ps_ret (pe_dc (own := [("word", 5)]) (g := gName 5) (tt := tYes) (by rfl) sc_words_behind.nd (pi_list (pe_callB (call_sortedDI rfl) (by rfl) T.z_sorted (by decide +kernel) (pa_cons (pv 2) pa_nil))) (blkOk_by (own := [("word", 5)]) (N := ["watch", "places", "found", "place", "goal", "word"]) (sc := C8.fnScope s_words_behind) (by decide +kernel))
        (fun _ _ _ _ _ => pg_name (i := 5) sc_words_behind.nd rfl (Or.inl rfl)) (fun _ _ _ _ _ => pts_nil) (fun _ _ _ _ _ => pv 5)
        (fun _ _ _ _ _ => pe_callTy (r := rTupOf K) call_tuple_of (by rfl) T.z_tuple (by decide +kernel) (pa_cons (pe_callB (call_sortedDI rfl) (by rfl) T.z_sorted (by decide +kernel) (pa_cons (pe_dget hu (pv 2) (pv 5) (fun _ _ => rfl)) pa_nil)) pa_nil)))))), ?_⟩
    intro F hF
    have step2 : ∀ (D : Ends) (Hz : Hp) (ws : WD) (S V : List Nat) (g : Nat) (x3 : Option L2.V), FInv wt H Hz F S V ws → wt.word g ∈ V → g < wt.n → (∀ v ∈ V, v ≤ 3) → (∀ s ∈ S, s < wt.n) →
        (∀ Hw ws', FInv wt H Hw F (g :: S) V ws' → (∀ b o, Hz b = some o → (∃ xs, o = .tup xs) → Hw b = some o) → D.nx [some (.ref p), some (.ref a), some (.ref F), x3, some (.int (g : Int)), none] Hw) →
        sDPut (tDGet (tVar 2) (tWord CW 4)) (tVar 4) (tC L2.V.non) D [some (.ref p), some (.ref a), some (.ref F), x3, some (.int (g : Int)), none] Hz := by
      intro D Hz ws S V g x3 I hv hg hV hS hk
      obtain ⟨x, hx, hxv⟩ := List.mem_map.mp ((I.keys _).mpr hv)
      refine ⟨_, rfl, p, wt, k, g, rfl, hp.gr0 I.gr, ok, rfl, hg, F, .ref x.2.1, rfl, ?_, _, rfl, x.2.1, _, rfl, DPut.k (k := Sum.inl (g : Int)) (I.each x hx).2.1 ?_, ?_⟩
      · have := DGet.k (k := Sum.inl ((wt.word g : Nat) : Int)) I.hF
        rw [← hxv, wsK_val I.nd hx] at this
        rw [← hxv]
        exact this
      · have := I.goals_few hS hx
        have n6 := ok.n6
        show (gsK x.2.2).length < sizeLine
        unfold gsK
        rw [List.length_map, sizeLine_eq]
        omega
      · obtain ⟨ws', I'⟩ := I.goal hx hxv.symm
        refine hk _ ws' I' fun b o e ⟨xs, ho⟩ => ?_
        subst ho
        rw [upd_ne (ne_of e (I.each x hx).2.1 (fun z => nomatch z))]
        exact e
    refine ⟨_, rfl, a, rfl, ⟨_, (Gr.new (ms := []) hF).sqT ha⟩, for_it (walk_tup (xs := nvs L)) (fun i σ Hx => ∃ S ws x3 x4, FInv wt H Hx F S (S.map wt.word) ws ∧ (∀ g, g ∈ S ↔ ∃ q ∈ L.take i, g ∈ wt.goals q) ∧ σ = [some (.ref p), some (.ref a), some (.ref F), x3, x4, none])
      ⟨[], [], none, none, FInv.first hF, by simp, rfl⟩ (fun i σ Hx _ ⟨S, ws, x3, x4, I, _⟩ => I.gr.sqT ha) ?_ ?_⟩
    · rintro i x σ Hy Hx hi ⟨S, ws, x3, x4, I, hS, rfl⟩ ⟨rfl, hx⟩
      obtain ⟨pl, hpl, rfl⟩ := nvs_get hx
      have hpn := hL pl (List.mem_of_getElem? hpl)
      have htake : L.take (i + 1) = L.take i ++ [pl] := by rw [List.take_add_one, hpl] <;> rfl
      refine ⟨p, wt, pl, rfl, hp.gr0 I.gr, rfl, hpn, fun r hr => ⟨r, rfl, ⟨_, .of hr⟩, for_it (walk_tup (xs := nvs (wt.goals pl))) (fun jj σ Hx => ∃ S ws x4, FInv wt H Hx F S (S.map wt.word) ws ∧ (∀ g, g ∈ S ↔ (∃ q ∈ L.take i, g ∈ wt.goals q) ∨ g ∈ (wt.goals pl).take jj) ∧ Hx r = some (.tup (nvs (wt.goals pl))) ∧ σ = [some (.ref p), some (.ref a), some (.ref F), some (.int (pl : Int)), x4, none])
        ⟨S, ws, x4, I, fun g => by rw [hS g]; simp, hr, rfl⟩ (fun jj σ Hx _ ⟨S, ws, x4, I, _, hr, _⟩ => .of hr) ?_ ?_⟩⟩
      · rintro jj y σ2 Hy2 Hw hj ⟨S2, ws2, y4, I2, hS2, hr2, rfl⟩ ⟨rfl, hy⟩
        obtain ⟨g, hgj, rfl⟩ := nvs_get hy
        have hgm : g ∈ wt.goals pl := List.mem_of_getElem? hgj
        have hgn := ok.goals_lt hgm
        have htk : (wt.goals pl).take (jj + 1) = (wt.goals pl).take jj ++ [g] := by rw [List.take_add_one, hgj] <;> rfl
        have hSn : ∀ s ∈ S2, s < wt.n := fun s hs => by
          rcases (hS2 s).mp hs with ⟨q, _, hq⟩ | hq
          · exact ok.goals_lt hq
          · exact ok.goals_lt (List.mem_of_mem_take hq)
        have hS' : ∀ s, s ∈ g :: S2 ↔ (∃ q ∈ L.take i, s ∈ wt.goals q) ∨ s ∈ (wt.goals pl).take (jj + 1) := fun s => by
          rw [htk, List.mem_cons, hS2 s, List.mem_append, List.mem_singleton]
          constructor
          · rintro (z | z | z)
            · exact .inr (.inr z)
            · exact .inl z
            · exact .inr (.inl z)
          · rintro (z | z | z)
            · exact .inr (.inl z)
            · exact .inr (.inr z)
            · exact .inl z
        have hW3 : ∀ v ∈ S2.map wt.word, v ≤ 3 := fun v hv => by
          obtain ⟨s, _, rfl⟩ := List.mem_map.mp hv
          exact ok.word_le s
        by_cases hin : wt.word g ∈ S2.map wt.word
        · obtain ⟨x, hx, hxv⟩ := List.mem_map.mp ((I2.keys _).mpr hin)
          refine ⟨p, wt, k, g, rfl, hp.gr0 I2.gr, ok, rfl, hgn, _, rfl, F, some (.ref x.2.1), rfl, ?_, _, rfl, ?_⟩
          · have := DGet.k (k := Sum.inl ((wt.word g : Nat) : Int)) I2.hF
            rw [← hxv, wsK_val I2.nd hx] at this
            rw [← hxv]
            exact this
          · refine iteF (step2 _ _ ws2 S2 (S2.map wt.word) g _ I2 hin hgn hW3 hSn fun Hv ws' I3 ht => ⟨g :: S2, ws', _, I3.congr (fun _ => Iff.rfl) (fun v => ?_), hS', ht _ _ hr2 ⟨_, rfl⟩, rfl⟩)
            rw [List.map_cons, List.mem_cons]
            exact ⟨.inr, fun z => z.elim (fun e => e ▸ hin) fun h => h⟩
        · have hnone := wsK_none (ws := ws2) (v := wt.word g) (fun z => hin ((I2.keys _).mp z))
          refine ⟨p, wt, k, g, rfl, hp.gr0 I2.gr, ok, rfl, hgn, _, rfl, F, none, rfl, ?_, _, rfl, ?_⟩
          · have := DGet.k (k := Sum.inl ((wt.word g : Nat) : Int)) I2.hF
            rw [hnone] at this
            exact this
          · refine iteT fun d hd => ?_
            have gd : Gr [] Hw (upd Hw d (.dK [])) := .new hd
            have hFd : upd Hw d (.dK []) F = some (.dK (wsK ws2)) := gd.all _ _ I2.hF
            refine ⟨_, rfl, p, wt, k, g, rfl, hp.gr0 (I2.gr.trans gd), ok, rfl, hgn, F, _, rfl, DPut.k (k := Sum.inl ((wt.word g : Nat) : Int)) hFd ?_, ?_⟩
            · have := I2.few ok hW3
              unfold wsK
              rw [List.length_map, sizeLine_eq]
              omega
            · have I3 := I2.word hin (fun s hs => List.mem_map.mpr ⟨s, hs, rfl⟩) hd
              refine step2 _ _ _ S2 (wt.word g :: S2.map wt.word) g _ I3 List.mem_cons_self hgn (fun v hv => ?_) hSn fun Hv ws' I4 ht => ⟨g :: S2, ws', _, I4, hS', ht _ _ ?_ ⟨_, rfl⟩, rfl⟩
              · rcases List.mem_cons.mp hv with rfl | hv
                · exact ok.word_le g
                · exact hW3 v hv
              · rw [upd_ne (ne_of hr2 I2.hF (fun z => nomatch z)), upd_ne (ne_of_none hr2 hd)]
                exact hr2
      · rintro σ2 Hw ⟨S2, ws2, y4, I2, hS2, hr2, rfl⟩
        refine ⟨S2, ws2, _, _, I2, fun g => ?_, rfl⟩
        rw [hS2 g, htake, nvs_length, List.take_length]
        constructor
        · rintro (⟨q, hq, hg⟩ | hg)
          · exact ⟨q, List.mem_append_left _ hq, hg⟩
          · exact ⟨pl, by simp, hg⟩
        · rintro ⟨q, hq, hg⟩
          rcases List.mem_append.mp hq with hq | hq
          · exact .inl ⟨q, hq, hg⟩
          · rw [List.mem_singleton] at hq
            subst hq
            exact .inr hg
    · rintro σ Hx ⟨S, ws, x3, x4, I, hS, rfl⟩
      rw [nvs_length, List.take_length] at hS
      have hSn : ∀ s ∈ S, s < wt.n := fun s hs => let ⟨q, _, hq⟩ := (hS s).mp hs; ok.goals_lt hq
      have hW3 : ∀ v ∈ S.map wt.word, v ≤ 3 := fun v hv => by
        obtain ⟨s, _, rfl⟩ := List.mem_map.mp hv
        exact ok.word_le s
      have hgl : ∀ x ∈ ws, ∀ g, g ∈ x.2.2 ↔ g ∈ gl wt L x.1 := fun x hx g => by
        rw [(I.each x hx).2.2.2.2 g, hS g, mem_gl ok]
        exact ⟨fun z => ⟨z.2, z.1⟩, fun z => ⟨z.2, z.1⟩⟩
      have hkey : ∀ v, v ∈ (wb wt L).map (·.1) ↔ v ∈ ws.map (·.1) := fun v => by
        rw [I.keys v, wb_keys, List.mem_filter, List.mem_range, decide_eq_true_eq, List.mem_map]
        constructor
        · rintro ⟨_, hne⟩
          obtain ⟨g, hg⟩ := List.exists_mem_of_ne_nil _ hne
          obtain ⟨h1, h2⟩ := (mem_gl ok).mp hg
          exact ⟨g, (hS g).mpr h2, h1⟩
        · rintro ⟨g, hg, rfl⟩
          refine ⟨by have := ok.word_le g; omega, List.ne_nil_of_mem ((mem_gl ok).mpr ⟨rfl, (hS g).mp hg⟩)⟩
      have hfew := I.few ok hW3
      refine ⟨_, rfl, F, _, ws.map fun x => (x.1 : Int), rfl, .of I.hF, by rw [wsK_keys, List.map_map] <;> rfl, by rw [List.length_map]; omega, fun ys p1 hperm hasc hp1 => ?_⟩
      have hys : ys.map V.int = nvs ((wb wt L).map (·.1)) := sorted_nvs hasc (hperm.nodup_iff.mpr (by
          have e : (ws.map fun x => (x.1 : Int)) = (ws.map (·.1)).map fun g : Nat => (g : Int) := by rw [List.map_map] <;> rfl
          rw [e]
          exact List.Pairwise.map _ (fun a b hab z => hab (by omega)) I.nd)) (by rw [wb_keys]; exact asc_filter) fun z => by
        rw [hperm.mem_iff, List.mem_map]
        constructor
        · rintro ⟨x, hx, rfl⟩
          exact ⟨x.1, (hkey _).mpr (List.mem_map.mpr ⟨x, hx, rfl⟩), rfl⟩
        · rintro ⟨v, hv, rfl⟩
          obtain ⟨x, hx, rfl⟩ := List.mem_map.mp ((hkey v).mp hv)
          exact ⟨x, hx, rfl⟩
      have g1 : Gr [] Hx (upd Hx p1 (.lst (ys.map V.int))) := .new hp1
      refine ⟨p1, rfl, ⟨_, .of upd_same⟩, fun D hD => ?_⟩
      have hwbn : (ys.map V.int).length = (wb wt L).length := by rw [hys, nvs_length, List.length_map]
      refine dc_it (walk_list (xs := ys.map V.int)) (fun i Hy => Gr [] (upd Hx p1 (.lst (ys.map V.int))) Hy ∧ ∃ ts : List Addr, ts.length = i ∧ Hy D = some (.dK (((wb wt L).zip ts).map fun x => (Sum.inl (x.1.1 : Int), V.ref x.2))) ∧ ∀ (j : Nat) (x : Nat × List Nat) (t : Addr), (wb wt L)[j]? = some x → ts[j]? = some t → Hy t = some (.tup (nvs x.2)))
        ⟨.new hD, [], rfl, by rw [upd_same]; simp, fun j x t _ e => by simp at e⟩ (fun i Hy _ h => h.1.sqL (.of upd_same)) ?_ ?_
      · rintro i x Hy0 Hy hi ⟨gy, ts, hts, hDy, hall⟩ ⟨rfl, hxi⟩
        rw [hys] at hxi
        obtain ⟨v, hv, rfl⟩ := nvs_get hxi
        rw [List.getElem?_map] at hv
        obtain ⟨bx, hbx, rfl⟩ := Option.map_eq_some_iff.mp hv
        obtain ⟨bv, bG⟩ := bx
        obtain ⟨_, hbG, _⟩ := mem_wb.mp (List.mem_of_getElem? hbx)
        obtain ⟨x, hx, hxv⟩ := List.mem_map.mp ((hkey bv).mp (List.mem_map.mpr ⟨_, List.mem_of_getElem? hbx, rfl⟩))
        have gxy : Gr [] Hx Hy := g1.trans gy
        obtain ⟨x0, x1, x2, xnd, x4⟩ := I.each x hx
        have x1y := gxy.all _ _ x1
        refine ⟨rfl, _, rfl, _, rfl, _, rfl, F, .ref x.2.1, rfl, ?_, x.2.1, _, x.2.2.map fun g : Nat => (g : Int), rfl, .of x1y, by rw [gsK_keys, List.map_map] <;> rfl, ?_, fun zs p2 zp za hp2 => ?_⟩
        · have := DGet.k (k := Sum.inl ((bv : Nat) : Int)) (gxy.all _ _ I.hF)
          have hxv' : x.1 = bv := hxv
          rw [← hxv', wsK_val I.nd hx] at this
          show DGet Hy F (V.int (bv : Int)) _
          rw [← hxv']
          exact this
        · have := I.goals_few hSn hx
          have := ok.n6
          rw [List.length_map]
          omega
        · have hzs : zs.map V.int = nvs bG := sorted_nvs za (zp.nodup_iff.mpr (List.Pairwise.map _ (fun a b hab z => hab (by omega)) xnd)) (by rw [hbG]; exact asc_gl _ _ _) fun z => by
            have hxv' : x.1 = bv := hxv
            rw [zp.mem_iff, List.mem_map, hbG, ← hxv']
            constructor
            · rintro ⟨g, hg, rfl⟩
              exact ⟨g, (hgl x hx g).mp hg, rfl⟩
            · rintro ⟨g, hg, rfl⟩
              exact ⟨g, (hgl x hx g).mpr hg, rfl⟩
          rw [hzs]
          refine ⟨p2, _, rfl, .inl ⟨.of upd_same, fun t ht => ?_⟩⟩
          have g2 : Gr [] Hy (upd Hy p2 (.lst (nvs bG))) := .new hp2
          have g3 : Gr [] Hy (upd (upd Hy p2 (.lst (nvs bG))) t (.tup (nvs bG))) := g2.trans (.new ht)
          have hDz := g3.all _ _ hDy
          have gD : Gr [] (upd Hx p1 (.lst (ys.map V.int))) (upd (upd Hy p2 (.lst (nvs bG))) t (.tup (nvs bG))) := gy.trans g3
          have hnew : valV (((wb wt L).zip ts).map fun x => ((Sum.inl (x.1.1 : Int) : Key), V.ref x.2)) (Sum.inl (bv : Int)) = none := valV_none fun q hq z => by
            obtain ⟨y, hy, rfl⟩ := List.mem_map.mp hq
            have e1 : y.1.1 = bv := inl_inj z
            obtain ⟨m, hm⟩ := List.mem_iff_getElem?.mp hy
            have hm2 := List.getElem?_zip_eq_some.mp hm
            have hmi : m < i := by
              rw [← hts]
              exact (List.getElem?_eq_some_iff.mp hm2.2).1
            have a1 : ((wb wt L).map (·.1))[m]? = some bv := by rw [List.getElem?_map, hm2.1, ← e1] <;> rfl
            have a2 : ((wb wt L).map (·.1))[i]? = some bv := by rw [List.getElem?_map, hbx] <;> rfl
            have := (List.getElem?_inj (List.getElem?_eq_some_iff.mp a1).1 (wb_nodup wt L)).mp (a1.trans a2.symm)
            omega
          refine ⟨_, Sum.inl (bv : Int), rfl, hDz, ?_, gD.put0 hD, ts ++ [t], by rw [List.length_append, hts] <;> rfl, ?_, fun j y t' e1 e2 => ?_⟩
          · rw [List.length_map, List.length_zip, hts, sizeLine_eq]
            rw [hwbn] at hi
            have : (wb wt L).length = ((wb wt L).map (·.1)).length := (List.length_map ..).symm
            have h4 : ((wb wt L).map (·.1)).length ≤ (List.range 4).length := length_le_of_subset (wb_nodup wt L) fun v hv => by
              rw [wb_keys] at hv
              exact (List.mem_filter.mp hv).1
            rw [List.length_range] at h4
            omega
          · rw [upd_same, putK_new _ hnew, zip_snoc t hts hbx, List.map_append] <;> rfl
          · have ht' : upd (upd Hy p2 (.lst (nvs bG))) t (.tup (nvs bG)) t' = some (.tup (nvs y.2)) := by
              by_cases hj : j < ts.length
              · rw [List.getElem?_append_left hj] at e2
                exact g3.all _ _ (hall j y t' e1 e2)
              · have hj2 : j = ts.length := by
                  have := (List.getElem?_eq_some_iff.mp e2).1
                  rw [List.length_append, List.length_singleton] at this
                  omega
                subst hj2
                rw [List.getElem?_append_right (Nat.le_refl _), Nat.sub_self] at e2
                cases e2
                rw [hts, hbx] at e1
                cases e1
                exact upd_same
            rw [upd_ne (ne_of ht' hDz (fun z => nomatch z))]
            exact ht'
      · rintro Hy ⟨gy, ts, hts, hDy, hall⟩
        rw [hwbn] at hts
        exact q _ _ ((I.gr.trans g1).trans gy) ((I.gr.trans g1).none0 hD) ⟨ts, hts, hDy, hall⟩
end
end K75
end
section
set_option Elab.async false
set_option linter.all false
set_option maxRecDepth 100000
set_option maxHeartbeats 4000000
/-! heard: places_by, can_be, rows_count -/
namespace K75
open PySem PySem.Spec PyProof.Rows L2 HW HX
section
variable {P : Program} {w : World} {K : PySem.W.Frag} {mg : Str → Option Value} {base : Heap} {CW CO : Addr}
theorem sc_places_by : FnScope ["watch", "heard", "places", "word"] ["watch", "heard"] (C8.fnScope s_places_by) := C8.fnScope_by (by decide +kernel)
def spPlacesBy (K : PySem.W.Frag) (CW : Addr) : Sp := fun vs H Q _ => ∃ (p a : Addr) (wt : Wt) (k : Nat) (hs : List Nat), vs = [.ref p, .ref a] ∧ WatchAt CW H p wt ∧ wt.Ok k ∧ H a = some (.tup (nvs hs)) ∧ (∀ v ∈ hs, v ≤ 3) ∧
  ∀ H' b, Gr [] H H' → SqT K H' b (nvs (placesBy wt [0] hs)) → Q (.ref b) H'
theorem c_places_by (T : Txt K mg base CW CO) : C8.Cal P w K mg base 4 "places_by" (spPlacesBy K CW) [] := by
  obtain ⟨f, fd, D, df⟩ := T.d_places_by
  obtain ⟨aF, mF, hF⟩ := T.g_FIRST
  refine C8.cal0 D (D.fn.binds (ps := ["watch", "heard"]) df fun _ _ _ _ _ _ us hl => match us, hl with | [_, _], _ => rfl) .nil sc_places_by (fun vs H Q E h => ?_) (fun cdv A outer s H vs Q E hr h => ?_)
  · obtain ⟨p, a, wt, k, hs, rfl, _⟩ := h
    rfl
  · obtain ⟨p, a, wt, k, hs, rfl, hp, ok, ha, hv, q⟩ := h
    have hu := hu_of hr
    refine ⟨_, pss_cons (ps_set (i := 2) sc_places_by.nd rfl (Or.inl rfl) (pe_glob (v := .ref aF) (by rfl) mF rfl))
      (pss_cons (ps_for PassesOwn.never rfl (pi_tup (pv 1)) (pg_name (i := 3) sc_places_by.nd rfl (Or.inl rfl))
        (pss_one (ps_set (i := 2) sc_places_by.nd rfl (Or.inl rfl) (pe_dget2 hu (C8.pe_c (c_words_behind T) hr (by decide) (by rfl) (pa_cons (pv 0) (pa_cons (pv 2) pa_nil))) (pv 3) (pe_tup pa_nil) ⟨rfl, rfl, rfl, rfl⟩))))
      (pss_one (ps_ret (pv 2)))), ?_⟩
    refine ⟨_, rfl, a, rfl, ⟨_, .of ha⟩, for_it (walk_tup (xs := nvs hs)) (fun i σ Hx => ∃ b x3, Gr [] H Hx ∧ SqT K Hx b (nvs (placesBy wt [0] (hs.take i))) ∧ σ = [some (.ref p), some (.ref a), some (.ref b), x3])
      ⟨aF, none, .refl _ _, hF _, rfl⟩ (fun i σ Hx _ ⟨b, x3, g, _⟩ => g.sqT (.of ha)) ?_ ?_⟩
    · rintro i x σ Hy Hx hi ⟨b, x3, g, hb, rfl⟩ ⟨rfl, hx⟩
      obtain ⟨v, hvi, rfl⟩ := nvs_get hx
      have htake : hs.take (i + 1) = hs.take i ++ [v] := by rw [List.take_add_one, hvi] <;> rfl
      have lot : Lot wt (placesBy wt [0] (hs.take i)) := Lot.by (Lot.first ok)
      refine ⟨_, rfl, _, rfl, p, b, wt, k, _, rfl, hp.gr0 g, ok, hb, lot.lt, fun H2 d g2 hd hL => ?_⟩
      obtain ⟨kvs, hkv, hc⟩ := hL.look (hv v (List.mem_of_getElem? hvi))
      refine ⟨d, rfl, .inl ⟨_, .of hkv⟩, _, rfl, by show 0 ≤ sizeLine; omega, fun t ht => ?_⟩
      have hkt : upd H2 t (.tup []) d = some (.dK kvs) := (Gr.new (ms := []) ht).all _ _ hkv
      have g3 : Gr [] H (upd H2 t (.tup [])) := (g.trans g2).trans (.new ht)
      rcases hc with ⟨t2, e1, e2, _⟩ | ⟨e1, e2⟩
      · refine ⟨_, .inl ⟨kvs, Sum.inl (v : Int), .of hkt, rfl, rfl⟩, ?_⟩
        rw [e1]
        refine ⟨t2, _, g3, ?_, rfl⟩
        rw [htake, placesBy_snoc]
        exact .of ((Gr.new (ms := []) ht).all _ _ e2)
      · refine ⟨_, .inl ⟨kvs, Sum.inl (v : Int), .of hkt, rfl, rfl⟩, ?_⟩
        rw [e1]
        refine ⟨t, _, g3, ?_, rfl⟩
        rw [htake, placesBy_snoc, e2]
        exact .of upd_same
    · rintro σ Hx ⟨b, x3, g, hb, rfl⟩
      rw [nvs_length, List.take_length] at hb
      exact ⟨_, rfl, q _ _ g hb⟩
theorem sc_can_be : FnScope ["watch", "heard"] ["watch", "heard"] (C8.fnScope s_can_be) := C8.fnScope_by (by decide +kernel)
def spCanBe (K : PySem.W.Frag) (CW : Addr) : Sp := fun vs H Q _ => ∃ (p a : Addr) (wt : Wt) (k : Nat) (hs : List Nat), vs = [.ref p, .ref a] ∧ WatchAt CW H p wt ∧ wt.Ok k ∧ H a = some (.tup (nvs hs)) ∧ (∀ v ∈ hs, v ≤ 3) ∧ hs.length ≤ 300 ∧
  ∀ H' b, Gr [] H H' → SqT K H' b (nvs (placesBy wt [0] hs)) → Q (.ref b) H'
theorem c_can_be (T : Txt K mg base CW CO) : C8.Cal P w K mg base 5 "can_be" (spCanBe K CW) [] := by
  obtain ⟨f, fd, D, df⟩ := T.d_can_be
  refine C8.cal0 D (D.fn.binds (ps := ["watch", "heard"]) df fun _ _ _ _ _ _ us hl => match us, hl with | [_, _], _ => rfl) .nil sc_can_be (fun vs H Q E h => ?_) (fun cdv A outer s H vs Q E hr h => ?_)
  · obtain ⟨p, a, wt, k, hs, rfl, _⟩ := h
    rfl
  · obtain ⟨p, a, wt, k, hs, rfl, hp, ok, ha, hv, hn, q⟩ := h
    refine ⟨_, pss_cons (ps_expr (C8.pe_c (c_need_heard T) hr (by decide) (by rfl) (pa_cons (pv 0) (pa_cons (pv 1) pa_nil))))
      (pss_one (ps_ret (C8.pe_c (c_places_by T) hr (by decide) (by rfl) (pa_cons (pv 0) (pa_cons (pv 1) pa_nil))))), ?_⟩
    exact ⟨_, rfl, _, rfl, p, a, wt, hs, rfl, hp, ha, hv, hn, fun H1 g1 => ⟨_, rfl, _, rfl, p, a, wt, k, hs, rfl, hp.gr0 g1, ok, g1.tup ha, hv, fun H2 b g2 hb => q _ _ (g1.trans g2) hb⟩⟩
/-! ### rows_count -/
theorem sc_rows_count : FnScope ["watch", "heard", "line", "word", "later", "place", "ways", "goal"] ["watch", "heard"] (C8.fnScope s_rows_count) := C8.fnScope_by (by decide +kernel)
def spRowsCount (CW : Addr) : Sp := fun vs H Q _ => ∃ (p a : Addr) (wt : Wt) (k : Nat) (hs : List Nat), vs = [.ref p, .ref a] ∧ WatchAt CW H p wt ∧ wt.Ok k ∧ H a = some (.tup (nvs hs)) ∧ (∀ v ∈ hs, v ≤ 3) ∧ hs.length ≤ 300 ∧
  ∀ H', Gr [] H H' → Q (.int (cnt wt 0 hs : Int)) H'
theorem c_rows_count (T : Txt K mg base CW CO) : C8.Cal P w K mg base 5 "rows_count" (spRowsCount CW) [] := by
  obtain ⟨f, fd, D, df⟩ := T.d_rows_count
  refine C8.cal0 D (D.fn.binds (ps := ["watch", "heard"]) df fun _ _ _ _ _ _ us hl => match us, hl with | [_, _], _ => rfl) .nil sc_rows_count (fun vs H Q E h => ?_) (fun cdv A outer s H vs Q E hr h => ?_)
  · obtain ⟨p, a, wt, k, hs, rfl, _⟩ := h
    rfl
  · obtain ⟨p, a, wt, k, hs, rfl, hp, ok, ha, hv, hn, q⟩ := h
    have hu := hu_of hr
    refine ⟨_, pss_cons (ps_expr (C8.pe_c (c_need_heard T) hr (by decide) (by rfl) (pa_cons (pv 0) (pa_cons (pv 1) pa_nil))))
      (pss_cons (ps_set (i := 2) sc_rows_count.nd rfl (Or.inl rfl) (pe_disp (pps_cons pe_int pe_int pps_nil) (by rfl) (by rfl) (fun z => by cases z) (by decide)))
      (pss_cons (ps_for PassesOwn.never rfl (pi_tup (pv 1)) (pg_name (i := 3) sc_rows_count.nd rfl (Or.inl rfl))
        (pss_cons (ps_set (i := 4) sc_rows_count.nd rfl (Or.inl rfl) pe_dnewK)
        (pss_cons (ps_for PassesOwn.never rfl (pi_items (pe_frz (pv 2))) (pg_tup rfl (pgs_cons (pg_name (i := 5) sc_rows_count.nd rfl (Or.inl rfl)) (pgs_cons (pg_name (i := 6) sc_rows_count.nd rfl (Or.inl rfl)) pgs_nil)))
          (pss_one (ps_for PassesOwn.never rfl (pi_tup (pe_goals (i := 5) T hr (by decide) (pv 0) (pv 5))) (pg_name (i := 7) sc_rows_count.nd rfl (Or.inl rfl))
            (pss_one (ps_if (pt_cmpR op_eq (pe_wordat (i := 7) T hr (by decide) (pv 0) (pv 7)) (pv 3) (nomark _))
              (pss_one (ps_dput hu (pv 4) (pv 7) (pe_op op_add (pe_dget2 hu (pv 4) (pv 7) pe_int ⟨rfl, rfl, rfl, rfl⟩) (pv 6)) rfl)) pss_nil)))))
        (pss_one (ps_set (i := 2) sc_rows_count.nd rfl (Or.inl rfl) (pv 4))))))
      (pss_one (ps_ret (pe_sumVals rfl (by rfl) T.z_sum (pv 2)))))), ?_⟩
    refine ⟨_, rfl, _, rfl, p, a, wt, hs, rfl, hp, ha, hv, hn, fun H1 g1 => ?_⟩
    intro d0 hd0
    refine ⟨upd_same, [(Sum.inl 0, .int 1)], rfl, by decide, ?_⟩
    have ha1 := g1.tup ha
    refine ⟨_, rfl, a, rfl, ⟨_, (((Gr.refl [] H1).put0 hd0).put0 hd0).sqT (.of ha1)⟩, for_it (walk_tup (xs := nvs hs)) (fun i σ Hx => ∃ d m x3 x4 x5 x6 x7, Gr [] H1 Hx ∧ H1 d = none ∧ Hx d = some (.dK (cK m)) ∧ (m.map (·.1)).Nodup ∧ (∀ p ∈ m.map (·.1), p < wt.n) ∧ tot m (fun p => cnt wt p (hs.drop i)) = cnt wt 0 hs ∧ σ = [some (.ref p), some (.ref a), some (.ref d), x3, x4, x5, x6, x7])
      ⟨d0, [(0, 1)], none, none, none, none, none, ((Gr.refl [] H1).put0 hd0).put0 hd0, hd0, upd_same, by simp, by have := ok.n1; simp; omega, by simp [tot], rfl⟩ (fun i σ Hx _ ⟨d, m, x3, x4, x5, x6, x7, g, _⟩ => g.sqT (.of ha1)) ?_ ?_⟩
    · rintro i x σ Hy Hx hi ⟨d, m, x3, x4, x5, x6, x7, g, hd1, hd, nd, lt, ht, rfl⟩ ⟨rfl, hx⟩
      obtain ⟨v, hvi, rfl⟩ := nvs_get hx
      have hdrop : hs.drop i = v :: hs.drop (i + 1) := by
        have hi2 := (List.getElem?_eq_some_iff.mp hvi).1
        rw [List.drop_eq_getElem_cons hi2]
        rw [List.getElem?_eq_getElem hi2] at hvi
        cases hvi
        rfl
      intro d2 hd2
      have hd2' : H1 d2 = none := g.none0 hd2
      have ndd : d ≠ d2 := ne_of_none hd hd2
      have hdz : upd Hx d2 (.dK []) d = some (.dK (cK m)) := by rw [upd_ne ndd]; exact hd
      refine ⟨_, rfl, d, _, rfl, hdz, True.intro, fun od => ⟨d, od, _, rfl, upd_same, for_it walk_items (fun j σ Hy => ∃ m2 x5 x6 x7, Gr [] H1 Hy ∧ Hy d = some (.frz od (.dK (cK m))) ∧ Hy d2 = some (.dK (cK m2)) ∧ Behind wt v (fun f => tot (m.take j) (stepF wt v f)) m2 ∧ σ = [some (.ref p), some (.ref a), some (.ref d), some (.int (v : Int)), some (.ref d2), x5, x6, x7])
        ⟨[], x5, x6, x7, (g.put0 hd2').put0 hd1, upd_same, by rw [upd_ne ndd.symm, upd_same] <;> rfl, ⟨by simp, by simp, fun f => by simp [tot]⟩, rfl⟩ (fun j σ Hy _ ⟨m2, x5, x6, x7, _, h, _⟩ => h) ?_ ?_⟩⟩
      · rintro j y σ Hw Hw2 hj ⟨m2, y5, y6, y7, gw, hfz, hm2, bh, rfl⟩ ⟨t, xk, xv, rfl, ht0, rfl, h1, h2⟩
        have hj2 : j < m.length := by
          unfold cK at hj
          rw [List.length_map] at hj
          exact hj
        have hmj : m[j]? = some m[j] := List.getElem?_eq_getElem hj2
        have hck : (cK m)[j]? = some (Sum.inl (m[j].1 : Int), V.int (m[j].2 : Int)) := by
          unfold cK
          rw [List.getElem?_map, hmj] <;> rfl
        replace h1 : (cK m)[j]?.map (fun kv => kV kv.1) = some xk := h1
        replace h2 : (cK m)[j]?.map Prod.snd = some xv := h2
        rw [hck] at h1 h2
        cases h1
        cases h2
        have hpn : m[j].1 < wt.n := lt _ (List.mem_map.mpr ⟨_, List.mem_of_getElem? hmj, rfl⟩)
        have gT : Gr [] Hw (upd Hw t (.tup [kV (Sum.inl (m[j].1 : Int)), V.int (m[j].2 : Int)])) := .new ht0
        refine ⟨t, _, rfl, .of upd_same, rfl, _, _, rfl, _, _, rfl, rfl, ?_⟩
        refine ⟨p, wt, m[j].1, rfl, hp.gr0 ((g1.trans gw).trans gT), rfl, hpn, fun r hr => ⟨r, rfl, ⟨_, .of hr⟩, for_it (walk_tup (xs := nvs (wt.goals m[j].1))) (fun jj σ Hz => ∃ m3 x7, Gr [] H1 Hz ∧ Hz d = some (.frz od (.dK (cK m))) ∧ Hz d2 = some (.dK (cK m3)) ∧ Behind wt v (fun f => tot (m.take j) (stepF wt v f) + m[j].2 * (((wt.goals m[j].1).take jj).map fun g => if wt.word g = v then f g else 0).sum) m3 ∧ Hz r = some (.tup (nvs (wt.goals m[j].1))) ∧
            σ = [some (.ref p), some (.ref a), some (.ref d), some (.int (v : Int)), some (.ref d2), some (.int (m[j].1 : Int)), some (.int (m[j].2 : Int)), x7])
          ⟨m2, y7, gw.trans gT, gT.all _ _ hfz, gT.all _ _ hm2, bh.congr fun f => by simp, hr, rfl⟩ (fun jj σ Hz _ ⟨m3, x7, _, _, _, _, hr, _⟩ => .of hr) ?_ ?_⟩⟩
        · rintro jj z σ Hz0 Hz hjj ⟨m3, z7, gz, hfz3, hm3, bh3, hr3, rfl⟩ ⟨rfl, hz⟩
          obtain ⟨gg, hgj, rfl⟩ := nvs_get hz
          have hgn := ok.goals_lt (List.mem_of_getElem? hgj)
          refine ⟨p, wt, k, gg, rfl, hp.gr0 (g1.trans gz), ok, rfl, hgn, _, rfl, rfl, _, rfl, ?_⟩
          refine ite2 (fun zz => ?_) (fun zz => ?_)
          · have e : wt.word gg = v := by
              have z' := of_decide_eq_true zz
              injection z' with z'
              omega
            obtain ⟨old, e1, e2⟩ := cK_put bh3.nd gg m[j].2
            refine ⟨_, rfl, d2, rfl, .inl ⟨_, .of hm3⟩, _, rfl, _, DGet.k (k := Sum.inl (gg : Int)) hm3, _, rfl, (old : Int), _, e1, rfl, _, rfl, _, rfl, d2, _, rfl, DPut.k (k := Sum.inl (gg : Int)) hm3 ?_, ?_⟩
            · have := bh3.few ok
              unfold cK
              rw [List.length_map, sizeLine_eq]
              omega
            · rw [e2]
              refine ⟨_, _, gz.put0 hd2', by rw [upd_ne ndd]; exact hfz3, upd_same, (bh3.add m[j].2 hgn).congr fun f => ?_, by rw [upd_ne (ne_of hr3 hm3 (fun z => nomatch z))]; exact hr3, rfl⟩
              rw [take_sum hgj, if_pos e, Nat.mul_add, Nat.add_assoc]
          · have e : ¬ wt.word gg = v := fun e => zz (decide_eq_true (by rw [e]))
            refine ⟨m3, _, gz, hfz3, hm3, bh3.congr fun f => ?_, hr3, rfl⟩
            rw [take_sum hgj, if_neg e]
            simp
        · rintro σ Hz ⟨m3, z7, gz, hfz3, hm3, bh3, hr3, rfl⟩
          refine ⟨m3, _, _, _, gz, hfz3, hm3, bh3.congr fun f => ?_, rfl⟩
          rw [nvs_length, List.take_length, tot_step hmj]
      · rintro σ Hy ⟨m2, y5, y6, y7, gw, hfz, hm2, bh, rfl⟩
        refine ⟨_, rfl, d2, m2, _, _, _, _, _, gw, hd2', hm2, bh.nd, bh.lt, ?_, rfl⟩
        have hl : (cK m).length = m.length := by unfold cK; rw [List.length_map]
        rw [bh.sum, hl, List.take_length, ← ht]
        unfold tot
        congr 1
        refine List.map_congr_left fun x _ => ?_
        show x.2 * stepF wt v (fun p => cnt wt p (hs.drop (i + 1))) x.1 = x.2 * cnt wt x.1 (hs.drop i)
        rw [hdrop] <;> rfl
    · rintro σ Hx ⟨d, m, x3, x4, x5, x6, x7, g, hd1, hd, nd, lt, ht, rfl⟩
      rw [nvs_length, List.drop_length] at ht
      refine ⟨_, rfl, d, cK m, m.map (fun x => (x.2 : Int)), rfl, .of hd, by unfold cK; rw [List.map_map, List.map_map] <;> rfl, ?_⟩
      rw [cK_sum]
      have e : tot m (fun _ => 1) = cnt wt 0 hs := ht
      rw [e]
      exact q _ (g1.trans g)
end
end K75
end
section
set_option Elab.async false
set_option linter.all false
set_option maxRecDepth 100000
set_option maxHeartbeats 4000000
/-! heard: lots_by -/
namespace K75
open PySem PySem.Spec PyProof.Rows L2 HW HX
section
variable {P : Program} {w : World} {K : PySem.W.Frag} {mg : Str → Option Value} {base : Heap} {CW CO : Addr}
theorem sc_lots_by : FnScope ["watch", "found", "line", "spot", "word", "goal"] ["watch"] (C8.fnScope s_lots_by) := C8.fnScope_by (by decide +kernel)
def spLotsBy (P : Program) (w : World) (K : PySem.W.Frag) (CW : Addr) : Sp := fun vs H Q _ => ∃ (p : Addr) (wt : Wt) (k : Nat), vs = [.ref p] ∧ WatchAt CW H p wt ∧ wt.Ok k ∧
  ∀ H' F xs, Gr [] H H' → H F = none → H' F = some (DN P w F (kdL xs)) → Lots wt (xs.map (·.1)) → (∀ x ∈ xs, SqT K H' x.2.1 (nvs x.1)) → xs.length ≤ 64 → Q (.ref F) H'
theorem c_lots_by (T : Txt K mg base CW CO) : C8.Cal P w K mg base 4 "lots_by" (spLotsBy P w K CW) [] := by
  obtain ⟨f, fd, D, df⟩ := T.d_lots_by
  obtain ⟨aF, mF, hFI⟩ := T.g_FIRST
  refine C8.cal0 D (D.fn.binds (ps := ["watch"]) df fun _ _ _ _ _ _ us hl => match us, hl with | [_], _ => rfl) .nil sc_lots_by (fun vs H Q E h => ?_) (fun cdv A outer s H vs Q E hr h => ?_)
  · obtain ⟨p, wt, k, rfl, _⟩ := h
    rfl
  · obtain ⟨p, wt, k, rfl, hp, ok, q⟩ := h
    have hu := hu_of hr
    refine ⟨_, pss_cons (ps_par3 (i := 1) (j := 2) (l := 3) (by rfl) sc_lots_by.nd rfl rfl rfl (by decide) (by decide) (by decide) rfl rfl rfl (pa_cons (pe_ndisp (Nat.lt_of_succ_lt hu) (pe_glob (v := .ref aF) (by rfl) mF rfl) (pe_tup pa_nil)) (pa_cons (pe_lst (pa_cons (pe_glob (v := .ref aF) (by rfl) mF rfl) pa_nil)) (pa_cons pe_int pa_nil))) rfl)
      (pss_cons (ps_while PassesOwn.never (pt_cmpR op_lt (pv 3) (pe_callB call_len_seq (by rfl) T.z_len PySem.boot_len (pa_cons (pv 2) pa_nil)) (nomark _))
        (pss_cons (ps_for PassesOwn.never rfl (pi_items (pe_frz (C8.pe_c (c_words_behind T) hr (by decide) (by rfl) (pa_cons (pv 0) (pa_cons (pe_ix ix_list (pv 2) (pv 3) (fun _ _ => rfl)) pa_nil))))) (pg_tup rfl (pgs_cons (pg_name (i := 4) sc_lots_by.nd rfl (Or.inl rfl)) (pgs_cons (pg_name (i := 5) sc_lots_by.nd rfl (Or.inl rfl)) pgs_nil)))
          (pss_one (ps_if (pt_cmp (pc_nnotin hu (pv 5) (pv 1)))
            (pss_cons (ps_nput hu (pv 1) (pv 5) (pe_tup (StX.pa_star (pe_nget hu (pv 1) (pe_ix ix_list (pv 2) (pv 3) (fun _ _ => rfl)) (fun _ _ => rfl)) (pa_cons (pv 4) pa_nil))) rfl)
            (pss_one (ps_expr (pe_bm PySem.F.plainAttrs_list PySem.F.slot_list_append PySem.F.type_list_append mt_append (pv 2) (pa_cons (pv 5) pa_nil))))) pss_nil)))
        (pss_one (ps_aug (i := 3) sc_lots_by.nd rfl (Or.inl rfl) pe_int in_add))))
      (pss_one (ps_ret (pv 1)))), ?_⟩
    intro F hF
    refine ⟨by show 0 ≤ sizeLine; omega, fun t ht => ?_⟩
    have hFt : F ≠ t := ne_of_none upd_same ht
    refine ⟨aF, kk [0], rfl, by rw [upd_ne hFt, upd_same], by rw [kk_V]; exact hFI _, ?_⟩
    refine ⟨by show 1 ≤ sizeLine; rw [sizeLine_eq]; omega, fun l hl => ⟨_, _, _, rfl, ?_⟩⟩
    have hl2 : upd (upd H F (DN P w F [])) t (.tup []) l = none := by
      by_cases e : l = F
      · subst e
        rw [upd_same] at hl
        cases hl
      · rw [upd_ne e] at hl
        exact hl
    have nlF : l ≠ F := fun e => by
      subst e
      rw [upd_same] at hl
      cases hl
    have nlt : l ≠ t := fun e => by
      subst e
      rw [upd_same] at hl2
      cases hl2
    have hl0 : H l = none := by
      rw [upd_ne nlt, upd_ne nlF] at hl2
      exact hl2
    have ht0 : H t = none := by
      rw [upd_ne hFt.symm] at ht
      exact ht
    have I0 : LInv P w K wt H (upd (upd (upd (upd H F (DN P w F [])) t (.tup [])) F (DN P w F [(kk [0], aF, .ref t)])) l (.lst [V.ref aF])) F l [([0], aF, t)] := by
      refine ⟨(((Gr.refl [] H).put0 hF).put0 ht0 |>.put0 hF).put0 hl0, hF, hl0, by rw [upd_ne nlF.symm, upd_same] <;> rfl, upd_same, by simp, by simp, fun x hx => ?_, fun x hx => ?_, fun x hx => ?_⟩
      · rw [List.mem_singleton] at hx
        subst hx
        exact hFI _
      · rw [List.mem_singleton] at hx
        subst hx
        exact ⟨[], by show upd _ l _ t = _; rw [upd_ne nlt.symm, upd_ne hFt.symm, upd_same] <;> rfl, by simp⟩
      · rw [List.mem_singleton] at hx
        subst hx
        exact ⟨by simp, [], by simp, rfl⟩
    refine while_by (fun σ Hx => ∃ (s : Nat) (xs : LX) (x4 x5 : Option V), LInv P w K wt H Hx F l xs ∧ s ≤ xs.length ∧ (∀ (i : Nat) (x : List Nat × Addr × Addr), i < s → xs[i]? = some x → ∀ G ∈ succs wt x.1, G ∈ xs.map (·.1)) ∧ σ = [some (.ref p), some (.ref F), some (.ref l), some (.int (s : Int)), x4, x5])
      (fun (σ : L2.St) (_ : Hp) => match σ[3]? with | some (some (V.int s)) => 64 - s.toNat | _ => 0) ⟨0, _, none, none, I0, by simp, fun i x hi => absurd hi (by omega), rfl⟩ ?_ ?_
    · rintro σ Hx ⟨s, xs, x4, x5, I, hs, hcl, rfl⟩
      refine ⟨_, rfl, _, rfl, l, _, rfl, .inl (.of I.hl), _, _, rfl, rfl, _, rfl, ite2 (fun z => ?_) (fun z => ?_)⟩
      · have hlt : s < xs.length := by
          have z' := of_decide_eq_true z
          rw [List.length_map] at z'
          omega
        have hx0 : xs[s]? = some xs[s] := List.getElem?_eq_getElem hlt
        have hmem := List.mem_of_getElem? hx0
        have at0 : ∀ (ys : LX), (∃ more, ys = xs ++ more) → ys[s]? = some xs[s] := fun ys ⟨more, e⟩ => by
          subst e
          rw [List.getElem?_append_left hlt]
          exact hx0
        have atL : ∀ (ys : LX), (∃ more, ys = xs ++ more) → atI (ys.map fun x => V.ref x.2.1) (s : Int) = some (.ref xs[s].2.1) := fun ys h => atI_of (by rw [List.getElem?_map, at0 ys h] <;> rfl)
        have lot := I.lot ok hmem
        refine ⟨_, rfl, _, rfl, _, rfl, l, _, (s : Int), .ref xs[s].2.1, rfl, rfl, .of I.hl, atL xs ⟨[], by simp⟩, p, xs[s].2.1, wt, k, xs[s].1, rfl, hp.gr0 I.gr, ok, I.adr _ hmem, lot.lt, fun H2 d g2 hd hL => ?_⟩
        obtain ⟨ts, hts, hdK, hall⟩ := hL
        refine ⟨d, _, rfl, hdK, True.intro, fun od => ⟨d, od, _, rfl, upd_same, for_it walk_items (fun j σ Hy => ∃ (xs2 : LX) (y4 y5 : Option V), LInv P w K wt H Hy F l xs2 ∧ Hy d = some (.frz od (.dK (((wb wt xs[s].1).zip ts).map fun x => (Sum.inl (x.1.1 : Int), V.ref x.2)))) ∧ (∃ more, xs2 = xs ++ more) ∧
            (∀ (j' : Nat) (b : Nat × List Nat), j' < j → (wb wt xs[s].1)[j']? = some b → b.2 ∈ xs2.map (·.1)) ∧ (∀ (i : Nat) (x : Nat × List Nat) (t : Addr), (wb wt xs[s].1)[i]? = some x → ts[i]? = some t → Hy t = some (.tup (nvs x.2))) ∧ σ = [some (.ref p), some (.ref F), some (.ref l), some (.int (s : Int)), y4, y5])
          ⟨xs, x4, x5, I.gr' (g2.put0 hd), upd_same, ⟨[], by simp⟩, fun j' b hj => absurd hj (by omega), fun i x t e1 e2 => by rw [upd_ne (ne_of (hall i x t e1 e2) hdK (fun z => nomatch z))]; exact hall i x t e1 e2, rfl⟩ (fun j σ Hy _ ⟨_, _, _, _, h, _⟩ => h) ?_ ?_⟩⟩
        · rintro j y σ Hw Hw2 hj ⟨xs2, y4, y5, I2, hfz, hmore, hdone, hts2, rfl⟩ ⟨T9, xk, xv, rfl, hT0, rfl, h1, h2⟩
          have hjl : j < (wb wt xs[s].1).length ∧ j < ts.length := by
            rw [List.length_map, List.length_zip] at hj
            omega
          have hb : (wb wt xs[s].1)[j]? = some (wb wt xs[s].1)[j] := List.getElem?_eq_getElem hjl.1
          have htj : ts[j]? = some ts[j] := List.getElem?_eq_getElem hjl.2
          have hz : ((((wb wt xs[s].1).zip ts).map fun x => ((Sum.inl (x.1.1 : Int) : Key), V.ref x.2)))[j]? = some (Sum.inl ((wb wt xs[s].1)[j].1 : Int), V.ref ts[j]) := by
            have hzip : ((wb wt xs[s].1).zip ts)[j]? = some ((wb wt xs[s].1)[j], ts[j]) := List.getElem?_zip_eq_some.mpr ⟨hb, htj⟩
            rw [List.getElem?_map, hzip] <;> rfl
          replace h1 : ((((wb wt xs[s].1).zip ts).map fun x => ((Sum.inl (x.1.1 : Int) : Key), V.ref x.2)))[j]?.map (fun kv => kV kv.1) = some xk := h1
          replace h2 : ((((wb wt xs[s].1).zip ts).map fun x => ((Sum.inl (x.1.1 : Int) : Key), V.ref x.2)))[j]?.map Prod.snd = some xv := h2
          rw [hz] at h1 h2
          cases h1
          cases h2
          generalize hbj : (wb wt xs[s].1)[j] = bj at *
          obtain ⟨v, G⟩ := bj
          obtain ⟨hv4, hG, hGne⟩ := mem_wb.mp (List.mem_of_getElem? hb)
          generalize htt : ts[j] = t9 at *
          have gT : Gr [] Hw (upd Hw T9 (.tup [kV (Sum.inl (v : Int)), V.ref t9])) := .new hT0
          have I3 := I2.gr' gT
          have ht9 : upd Hw T9 (.tup [kV (Sum.inl (v : Int)), V.ref t9]) t9 = some (.tup (nvs G)) := gT.tup (hts2 j _ _ hb htj)
          refine ⟨T9, _, rfl, .of upd_same, rfl, _, _, rfl, _, _, rfl, rfl, ?_⟩
          refine ⟨_, rfl, _, rfl, F, t9, kdL xs2, kk G, rfl, rfl, I3.hF, I3.kok, by rw [kk_V]; exact .of ht9, _, rfl, ite2 (fun z => ?_) (fun z => ?_)⟩
          · have hn : G ∉ xs2.map (·.1) := fun hin => by
              obtain ⟨x, hx, hxG⟩ := List.mem_map.mp hin
              have e : valD (kdL xs2) (kk G) = some (.ref x.2.2) := by rw [← hxG]; exact kdL_some I3.nd hx
              rw [e] at z
              simp at z
            have hx2 : xs[s] ∈ xs2 := List.mem_of_getElem? (at0 xs2 hmore)
            obtain ⟨ps, hps, hpl⟩ := I3.path _ hx2
            have few := I3.few ok
            refine ⟨_, rfl, _, rfl, _, rfl, l, _, (s : Int), .ref xs[s].2.1, rfl, rfl, .of I3.hl, atL xs2 hmore, F, xs[s].2.1, kdL xs2, kk xs[s].1, .ref xs[s].2.2, rfl, rfl, I3.hF, I3.kok, by rw [kk_V]; exact I3.adr _ hx2, kdL_some I3.nd hx2, xs[s].2.2, nvs ps, rfl, .inl (.of hps), _, rfl, ?_, fun t2 ht2 => ?_⟩
            · show (nvs ps ++ [V.int (v : Int)]).length ≤ sizeLine
              rw [List.length_append, nvs_length, sizeLine_eq]
              simp
              omega
            · have g4 : Gr [] (upd Hw T9 (.tup [kV (Sum.inl (v : Int)), V.ref t9])) (upd (upd Hw T9 (.tup [kV (Sum.inl (v : Int)), V.ref t9])) t2 (.tup (nvs ps ++ [V.int (v : Int)]))) := .new ht2
              have I4 := I3.gr' g4
              have hpath : upd (upd Hw T9 (.tup [kV (Sum.inl (v : Int)), V.ref t9])) t2 (.tup (nvs ps ++ [V.int (v : Int)])) t2 = some (.tup (nvs (ps ++ [v]))) := by
                rw [upd_same]
                unfold nvs
                rw [List.map_append] <;> rfl
              have hgn : gl wt xs[s].1 v ∉ xs2.map (·.1) := by rw [← hG]; exact hn
              have I5 := I4.more hx2 (v := v) (by omega) (by rw [← hG]; exact hGne) hgn (b := t9) (t := t2) (by rw [← hG]; exact .of (g4.tup ht9)) hpath (by rw [List.length_append, List.length_singleton]; omega)
              rw [← hG] at I5
              have keepT : ∀ c ys, Hw c = some (.tup ys) → (upd (upd (upd (upd Hw T9 (.tup [kV (Sum.inl (v : Int)), V.ref t9])) t2 (.tup (nvs ps ++ [V.int (v : Int)]))) F (DN P w F (putD (kdL xs2) (kk G) t9 (.ref t2)))) l (.lst ((xs2.map fun x => V.ref x.2.1) ++ [V.ref t9]))) c = some (.tup ys) := fun c ys e => by
                have e' := g4.tup (gT.tup e)
                rw [upd_ne (ne_of e' I4.hl (fun z => nomatch z)), upd_ne (ne_of e' I4.hF (fun z => by unfold DN at z; cases z))]
                exact e'
              have hfz4 := g4.all _ _ (gT.all _ _ hfz)
              refine ⟨_, rfl, _, rfl, F, t9, kdL xs2, kk G, rfl, rfl, I4.hF, I4.kok, by rw [kk_V]; exact .of (g4.tup ht9), ?_, ?_⟩
              · unfold kdL
                rw [List.length_map, sizeLine_eq]
                omega
              · have hl5 : upd (upd (upd Hw T9 (.tup [kV (Sum.inl (v : Int)), V.ref t9])) t2 (.tup (nvs ps ++ [V.int (v : Int)]))) F (DN P w F (putD (kdL xs2) (kk G) t9 (.ref t2))) l = some (.lst (xs2.map fun x => V.ref x.2.1)) := by
                  rw [upd_ne nlF]
                  exact I4.hl
                refine ⟨_, rfl, .inl ⟨rfl, _, .of hl5⟩, _, rfl, l, _, _, rfl, rfl, hl5, by rw [List.length_map, sizeLine_eq]; omega, ?_⟩
                obtain ⟨more, hm⟩ := hmore
                refine ⟨xs2 ++ [(G, t9, t2)], _, _, I5, ?_, ⟨more ++ [(G, t9, t2)], by rw [hm, List.append_assoc]⟩, fun j' b hj' e => ?_, fun i x t e1 e2 => keepT _ _ (hts2 i x t e1 e2), rfl⟩
                · rw [upd_ne (ne_of hfz4 I4.hl (fun z => nomatch z)), upd_ne (ne_of hfz4 I4.hF (fun z => by unfold DN at z; cases z))]
                  exact hfz4
                · rw [List.map_append]
                  by_cases hjj : j' < j
                  · exact List.mem_append_left _ (hdone j' b hjj e)
                  · have : j' = j := by omega
                    subst this
                    rw [hb] at e
                    cases e
                    exact List.mem_append_right _ (by simp)
          · have hin : G ∈ xs2.map (·.1) := Classical.byContradiction fun hn => z (by rw [kdL_none hn] <;> rfl)
            refine ⟨xs2, _, _, I3, gT.all _ _ hfz, hmore, fun j' b hj' e => ?_, fun i x t e1 e2 => gT.tup (hts2 i x t e1 e2), rfl⟩
            by_cases hjj : j' < j
            · exact hdone j' b hjj e
            · have : j' = j := by omega
              subst this
              rw [hb] at e
              cases e
              exact hin
        · rintro σ Hy ⟨xs2, y4, y5, I2, hfz, hmore, hdone, hts2, rfl⟩
          obtain ⟨more, hm⟩ := hmore
          have sub : ∀ G, G ∈ xs.map (·.1) → G ∈ xs2.map (·.1) := fun G h => by
            rw [hm, List.map_append]
            exact List.mem_append_left _ h
          refine ⟨_, rfl, _, _, rfl, rfl, ⟨s + 1, xs2, _, _, I2, ?_, fun i x hi e G hG => ?_, rfl⟩, ?_⟩
          · rw [hm, List.length_append]
            omega
          · by_cases his : i < s
            · rw [hm, List.getElem?_append_left (by omega)] at e
              exact sub G (hcl i x his e G hG)
            · have : i = s := by omega
              subst this
              rw [at0 xs2 ⟨more, hm⟩] at e
              cases e
              obtain ⟨b, hb, rfl⟩ := List.mem_map.mp hG
              obtain ⟨j', hj'⟩ := List.mem_iff_getElem?.mp hb
              refine hdone j' b ?_ hj'
              rw [List.length_map, List.length_zip, hts]
              have := (List.getElem?_eq_some_iff.mp hj').1
              omega
          · have := I.few ok
            show 64 - ((s : Int) + 1).toNat < 64 - ((s : Int)).toNat
            omega
      · have hge : xs.length ≤ s := by
          have z' : ¬ ((s : Int) < ((xs.map fun x => V.ref x.2.1).length : Int)) := fun y => z (decide_eq_true y)
          rw [List.length_map] at z'
          omega
        refine ⟨_, rfl, q _ F xs I.gr hF I.hF ⟨I.nd, I.first, fun L hL G hG => ?_, fun L hL => ?_⟩ I.adr (I.few ok)⟩
        · obtain ⟨x, hx, rfl⟩ := List.mem_map.mp hL
          obtain ⟨i, hi⟩ := List.mem_iff_getElem?.mp hx
          exact hcl i x (by have := (List.getElem?_eq_some_iff.mp hi).1; omega) hi G hG
        · obtain ⟨x, hx, rfl⟩ := List.mem_map.mp hL
          exact I.reach x hx
    · rintro σ Hx Q1 Q2 hQ ⟨v, h1, v2, h2, p2, ys, e, hs, i, j, e1, e2, b, e3, q3⟩
      exact ⟨v, h1, v2, h2, p2, ys, e, hs, i, j, e1, e2, b, e3, hQ _ _ q3⟩
end
end K75
end
section
set_option Elab.async false
set_option linter.all false
set_option maxRecDepth 100000
set_option maxHeartbeats 4000000
/-! settling -/
namespace K75
open PySem PySem.Spec PyProof.Rows L2 HW HX
section
variable {P : Program} {w : World} {K : PySem.W.Frag} {mg : Str → Option Value} {base : Heap} {CW CO : Addr}
theorem sc_numbers_by : FnScope ["watch", "lots", "numbers", "lap", "later", "lot", "behind", "goal"] ["watch"] (C8.fnScope s_numbers_by) := C8.fnScope_by (by decide +kernel)
def spNumbers (P : Program) (w : World) (K : PySem.W.Frag) (CW : Addr) : Sp := fun vs H Q _ => ∃ (p : Addr) (wt : Wt) (k : Nat), vs = [.ref p] ∧ WatchAt CW H p wt ∧ wt.Ok k ∧
  (∀ H' (xs : LX) A j, Gr [] H H' → Lots wt (xs.map (·.1)) → Still wt (xs.map (·.1)) j → H' A = some (DN P w A (tabN (ksL xs) (fI wt j))) → (∀ x ∈ xs, SqT K H' x.2.1 (nvs x.1)) → Q (.ref A) H') ∧
  (∀ H' (xs : LX), Gr [] H H' → Lots wt (xs.map (·.1)) → (∀ j, j ≤ xs.length → ¬ Still wt (xs.map (·.1)) j) → Q .non H')
theorem c_numbers_by (T : Txt K mg base CW CO) : C8.Cal P w K mg base 5 "numbers_by" (spNumbers P w K CW) [] := by
  obtain ⟨f, fd, D, df⟩ := T.d_numbers_by
  refine C8.cal0 D (D.fn.binds (ps := ["watch"]) df fun _ _ _ _ _ _ us hl => match us, hl with | [_], _ => rfl) .nil sc_numbers_by (fun vs H Q E h => ?_) (fun cdv A outer s H vs Q E hr h => ?_)
  · obtain ⟨p, wt, k, rfl, _⟩ := h
    rfl
  · obtain ⟨p, wt, k, rfl, hp, ok, q1, q2⟩ := h
    have hu := hu_of hr
    refine ⟨_, pss_cons (ps_set (i := 1) sc_numbers_by.nd rfl (Or.inl rfl) (pe_callTy (cr_listN rfl) (by rfl) T.z_list (by decide +kernel) (pa_cons (C8.pe_c (c_lots_by T) hr (by decide) (by rfl) (pa_cons (pv 0) pa_nil)) pa_nil)))
      (pss_cons (ps_set (i := 2) sc_numbers_by.nd rfl (Or.inr rfl) (pe_nc (own := [("lot", 5)]) (g := gName 5) (tt := tYes) (Nat.lt_of_succ_lt hu) (by rfl) sc_numbers_by.nd (pi_list (pv 1)) (blkOk_by (own := [("lot", 5)]) (N := ["watch", "lots", "numbers", "lap", "later", "lot", "behind", "goal"]) (sc := C8.fnScope s_numbers_by) (by decide +kernel))
        (fun _ _ _ _ _ => pg_name (i := 5) sc_numbers_by.nd rfl (Or.inl rfl)) (fun _ _ _ _ _ => pts_nil) (fun _ _ _ _ _ => pv 5)
        (fun _ _ _ _ _ => pe_ifExp (pt_cmpR op_gt (pe_callB (r := rLenK K) call_len_seq (by rfl) T.z_len PySem.boot_len (pa_cons (pv 5) pa_nil)) pe_int (nomark _)) pe_int (pe_un un_neg pe_int))))
      (pss_cons (ps_for PassesOwn.never rfl (pi_range1 rfl T.z_range (pa_cons (pe_op op_add (pe_callB call_len_seq (by rfl) T.z_len PySem.boot_len (pa_cons (pv 1) pa_nil)) pe_int) pa_nil)) (pg_name (i := 3) sc_numbers_by.nd rfl (Or.inl rfl))
        (pss_cons (ps_set (i := 4) sc_numbers_by.nd rfl (Or.inl rfl) pe_nnew)
        (pss_cons (ps_for PassesOwn.never rfl (pi_list (pv 1)) (pg_name (i := 5) sc_numbers_by.nd rfl (Or.inl rfl))
          (pss_cons (ps_set (i := 6) sc_numbers_by.nd rfl (Or.inl rfl) (pe_callB (cr_max rfl) (by rfl) T.z_max (by decide +kernel) (pa_cons (pe_lc (own := [("goal", 7)]) (g := gName 7) (tt := tYes) (by rfl) sc_numbers_by.nd (pi_values (pe_frz (C8.pe_c (c_words_behind T) hr (by decide) (by rfl) (pa_cons (pv 0) (pa_cons (pv 5) pa_nil))))) (blkOk_by (own := [("goal", 7)]) (N := ["watch", "lots", "numbers", "lap", "later", "lot", "behind", "goal"]) (sc := C8.fnScope s_numbers_by) (by decide +kernel))
            (fun _ _ _ _ _ => pg_name (i := 7) sc_numbers_by.nd rfl (Or.inl rfl)) (fun _ _ _ _ _ => pts_nil) (fun _ _ _ _ _ => PE.of (pe_nget hu (pv 2) (pv 7) (fun _ _ => rfl)) (t' := tNGet P w K (tVar 2) (tVar 7)) (fun _ _ _ h => h))) pa_nil)))
          (pss_one (ps_nput hu (pv 4) (pv 5) (pe_callB (call_max2 rfl) (by rfl) T.z_max (by decide +kernel) (pa_cons (pe_nget hu (pv 2) (pv 5) (fun _ _ => rfl)) (pa_cons (pe_ifExp (pt_cmpR op_ge (pv 6) pe_int (nomark _)) (pe_op op_add (pv 6) pe_int) (pe_un un_neg pe_int)) pa_nil))) rfl))))
        (pss_cons (ps_if (pt_cmpR (op_eqN hu) (pv 4) (pv 2) (nomark _)) (pss_one (ps_ret (pv 2))) pss_nil)
        (pss_one (ps_set (i := 2) sc_numbers_by.nd rfl (Or.inr rfl) (pv 4)))))))
      (pss_one (ps_ret pe_non)))), ?_⟩
    refine ⟨_, rfl, p, wt, k, rfl, hp, ok, fun H1 F xs g1 hF0 hFv L hadr few => ⟨F, _, rfl, hFv, fun l hl => ?_⟩⟩
    have el : ((kdL xs).map fun q => V.ref q.2.1) = xs.map fun x => V.ref x.2.1 := by
      unfold kdL
      rw [List.map_map] <;> rfl
    rw [el]
    generalize hH2 : upd H1 l (.lst (xs.map fun x => V.ref x.2.1)) = H2
    have g2 : Gr [] H H2 := by
      rw [← hH2]
      exact g1.trans (.new hl)
    have hl2 : H2 l = some (.lst (xs.map fun x => V.ref x.2.1)) := by rw [← hH2, upd_same]
    have hadr2 : ∀ x ∈ xs, SqT K H2 x.2.1 (nvs x.1) := fun x hx => by
      rw [← hH2]
      exact (Gr.new (ms := []) hl).sqT (hadr x hx)
    have nd := L.nodup
    have lotx : ∀ x ∈ xs, Lot wt x.1 := fun x hx => by
      obtain ⟨_, hs, _, e⟩ := L.reach x.1 (List.mem_map.mpr ⟨x, hx, rfl⟩)
      rw [e]
      exact Lot.by (Lot.first ok)
    have hlen : (xs.map fun x => V.ref x.2.1).length = xs.length := List.length_map ..
    refine ⟨_, rfl, l, rfl, ⟨_, .of hl2⟩, fun A hA => nc_list (xs := xs.map fun x => V.ref x.2.1) (fun i Hx => Gr [] H2 Hx ∧ Hx A = some (DN P w A (tabN (ksL (xs.take i)) (fI wt 0)))) ⟨.new hA, upd_same⟩ (fun i Hx _ h => h.1.sqL (.of hl2)) ?_ ?_⟩
    · rintro i y Hx hi ⟨g, hAx⟩
      rw [List.getElem?_map] at hi
      obtain ⟨x, hx, rfl⟩ := Option.map_eq_some_iff.mp hi
      have hxm := List.mem_of_getElem? hx
      have sq := g.sqT (hadr2 x hxm)
      have fin : ∀ z : Int, z = x0 x.1 → ∃ kvs kk' c, V.ref x.2.1 = V.ref c ∧ Hx A = some (DN P w A kvs) ∧ KOk K Hx kvs ∧ SqT K Hx c (kk'.map kV) ∧ kvs.length < sizeLine ∧ (Gr [] H2 (upd Hx A (DN P w A (putD kvs kk' c (.int z)))) ∧ upd Hx A (DN P w A (putD kvs kk' c (.int z))) A = some (DN P w A (tabN (ksL (xs.take (i + 1))) (fI wt 0)))) := fun z hz => by
        refine ⟨_, kk x.1, x.2.1, rfl, hAx, tab_kok (fun y hy => g.sqT (hadr2 y (List.mem_of_mem_take hy))) _, by rw [kk_V]; exact sq, ?_, g.put0 hA, ?_⟩
        · unfold tabN
          rw [List.length_map, ksL_length, List.length_take, sizeLine_eq]
          omega
        · rw [upd_same, tabN_put nd (fI wt 0) hx (by rw [hz]; show x0 x.1 = it wt 0 (un (kk x.1)); rw [un_kk] <;> rfl)]
      refine ⟨rfl, _, rfl, _, rfl, x.2.1, _, rfl, .inr sq, _, _, rfl, rfl, _, rfl, ?_⟩
      rw [nvs_length]
      refine ite2 (fun z => fin 0 ?_) (fun z => ⟨_, rfl, fin (-1) ?_⟩)
      · have z' := of_decide_eq_true z
        unfold x0
        rw [if_pos (by omega)]
      · have z' : ¬ ((x.1.length : Int) > 1) := fun y => z (decide_eq_true y)
        unfold x0
        rw [if_neg (by omega)]
    · rintro Hx ⟨g, hAx⟩
      rw [hlen, List.take_length] at hAx
      have hlx := g.all _ _ hl2
      refine ⟨_, rfl, l, _, rfl, .inl (.of hlx), _, _, rfl, rfl, _, rfl, ?_, ?_, for_it walk_range (fun i σ Hy => ∃ A x3 x4 x5 x6, Gr [] H2 Hy ∧ Hy A = some (DN P w A (tabN (ksL xs) (fI wt i))) ∧ (∀ j, j < i → ¬ Still wt (xs.map (·.1)) j) ∧ σ = [some (.ref p), some (.ref l), some (.ref A), x3, x4, x5, x6, none])
        ⟨A, none, none, none, none, g, hAx, fun j hj => absurd hj (by omega), rfl⟩ (fun _ _ _ _ _ => True.intro) ?_ ?_⟩
      · rw [hlen]; omega
      · rw [hlen]; omega
      · rintro i y σ Hy0 Hy hi ⟨A, x3, x4, x5, x6, gy, hAy, hno, rfl⟩ ⟨rfl, rfl⟩
        intro B hB
        have hB2 : H2 B = none := gy.none0 hB
        have gB : Gr [] Hy (upd Hy B (DN P w B [])) := .new hB
        refine ⟨_, rfl, l, rfl, ⟨_, (gy.trans gB).sqL (.of hl2)⟩, for_it (walk_list (xs := xs.map fun x => V.ref x.2.1)) (fun m σ Hz => ∃ x5 x6, Gr [] H2 Hz ∧ Hz A = some (DN P w A (tabN (ksL xs) (fI wt i))) ∧ Hz B = some (DN P w B (tabN (ksL (xs.take m)) (fI wt (i + 1)))) ∧ σ = [some (.ref p), some (.ref l), some (.ref A), some (.int (0 + (i : Nat))), some (.ref B), x5, x6, none])
          ⟨x5, x6, gy.trans gB, gB.all _ _ hAy, upd_same, rfl⟩ (fun m σ Hz _ ⟨_, _, g, _⟩ => g.sqL (.of hl2)) ?_ ?_⟩
        · rintro m y σ Hz0 Hz hm ⟨z5, z6, gz, hAz, hBz, rfl⟩ ⟨rfl, hy⟩
          rw [List.getElem?_map] at hy
          obtain ⟨x, hx, rfl⟩ := Option.map_eq_some_iff.mp hy
          have hxm := List.mem_of_getElem? hx
          have hxL : x.1 ∈ xs.map (·.1) := List.mem_map.mpr ⟨x, hxm, rfl⟩
          have lot := lotx x hxm
          refine ⟨_, rfl, _, rfl, p, x.2.1, wt, k, x.1, rfl, hp.gr0 (g2.trans gz), ok, gz.sqT (hadr2 x hxm), lot.lt, fun H3 d g3 hd hL => ?_⟩
          obtain ⟨ts, hts, hdK, hall⟩ := hL
          have g4 : Gr [] Hz (upd H3 d (.frz { cls := .none, data := .plain } (.dK (((wb wt x.1).zip ts).map fun x => (Sum.inl (x.1.1 : Int), V.ref x.2))))) := g3.put0 hd
          refine ⟨d, _, rfl, hdK, True.intro, fun od => ⟨d, od, _, rfl, upd_same, fun D9 hD9 => ?_⟩⟩
          have g5 : Gr [] Hz (upd H3 d (.frz od (.dK (((wb wt x.1).zip ts).map fun x => (Sum.inl (x.1.1 : Int), V.ref x.2))))) := g3.put0 hd
          have hzl : (((wb wt x.1).zip ts).map fun x => ((Sum.inl (x.1.1 : Int) : Key), V.ref x.2)).length = (wb wt x.1).length := by rw [List.length_map, List.length_zip]; omega
          refine lc_it walk_values (fun q Hu => Gr [] (upd H3 d (.frz od (.dK (((wb wt x.1).zip ts).map fun x => (Sum.inl (x.1.1 : Int), V.ref x.2))))) Hu ∧ Hu D9 = some (.lst ((((succs wt x.1).take q).map (it wt i)).map V.int))) ⟨.new hD9, upd_same⟩ (fun q Hu _ h => h.1.all _ _ upd_same) ?_ ?_
          · rintro q u Hu0 Hu hq ⟨gu, hDu⟩ ⟨rfl, kq, hkq⟩
            rw [hzl] at hq
            have hb : (wb wt x.1)[q]? = some (wb wt x.1)[q] := List.getElem?_eq_getElem hq
            have htq : ts[q]? = some (ts[q]'(by omega)) := List.getElem?_eq_getElem (by omega)
            have hzip : ((wb wt x.1).zip ts)[q]? = some ((wb wt x.1)[q], ts[q]'(by omega)) := List.getElem?_zip_eq_some.mpr ⟨hb, htq⟩
            rw [List.getElem?_map, hzip] at hkq
            cases hkq
            have hG : (succs wt x.1)[q]? = some (wb wt x.1)[q].2 := by
              unfold succs
              rw [List.getElem?_map, hb] <;> rfl
            have hGm : (wb wt x.1)[q].2 ∈ xs.map (·.1) := L.closed x.1 hxL _ (List.mem_of_getElem? hG)
            have ht3 := hall q _ _ hb htq
            have htu := gu.tup (show upd H3 d (.frz od (.dK (((wb wt x.1).zip ts).map fun x => (Sum.inl (x.1.1 : Int), V.ref x.2)))) (ts[q]'(by omega)) = _ by rw [upd_ne (ne_of ht3 hdK (fun z => nomatch z))]; exact ht3)
            have gzu := g5.trans gu
            refine ⟨rfl, _, rfl, _, rfl, A, ts[q]'(by omega), _, kk (wb wt x.1)[q].2, _, rfl, rfl, gzu.all _ _ hAz, tab_kok (fun y hy => (gz.trans gzu).sqT (hadr2 y hy)) _, by rw [kk_V]; exact .of htu, tabN_val nd _ hGm, _, hDu, ?_, gu.put0 hD9, ?_⟩
            · have : (wb wt x.1).length = ((wb wt x.1).map (·.1)).length := (List.length_map ..).symm
              have h4 : ((wb wt x.1).map (·.1)).length ≤ (List.range 4).length := length_le_of_subset (wb_nodup wt x.1) fun v hv => by
                rw [wb_keys] at hv
                exact (List.mem_filter.mp hv).1
              rw [List.length_range] at h4
              rw [List.length_map, List.length_map, List.length_take, sizeLine_eq]
              omega
            · have e : (succs wt x.1).take (q + 1) = (succs wt x.1).take q ++ [(wb wt x.1)[q].2] := by rw [List.take_add_one, hG] <;> rfl
              rw [upd_same, e, List.map_append, List.map_append]
              show some (HO.lst (_ ++ [V.int (it wt i (un (kk (wb wt x.1)[q].2)))])) = _
              rw [un_kk] <;> rfl
          · rintro Hu ⟨gu, hDu⟩
            rw [hzl] at hDu
            have hsl : (succs wt x.1).length = (wb wt x.1).length := by unfold succs; rw [List.length_map]
            rw [← hsl, List.take_length] at hDu
            have gzu := g5.trans gu
            have hne : x.1 ≠ [] := (L.reach x.1 hxL).1
            have hpos : 0 < ((succs wt x.1).map (it wt i)).length := by
              rw [List.length_map, hsl]
              exact List.length_pos_iff.mpr (wb_ne ok lot.lt hne)
            refine ⟨D9, _, rfl, .of hDu, hpos, fun mm hmm hle => ?_⟩
            have emm : mm = mx ((succs wt x.1).map (it wt i)) := mx_is hmm hle
            have hAu := gzu.all _ _ hAz
            have kokA := tab_kok (fun y hy => (gz.trans gzu).sqT (hadr2 y hy)) (fI wt i)
            have sqx := (gz.trans gzu).sqT (hadr2 x hxm)
            have sqx' : SqT K Hu x.2.1 ((kk x.1).map kV) := by rw [kk_V]; exact sqx
            have fin : ∀ z : Int, z = up mm → ∃ (a b : Addr) (kvs : KD) (k : List Key), V.ref B = V.ref a ∧ V.ref x.2.1 = V.ref b ∧ Hu a = some (DN P w a kvs) ∧ KOk K Hu kvs ∧ SqT K Hu b (k.map kV) ∧ kvs.length < sizeLine ∧
                ∃ x5 x6, Gr [] H2 (upd Hu a (DN P w a (putD kvs k b (.int (if z > fI wt i (kk x.1) then z else fI wt i (kk x.1)))))) ∧ upd Hu a (DN P w a (putD kvs k b (.int (if z > fI wt i (kk x.1) then z else fI wt i (kk x.1))))) A = some (DN P w A (tabN (ksL xs) (fI wt i))) ∧
                  upd Hu a (DN P w a (putD kvs k b (.int (if z > fI wt i (kk x.1) then z else fI wt i (kk x.1))))) B = some (DN P w B (tabN (ksL (xs.take (m + 1))) (fI wt (i + 1)))) ∧ [some (V.ref p), some (.ref l), some (.ref A), some (.int (0 + (i : Nat))), some (.ref B), some (.ref x.2.1), some (.int mm), none] = [some (V.ref p), some (.ref l), some (.ref A), some (.int (0 + (i : Nat))), some (.ref B), x5, x6, none] := fun z hz => by
              have nAB : A ≠ B := fun e => by
                rw [← e, hAy] at hB
                cases hB
              refine ⟨B, x.2.1, _, kk x.1, rfl, rfl, gzu.all _ _ hBz, tab_kok (fun y hy => (gz.trans gzu).sqT (hadr2 y (List.mem_of_mem_take hy))) _, sqx', ?_, _, _, (gz.trans gzu).put0 hB2, by rw [upd_ne nAB]; exact hAu, ?_, rfl⟩
              · unfold tabN
                rw [List.length_map, ksL_length, List.length_take, sizeLine_eq]
                omega
              · rw [upd_same, tabN_put nd (fI wt (i + 1)) hx]
                show _ = it wt (i + 1) (un (kk x.1))
                have e1 : fI wt i (kk x.1) = it wt i x.1 := by show it wt i (un (kk x.1)) = _; rw [un_kk]
                rw [un_kk, e1, hz, emm]
                show _ = nx wt (it wt i) x.1
                unfold nx
                rw [Int.max_def]
                split <;> split <;> omega
            refine ⟨_, rfl, _, rfl, A, x.2.1, _, kk x.1, _, rfl, rfl, hAu, kokA, sqx', tabN_val nd _ hxL, ?_⟩
            refine ⟨_, rfl, _, _, rfl, rfl, _, rfl, ite2 (fun z => ?_) (fun z => ?_)⟩
            · refine ⟨_, rfl, _, _, rfl, rfl, _, _, rfl, _, rfl, _, rfl, fin (mm + 1) ?_⟩
              have z' := of_decide_eq_true z
              unfold up
              rw [if_pos (by omega)]
            · refine ⟨_, rfl, _, _, rfl, _, rfl, _, rfl, fin (-1) ?_⟩
              have z' : ¬ (mm ≥ 0) := fun y => z (decide_eq_true y)
              unfold up
              rw [if_neg (by omega)]
        · rintro σ Hz ⟨z5, z6, gz, hAz, hBz, rfl⟩
          rw [hlen, List.take_length] at hBz
          refine ⟨_, rfl, _, rfl, B, A, ksL xs, fI wt (i + 1), fI wt i, rfl, rfl, hBz, hAz, ksL_ok (fun x hx => gz.sqT (hadr2 x hx)), _, rfl, ite2 (fun z => ?_) (fun z => ?_)⟩
          · exact ⟨_, rfl, q1 _ xs A i (g2.trans gz) L (still_iff.mp (of_decide_eq_true z)) hAz fun x hx => gz.sqT (hadr2 x hx)⟩
          · refine ⟨_, rfl, B, _, _, _, _, gz, hBz, fun j hj => ?_, rfl⟩
            by_cases hji : j < i
            · exact hno j hji
            · have : j = i := by omega
              subst this
              exact fun s => z (decide_eq_true (still_iff.mpr s))
      · rintro σ Hy ⟨A, x3, x4, x5, x6, gy, hAy, hno, rfl⟩
        refine q2 _ xs (g2.trans gy) L fun j hj => hno j ?_
        rw [hlen]
        show j < ((xs.length : Int) + 1).toNat
        omega
end
end K75
end
section
set_option Elab.async false
set_option linter.all false
set_option maxRecDepth 100000
set_option maxHeartbeats 4000000
/-! settles_after; ways_behind, without_behind -/
namespace K75
open PySem PySem.Spec PyProof.Rows L2 HW HX
section
variable {P : Program} {w : World} {K : PySem.W.Frag} {mg : Str → Option Value} {base : Heap} {CW CO : Addr}
theorem sc_settles_after : FnScope ["watch", "numbers"] ["watch"] (C8.fnScope s_settles_after) := C8.fnScope_by (by decide +kernel)
def spSettles (CW : Addr) : Sp := fun vs H Q _ => ∃ (p : Addr) (wt : Wt) (k : Nat), vs = [.ref p] ∧ WatchAt CW H p wt ∧ wt.Ok k ∧
  (∀ H' Ls j, Gr [] H H' → Lots wt Ls → Still wt Ls j → Q (.int (it wt j [0] + 1)) H') ∧ (∀ H' Ls, Gr [] H H' → Lots wt Ls → (∀ j, j ≤ Ls.length → ¬ Still wt Ls j) → Q .non H')
theorem c_settles_after (T : Txt K mg base CW CO) : C8.Cal P w K mg base 6 "settles_after" (spSettles CW) [] := by
  obtain ⟨f, fd, D, df⟩ := T.d_settles_after
  obtain ⟨aF, mF, hFI⟩ := T.g_FIRST
  refine C8.cal0 D (D.fn.binds (ps := ["watch"]) df fun _ _ _ _ _ _ us hl => match us, hl with | [_], _ => rfl) .nil sc_settles_after (fun vs H Q E h => ?_) (fun cdv A outer s H vs Q E hr h => ?_)
  · obtain ⟨p, wt, k, rfl, _⟩ := h
    rfl
  · obtain ⟨p, wt, k, rfl, hp, ok, q1, q2⟩ := h
    have hu := hu_of hr
    refine ⟨_, pss_cons (ps_expr (C8.pe_c (c_need_watch T) hr (by decide) (by rfl) (pa_cons (pv 0) pa_nil)))
      (pss_cons (ps_set (i := 1) sc_settles_after.nd rfl (Or.inl rfl) (C8.pe_c (c_numbers_by T) hr (by decide) (by rfl) (pa_cons (pv 0) pa_nil)))
      (pss_one (ps_ret (pe_ifExp (pt_cmp (pc_isN (pv 1))) pe_non (pe_op op_add (pe_nget hu (pv 1) (pe_glob (v := .ref aF) (by rfl) mF rfl) (fun _ _ => rfl)) pe_int))))), ?_⟩
    refine ⟨_, rfl, p, wt, rfl, hp, _, rfl, p, wt, k, rfl, hp, ok, fun H1 xs A j g1 L st hA hadr => ?_, fun H1 xs g1 L hno => ?_⟩
    · refine ⟨_, rfl, false, rfl, _, rfl, A, aF, _, kk [0], _, rfl, rfl, hA, tab_kok hadr _, by rw [kk_V]; exact hFI _, tabN_val L.nodup _ L.first, _, _, rfl, rfl, ?_⟩
      have e : fI wt j (kk [0]) = it wt j [0] := by
        show it wt j (un (kk [0])) = _
        rw [un_kk]
      rw [e]
      exact q1 _ _ j g1 L st
    · exact ⟨_, rfl, true, rfl, q2 _ _ g1 L fun j hj => hno j (by rw [List.length_map] at hj; exact hj)⟩
/-! ### ways_behind -/
theorem sc_ways_behind : FnScope ["watch", "ways", "word", "found", "place", "many", "goal"] ["watch", "ways", "word"] (C8.fnScope s_ways_behind) := C8.fnScope_by (by decide +kernel)
def spWays (CW : Addr) : Sp := fun vs H Q _ => ∃ (p d : Addr) (wt : Wt) (k v : Nat) (m : CM), vs = [.ref p, .ref d, .int (v : Int)] ∧ WatchAt CW H p wt ∧ wt.Ok k ∧ H d = some (.dK (cK m)) ∧ Ways wt m ∧
  ∀ H' d2 m2, Gr [] H H' → H d2 = none → H' d2 = some (.dK (cK m2)) → Behind wt v (fun f => tot m (stepF wt v f)) m2 → Q (.ref d2) H'
theorem c_ways_behind (T : Txt K mg base CW CO) : C8.Cal P w K mg base 3 "ways_behind" (spWays CW) [] := by
  obtain ⟨f, fd, D, df⟩ := T.d_ways_behind
  refine C8.cal0 D (D.fn.binds (ps := ["watch", "ways", "word"]) df fun _ _ _ _ _ _ us hl => match us, hl with | [_, _, _], _ => rfl) .nil sc_ways_behind (fun vs H Q E h => ?_) (fun cdv A outer s H vs Q E hr h => ?_)
  · obtain ⟨p, d, wt, k, v, m, rfl, _⟩ := h
    rfl
  · obtain ⟨p, d, wt, k, v, m, rfl, hp, ok, hd, hw, q⟩ := h
    have hu := hu_of hr
    refine ⟨_, pss_cons (ps_set (i := 3) sc_ways_behind.nd rfl (Or.inl rfl) pe_dnewK)
      (pss_cons (ps_lock (ps_for PassesOwn.never rfl (pi_items (pv 1)) (pg_tup rfl (pgs_cons (pg_name (i := 4) sc_ways_behind.nd rfl (Or.inl rfl)) (pgs_cons (pg_name (i := 5) sc_ways_behind.nd rfl (Or.inl rfl)) pgs_nil)))
          (pss_one (ps_for PassesOwn.never rfl (pi_tup (pe_goals (i := 4) T hr (by decide) (pv 0) (pv 4))) (pg_name (i := 6) sc_ways_behind.nd rfl (Or.inl rfl))
            (pss_one (ps_if (pt_cmpR op_eq (pe_wordat (i := 6) T hr (by decide) (pv 0) (pv 6)) (pv 2) (nomark _))
              (pss_one (ps_dput hu (pv 3) (pv 6) (pe_op op_add (pe_dget2 hu (pv 3) (pv 6) pe_int ⟨rfl, rfl, rfl, rfl⟩) (pv 5)) rfl)) pss_nil))))))
      (pss_one (ps_ret (pv 3)))), ?_⟩
    intro d2 hd2
    have ndd : d ≠ d2 := ne_of_none hd hd2
    have hdz : upd H d2 (.dK []) d = some (.dK (cK m)) := by rw [upd_ne ndd]; exact hd
    refine ⟨d, _, hdz, True.intro, fun od => ?_⟩
    generalize hH1 : upd (upd H d2 (.dK [])) d (.frz od (.dK (cK m))) = H1
    have hd1 : H1 d = some (.frz od (.dK (cK m))) := by rw [← hH1, upd_same]
    have hd21 : H1 d2 = some (.dK (cK [])) := by rw [← hH1, upd_ne ndd.symm, upd_same] <;> rfl
    have hgH : ∀ Hx, Gr [d2] H1 Hx → Hx d = some (.frz od (.dK (cK m))) → Gr [] H (upd Hx d (.dK (cK m))) := fun Hx g hx b o e _ => by
      by_cases hb : b = d
      · subst hb
        rw [hd] at e
        cases e
        exact upd_same
      · rw [upd_ne hb]
        have hb2 : b ≠ d2 := ne_of_none e hd2
        refine g b o ?_ (fun z => by rw [List.mem_singleton] at z; exact absurd z hb2)
        rw [← hH1, upd_ne hb, upd_ne hb2]
        exact e
    have hp1 : WatchAt CW H1 p wt := by
      obtain ⟨dx, tm, tw, e1, e2⟩ := hp
      have keepT : ∀ c ys, H c = some (.tup ys) → H1 c = some (.tup ys) := fun c ys e => by
        rw [← hH1, upd_ne (ne_of e hd (fun z => nomatch z)), upd_ne (ne_of_none e hd2)]
        exact e
      refine ⟨dx, tm, tw, ?_, ?_⟩
      · rw [← hH1, upd_ne (ne_of e1 hd (fun z => nomatch z)), upd_ne (ne_of_none e1 hd2)]
        exact e1
      · obtain ⟨⟨rows, h1, h2, h3⟩, h4⟩ := e2
        exact ⟨⟨rows, keepT _ _ h1, h2, fun i r l e1 e2 => keepT _ _ (h3 i r l e1 e2)⟩, keepT _ _ h4⟩
    have npd2 : p ≠ d2 := by
      obtain ⟨dx, tm, tw, e1, e2⟩ := hp
      exact ne_of_none e1 hd2
    have hpg : ∀ {Hx : Hp}, Gr [d2] H1 Hx → WatchAt CW Hx p wt := fun g => hp1.gr g (by simp [npd2])
    refine ⟨_, rfl, d, od, _, rfl, hd1, for_it walk_items (fun j σ Hy => ∃ m2 x5 x6 x7, Gr [d2] H1 Hy ∧ Hy d2 = some (.dK (cK m2)) ∧ Behind wt v (fun f => tot (m.take j) (stepF wt v f)) m2 ∧ σ = [some (.ref p), some (.ref d), some (.int (v : Int)), some (.ref d2), x5, x6, x7])
        ⟨[], none, none, none, .refl _ _, hd21, ⟨by simp, by simp, fun f => by simp [tot]⟩, rfl⟩ (fun j σ Hy _ ⟨m2, x5, x6, x7, g, _⟩ => g _ _ hd1 (fun z => by rw [List.mem_singleton] at z; exact absurd z ndd)) ?_ ?_⟩
    · rintro j y σ Hw Hw2 hj ⟨m2, y5, y6, y7, gw, hm2, bh, rfl⟩ ⟨t, xk, xv, rfl, ht0, rfl, h1, h2⟩
      have hj2 : j < m.length := by
        unfold cK at hj
        rw [List.length_map] at hj
        exact hj
      have hmj : m[j]? = some m[j] := List.getElem?_eq_getElem hj2
      have hck : (cK m)[j]? = some (Sum.inl (m[j].1 : Int), V.int (m[j].2 : Int)) := by
        unfold cK
        rw [List.getElem?_map, hmj] <;> rfl
      replace h1 : (cK m)[j]?.map (fun kv => kV kv.1) = some xk := h1
      replace h2 : (cK m)[j]?.map Prod.snd = some xv := h2
      rw [hck] at h1 h2
      cases h1
      cases h2
      have hpn : m[j].1 < wt.n := hw.lt _ (List.mem_map.mpr ⟨_, List.mem_of_getElem? hmj, rfl⟩)
      have gT : Gr [d2] Hw (upd Hw t (.tup [kV (Sum.inl (m[j].1 : Int)), V.int (m[j].2 : Int)])) := .new ht0
      refine ⟨t, _, rfl, .of upd_same, rfl, _, _, rfl, _, _, rfl, rfl, ?_⟩
      refine ⟨p, wt, m[j].1, rfl, hpg (gw.trans gT), rfl, hpn, fun r hr => ⟨r, rfl, ⟨_, .of hr⟩, for_it (walk_tup (xs := nvs (wt.goals m[j].1))) (fun jj σ Hz => ∃ m3 x7, Gr [d2] H1 Hz ∧ Hz d2 = some (.dK (cK m3)) ∧ Behind wt v (fun f => tot (m.take j) (stepF wt v f) + m[j].2 * (((wt.goals m[j].1).take jj).map fun g => if wt.word g = v then f g else 0).sum) m3 ∧ Hz r = some (.tup (nvs (wt.goals m[j].1))) ∧
          σ = [some (.ref p), some (.ref d), some (.int (v : Int)), some (.ref d2), some (.int (m[j].1 : Int)), some (.int (m[j].2 : Int)), x7])
        ⟨m2, y7, gw.trans gT, by rw [upd_ne (ne_of_none hm2 ht0)]; exact hm2, bh.congr fun f => by simp, hr, rfl⟩ (fun jj σ Hz _ ⟨m3, x7, _, _, _, hr, _⟩ => .of hr) ?_ ?_⟩⟩
      · rintro jj z σ Hz0 Hz hjj ⟨m3, z7, gz, hm3, bh3, hr3, rfl⟩ ⟨rfl, hz⟩
        obtain ⟨gg, hgj, rfl⟩ := nvs_get hz
        have hgn := ok.goals_lt (List.mem_of_getElem? hgj)
        refine ⟨p, wt, k, gg, rfl, hpg gz, ok, rfl, hgn, _, rfl, rfl, _, rfl, ?_⟩
        refine ite2 (fun zz => ?_) (fun zz => ?_)
        · have e : wt.word gg = v := by
            have z' := of_decide_eq_true zz
            injection z' with z'
            omega
          obtain ⟨old, e1, e2⟩ := cK_put bh3.nd gg m[j].2
          refine ⟨_, rfl, d2, rfl, .inl ⟨_, .of hm3⟩, _, rfl, _, DGet.k (k := Sum.inl (gg : Int)) hm3, _, rfl, (old : Int), _, e1, rfl, _, rfl, _, rfl, d2, _, rfl, DPut.k (k := Sum.inl (gg : Int)) hm3 ?_, ?_⟩
          · have := bh3.few ok
            unfold cK
            rw [List.length_map, sizeLine_eq]
            omega
          · rw [e2]
            refine ⟨_, _, gz.trans (.put (by simp) hm3 (fun z => z)), upd_same, (bh3.add m[j].2 hgn).congr fun f => ?_, by rw [upd_ne (ne_of hr3 hm3 (fun z => nomatch z))]; exact hr3, rfl⟩
            rw [take_sum hgj, if_pos e, Nat.mul_add, Nat.add_assoc]
        · have e : ¬ wt.word gg = v := fun e => zz (decide_eq_true (by rw [e]))
          refine ⟨m3, _, gz, hm3, bh3.congr fun f => ?_, hr3, rfl⟩
          rw [take_sum hgj, if_neg e]
          simp
      · rintro σ Hz ⟨m3, z7, gz, hm3, bh3, hr3, rfl⟩
        refine ⟨m3, _, _, _, gz, hm3, bh3.congr fun f => ?_, rfl⟩
        rw [nvs_length, List.take_length, tot_step hmj]
    · rintro σ Hy ⟨m2, y5, y6, y7, gw, hm2, bh, rfl⟩
      have hfz := gw _ _ hd1 (fun z => by rw [List.mem_singleton] at z; exact absurd z ndd)
      refine ⟨hfz, _, rfl, q _ d2 m2 (hgH _ gw hfz) hd2 (by rw [upd_ne ndd.symm]; exact hm2) (bh.congr fun f => ?_)⟩
      have hl : (cK m).length = m.length := by unfold cK; rw [List.length_map]
      rw [hl, List.take_length]
end
end K75
end
section
set_option Elab.async false
set_option linter.all false
set_option maxRecDepth 100000
set_option maxHeartbeats 4000000
/-! observers -/
namespace K75
open PySem PySem.Spec PyProof.Rows L2 HW HX
theorem gsK_put {gs : List Nat} (nd : gs.Nodup) (g : Nat) : ∃ gs', putK (gsK gs) (Sum.inl (g : Int)) .non = gsK gs' ∧ gs'.Nodup ∧ ∀ x ∈ gs', x ∈ gs ∨ x = g := by
  by_cases h : g ∈ gs
  · exact ⟨gs, gsK_put_old h, nd, fun x hx => .inl hx⟩
  · refine ⟨gs ++ [g], gsK_put_new h, ?_, fun x hx => ?_⟩
    · rw [List.nodup_append]
      refine ⟨nd, by simp, fun a ha b hb z => ?_⟩
      subst z
      have e : a = g := by simpa using hb
      subst e
      exact h ha
    · rcases List.mem_append.mp hx with hx | hx
      · exact .inl hx
      · exact .inr (List.mem_singleton.mp hx)
/-- sorted natural numbers come from natural numbers -/
theorem nats_of {is : List Int} {gs : List Nat} (h : is.Perm (gs.map fun g : Nat => (g : Int))) : ∃ l : List Nat, is.map V.int = nvs l ∧ ∀ x ∈ l, x ∈ gs := by
  have hall : ∀ z ∈ is, ∃ g ∈ gs, z = (g : Int) := fun z hz => by
    obtain ⟨g, hg, e⟩ := List.mem_map.mp (h.mem_iff.mp hz)
    exact ⟨g, hg, e.symm⟩
  clear h
  induction is with
  | nil => exact ⟨[], rfl, fun x hx => by cases hx⟩
  | cons z is ih =>
    obtain ⟨l, h1, h2⟩ := ih fun y hy => hall y (List.mem_cons_of_mem _ hy)
    obtain ⟨g, hg, rfl⟩ := hall z List.mem_cons_self
    refine ⟨g :: l, ?_, fun x hx => ?_⟩
    · rw [List.map_cons, h1] <;> rfl
    · rcases List.mem_cons.mp hx with rfl | hx
      · exact hg
      · exact h2 x hx
section
variable {P : Program} {w : World} {K : PySem.W.Frag} {mg : Str → Option Value} {base : Heap} {CW CO : Addr}
theorem sc_without : FnScope ["watch", "places", "word", "kind", "found", "place", "other", "goal"] ["watch", "places", "word", "kind"] (C8.fnScope s_without_behind) := C8.fnScope_by (by decide +kernel)
def spWithout (K : PySem.W.Frag) (CW : Addr) : Sp := fun vs H Q _ => ∃ (p a : Addr) (wt : Wt) (k v kd : Nat) (L : List Nat), vs = [.ref p, .ref a, .int (v : Int), .int (kd : Int)] ∧ WatchAt CW H p wt ∧ wt.Ok k ∧ SqT K H a (nvs L) ∧ (∀ g ∈ L, g < wt.n) ∧
  ∀ H' b L', Gr [] H H' → H' b = some (.tup (nvs L')) → (∀ g ∈ L', g < wt.n) → Q (.ref b) H'
theorem c_without (T : Txt K mg base CW CO) : C8.Cal P w K mg base 3 "without_behind" (spWithout K CW) [] := by
  obtain ⟨f, fd, D, df⟩ := T.d_without_behind
  refine C8.cal0 D (D.fn.binds (ps := ["watch", "places", "word", "kind"]) df fun _ _ _ _ _ _ us hl => match us, hl with | [_, _, _, _], _ => rfl) .nil sc_without (fun vs H Q E h => ?_) (fun cdv A outer s H vs Q E hr h => ?_)
  · obtain ⟨p, a, wt, k, v, kd, L, rfl, _⟩ := h
    rfl
  · obtain ⟨p, a, wt, k, v, kd, L, rfl, hp, ok, ha, hL, q⟩ := h
    have hu := hu_of hr
    refine ⟨_, pss_cons (ps_set (i := 4) sc_without.nd rfl (Or.inl rfl) pe_dnewK)
      (pss_cons (ps_for PassesOwn.never rfl (pi_tup (pv 1)) (pg_name (i := 5) sc_without.nd rfl (Or.inl rfl))
        (pss_one (ps_for PassesOwn.never rfl (pi_enumT (by rfl) T.z_enumerate (pa_cons (pe_goals (i := 5) T hr (by decide) (pv 0) (pv 5)) pa_nil)) (pg_tup rfl (pgs_cons (pg_name (i := 6) sc_without.nd rfl (Or.inl rfl)) (pgs_cons (pg_name (i := 7) sc_without.nd rfl (Or.inl rfl)) pgs_nil)))
          (pss_one (ps_if (PW.pt (pw_and (pt_cmpR op_ne (pv 6) (pv 3) (nomark _)) (pw_and1 (pt_cmpR op_eq (pe_wordat (i := 7) T hr (by decide) (pv 0) (pv 7)) (pv 2) (nomark _))))) (pss_one (ps_dput hu (pv 4) (pv 7) pe_non rfl)) pss_nil)))))
      (pss_one (ps_ret (pe_callTy call_tuple_of (by rfl) T.z_tuple (by decide +kernel) (pa_cons (pe_callB (call_sortedDI rfl) (by rfl) T.z_sorted (by decide +kernel) (pa_cons (pv 4) pa_nil)) pa_nil))))), ?_⟩
    intro F hF
    refine ⟨_, rfl, a, rfl, ⟨_, (Gr.new (ms := []) hF).sqT ha⟩, for_it (walk_tup (xs := nvs L)) (fun i σ Hx => ∃ gs x5 x6 x7, Gr [] H Hx ∧ Hx F = some (.dK (gsK gs)) ∧ gs.Nodup ∧ (∀ g ∈ gs, g < wt.n) ∧ σ = [some (.ref p), some (.ref a), some (.int (v : Int)), some (.int (kd : Int)), some (.ref F), x5, x6, x7])
      ⟨[], none, none, none, .new hF, upd_same, by simp, by simp, rfl⟩ (fun i σ Hx _ ⟨gs, _, _, _, g, _⟩ => g.sqT ha) ?_ ?_⟩
    · rintro i x σ Hy Hx hi ⟨gs, x5, x6, x7, g, hFx, nd, lt, rfl⟩ ⟨rfl, hx⟩
      obtain ⟨pl, hpl, rfl⟩ := nvs_get hx
      have hpn := hL pl (List.mem_of_getElem? hpl)
      refine ⟨p, wt, pl, rfl, hp.gr0 g, rfl, hpn, fun r hr => ⟨r, _, rfl, .of hr, for_it (walk_enumT (xs := nvs (wt.goals pl))) (fun jj σ Hz => ∃ gs x6 x7, Gr [] H Hz ∧ Hz F = some (.dK (gsK gs)) ∧ gs.Nodup ∧ (∀ g ∈ gs, g < wt.n) ∧ Hz r = some (.tup (nvs (wt.goals pl))) ∧ σ = [some (.ref p), some (.ref a), some (.int (v : Int)), some (.int (kd : Int)), some (.ref F), some (.int (pl : Int)), x6, x7])
        ⟨gs, x6, x7, g, hFx, nd, lt, hr, rfl⟩ (fun jj σ Hz _ ⟨_, _, _, _, _, _, _, hr, _⟩ => .of hr) ?_ ?_⟩⟩
      · rintro jj y σ Hz Hz2 hj ⟨gs2, z6, z7, gz, hFz, nd2, lt2, hrz, rfl⟩ ⟨t, xk, xv, rfl, ht0, rfl, h1, h2⟩
        cases h1
        obtain ⟨gg, hgj, rfl⟩ := nvs_get h2
        have hgn := ok.goals_lt (List.mem_of_getElem? hgj)
        have gT : Gr [] Hz (upd Hz t (.tup [V.int (jj : Nat), V.int (gg : Int)])) := .new ht0
        have hFt := gT.all _ _ hFz
        have hrt := gT.tup hrz
        refine ⟨t, _, rfl, .of upd_same, rfl, _, _, rfl, _, _, rfl, rfl, ?_⟩
        refine ⟨_, rfl, _, rfl, rfl, _, rfl, ite2 (fun zz => ?_) (fun zz => ?_)⟩
        · refine ⟨p, wt, k, gg, rfl, hp.gr0 (gz.trans gT), ok, rfl, hgn, _, rfl, rfl, _, rfl, ite2 (fun z2 => ?_) (fun z2 => ?_)⟩
          · obtain ⟨gs', e1, e2, e3⟩ := gsK_put nd2 gg
            refine ⟨_, rfl, _, rfl, F, _, rfl, DPut.k (k := Sum.inl (gg : Int)) hFt ?_, ?_⟩
            · have h6 : gs2.length ≤ (List.range wt.n).length := length_le_of_subset nd2 fun g hg => List.mem_range.mpr (lt2 g hg)
              have := ok.n6
              rw [List.length_range] at h6
              unfold gsK
              rw [List.length_map, sizeLine_eq]
              omega
            · rw [e1]
              refine ⟨gs', _, _, (gz.trans gT).put0 hF, upd_same, e2, fun x hx => ?_, by rw [upd_ne (ne_of hrt hFt (fun z => nomatch z))]; exact hrt, rfl⟩
              rcases e3 x hx with h | rfl
              · exact lt2 x h
              · exact hgn
          · exact ⟨gs2, _, _, gz.trans gT, hFt, nd2, lt2, hrt, rfl⟩
        · exact ⟨gs2, _, _, gz.trans gT, hFt, nd2, lt2, hrt, rfl⟩
      · rintro σ Hz ⟨gs2, z6, z7, gz, hFz, nd2, lt2, hrz, rfl⟩
        exact ⟨gs2, _, _, _, gz, hFz, nd2, lt2, rfl⟩
    · rintro σ Hx ⟨gs, x5, x6, x7, g, hFx, nd, lt, rfl⟩
      have h6 : gs.length ≤ (List.range wt.n).length := length_le_of_subset nd fun g hg => List.mem_range.mpr (lt g hg)
      rw [List.length_range] at h6
      have := ok.n6
      refine ⟨_, rfl, F, _, gs.map fun g : Nat => (g : Int), rfl, .of hFx, by rw [gsK_keys, List.map_map] <;> rfl, by rw [List.length_map]; omega, fun ys p1 hperm hasc hp1 => ?_⟩
      obtain ⟨l, e1, e2⟩ := nats_of hperm
      rw [e1]
      exact ⟨p1, _, rfl, .inl ⟨.of upd_same, fun t ht => q _ t l ((g.trans (.new hp1)).trans (.new ht)) upd_same fun x hx => lt x (e2 x hx)⟩⟩
end
end K75
end
section
set_option Elab.async false
set_option linter.all false
set_option maxRecDepth 100000
set_option maxHeartbeats 4000000
/-! observers made and led -/
namespace K75
open PySem PySem.Spec PyProof.Rows L2 HW HX
section
variable {P : Program} {w : World} {K : PySem.W.Frag} {mg : Str → Option Value} {base : Heap} {CW CO : Addr}
theorem sc_Observer_init : FnScope ["self", "watch", "kind"] ["self", "watch"] (C8.fnScope s_Observer_init) := C8.fnScope_by (by decide +kernel)
def spObserver (K : PySem.W.Frag) (CO CW : Addr) : Sp := fun vs H Q _ => ∃ (o p dx : Addr) (wt : Wt) (k : Nat), vs = [.ref o, .ref p] ∧ H o = some (.ins CO dx []) ∧ WatchAt CW H p wt ∧ p ≠ o ∧ wt.Ok k ∧
  ∀ H' l h, Gr [o] H H' → H l = none → H h = none → ObsAt CO CW K H' o l h p wt [0] 0 → Q .non H'
theorem c_Observer (T : Txt K mg base CW CO) : C8.Mak P w K mg base 3 "Observer" CO (spObserver K CO CW) [] := by
  obtain ⟨f, fd, M, F, df⟩ := T.mObserver
  obtain ⟨aF, mF, hFI⟩ := T.g_FIRST
  refine C8.mak0 M T.mgObserver F (F.binds (ps := ["self", "watch"]) df fun _ _ _ _ _ _ us hl => match us, hl with | [_, _], _ => rfl) .nil sc_Observer_init (fun vs H Q E h => ?_) (fun cdv A outer s H vs Q E hr h => ?_)
  · obtain ⟨o, p, dx, wt, k, rfl, _⟩ := h
    rfl
  · obtain ⟨o, p, dx, wt, k, rfl, ho, hp, hpo, ok, q⟩ := h
    refine ⟨_, pss_cons (ps_expr (C8.pe_c (c_need_watch T) hr (by decide) (by rfl) (pa_cons (pv 1) pa_nil)))
      (pss_cons (ps_fld (pv 0) (pv 1) rfl)
      (pss_cons (ps_fld (pv 0) (pe_lst (pa_cons (pe_tup (pa_cons (pe_glob (v := .ref aF) (by rfl) mF rfl) (pa_cons (pe_disp (pps_cons pe_int pe_int pps_nil) (by rfl) (by rfl) (fun z => by cases z) (by decide)) (pa_cons (pe_callTy call_tuple_of (by rfl) T.z_tuple (by decide +kernel) (pa_cons (pe_lc (own := [("kind", 2)]) (g := gName 2) (tt := tYes) (by rfl) sc_Observer_init.nd (pi_range1 rfl T.z_range (pa_cons (pe_kinds T hr (by decide) (pv 1)) pa_nil)) (blkOk_by (own := [("kind", 2)]) (N := ["self", "watch", "kind"]) (sc := C8.fnScope s_Observer_init) (by decide +kernel))
          (fun _ _ _ _ _ => pg_name (i := 2) sc_Observer_init.nd rfl (Or.inl rfl)) (fun _ _ _ _ _ => pts_nil) (fun _ _ _ _ _ => pe_glob (v := .ref aF) (by rfl) mF rfl)) pa_nil)) pa_nil)))) pa_nil)) rfl)
      (pss_cons (ps_fld (pv 0) (pe_lst pa_nil) rfl)
      (pss_one (ps_fld (pv 0) (pe_lst pa_nil) rfl))))), ?_⟩
    refine ⟨_, rfl, p, wt, rfl, hp, _, rfl, _, rfl, o, CO, dx, _, rfl, ho, T.clObserver, T.nObserver_own_watch, (by show 0 < 1000; decide), ?_⟩
    rw [put1]
    have g1 : Gr [o] H (upd H o (.ins CO dx (fs1 p))) := .put (by simp) ho (fun z => z)
    generalize hH1 : upd H o (.ins CO dx (fs1 p)) = H1 at g1 ⊢
    have ho1 : H1 o = some (.ins CO dx (fs1 p)) := by rw [← hH1, upd_same]
    have hp1 : WatchAt CW H1 p wt := hp.gr g1 (by simp [hpo])
    -- the line: (FIRST, {0: 1}, tuple)
    intro d hd
    refine ⟨upd_same, [(Sum.inl 0, .int 1)], rfl, by decide, ?_⟩
    have g2 : Gr [] H1 (upd (upd H1 d (.dK [])) d (.dK (mergeK [] [(Sum.inl 0, .int 1)]))) := ((Gr.refl [] H1).put0 hd).put0 hd
    have hd2 : upd (upd H1 d (.dK [])) d (.dK (mergeK [] [(Sum.inl 0, .int 1)])) d = some (.dK (cK [(0, 1)])) := upd_same
    generalize upd (upd H1 d (.dK [])) d (.dK (mergeK [] [(Sum.inl 0, .int 1)])) = H2 at g2 hd2 ⊢
    obtain ⟨dxp, tm, tw, hpi, _⟩ := id (hp1.gr0 g2)
    have k4 := ok.k4
    refine ⟨_, rfl, p, dxp, _, rfl, hpi, p, wt, k, rfl, hp1.gr0 g2, ok, _, rfl, by omega, by omega, fun D hD => ?_⟩
    refine lc_it walk_range (fun i Hx => Gr [] H2 Hx ∧ Hx D = some (.lst (List.replicate i (V.ref aF)))) ⟨.new hD, upd_same⟩ (fun _ _ _ _ => True.intro) ?_ ?_
    · rintro i x Hy Hx hi ⟨g, hDx⟩ ⟨rfl, rfl⟩
      refine ⟨rfl, _, hDx, ?_, g.put0 hD, ?_⟩
      · rw [List.length_replicate, sizeLine_eq]
        have : i < ((k : Int)).toNat := hi
        omega
      · rw [upd_same, List.replicate_succ'] <;> rfl
    · rintro Hx ⟨g, hDx⟩
      have hkn : ((k : Int)).toNat = k := by omega
      rw [hkn] at hDx
      refine ⟨D, _, rfl, .inl ⟨.of hDx, fun wo hwo => ?_⟩⟩
      have g3 : Gr [] H1 (upd Hx wo (.tup (List.replicate k (V.ref aF)))) := (g2.trans g).trans (.new hwo)
      have hwo3 : upd Hx wo (.tup (List.replicate k (V.ref aF))) wo = some (.tup (List.replicate k (V.ref aF))) := upd_same
      have hd3 : upd Hx wo (.tup (List.replicate k (V.ref aF))) d = some (.dK (cK [(0, 1)])) := (g.trans (.new hwo)).all _ _ hd2
      generalize upd Hx wo (.tup (List.replicate k (V.ref aF))) = H3 at g3 hwo3 hd3 ⊢
      refine ⟨by show 3 ≤ sizeLine; rw [sizeLine_eq]; omega, fun tr htr => ?_⟩
      have g4 : Gr [] H3 (upd H3 tr (.tup [V.ref aF, .ref d, .ref wo])) := .new htr
      have htr4 : upd H3 tr (.tup [V.ref aF, .ref d, .ref wo]) tr = some (.tup [V.ref aF, .ref d, .ref wo]) := upd_same
      generalize upd H3 tr (.tup [V.ref aF, .ref d, .ref wo]) = H4 at g4 htr4 ⊢
      refine ⟨by show 1 ≤ sizeLine; rw [sizeLine_eq]; omega, fun l hl => ?_⟩
      have g5 : Gr [] H4 (upd H4 l (.lst [V.ref tr])) := .new hl
      have hl5 : upd H4 l (.lst [V.ref tr]) l = some (.lst [V.ref tr]) := upd_same
      have hl0 : H l = none := g1.none (g3.none0 (g4.none0 hl)) (fun z => by
        rw [List.mem_singleton] at z
        subst z
        have := (g3.trans g4).all _ _ ho1
        rw [hl] at this
        cases this)
      generalize upd H4 l (.lst [V.ref tr]) = H5 at g5 hl5 ⊢
      have g15 : Gr [] H1 H5 := (g3.trans g4).trans g5
      have ho5 := g15.all _ _ ho1
      refine ⟨_, rfl, o, CO, dx, _, rfl, ho5, T.clObserver, T.nObserver_own_line, (by show 1 < 1000; decide), ?_⟩
      rw [put2]
      have g6 : Gr [o] H5 (upd H5 o (.ins CO dx (fs2 p l))) := .put (by simp) ho5 (fun z => z)
      have ho6 : upd H5 o (.ins CO dx (fs2 p l)) o = some (.ins CO dx (fs2 p l)) := upd_same
      generalize upd H5 o (.ins CO dx (fs2 p l)) = H6 at g6 ho6 ⊢
      refine ⟨Nat.zero_le _, fun h hh => ?_⟩
      have g7 : Gr [o] H6 (upd H6 h (.lst [])) := .new hh
      have hh7 : upd H6 h (.lst []) h = some (.lst []) := upd_same
      have ho7 : upd H6 h (.lst []) o = some (.ins CO dx (fs2 p l)) := by rw [upd_ne (ne_of_none ho6 hh)]; exact ho6
      have hh0 : H h = none := g1.none (g15.none0 (g6.none hh (fun z => by
        rw [List.mem_singleton] at z
        subst z
        rw [ho6] at hh
        cases hh))) (fun z => by
        rw [List.mem_singleton] at z
        subst z
        rw [ho6] at hh
        cases hh)
      have nlo : l ≠ o := ne_of hl5 ho5 (fun z => nomatch z)
      have nho : h ≠ o := (ne_of_none ho6 hh).symm
      have nlh : l ≠ h := ne_of_none (g6 _ _ hl5 (fun z => by rw [List.mem_singleton] at z; exact absurd z nlo)) hh
      generalize upd H6 h (.lst []) = H7 at g7 hh7 ho7 ⊢
      refine ⟨_, rfl, o, CO, dx, _, rfl, ho7, T.clObserver, T.nObserver_own_heard, (by show 2 < 1000; decide), ?_⟩
      rw [put3]
      have g8 : Gr [o] H7 (upd H7 o (.ins CO dx (fs3 p l h))) := .put (by simp) ho7 (fun z => z)
      have ho8 : upd H7 o (.ins CO dx (fs3 p l h)) o = some (.ins CO dx (fs3 p l h)) := upd_same
      generalize upd H7 o (.ins CO dx (fs3 p l h)) = H8 at g8 ho8 ⊢
      refine ⟨Nat.zero_le _, fun t ht => ?_⟩
      have g9 : Gr [o] H8 (upd H8 t (.lst [])) := .new ht
      have ho9 : upd H8 t (.lst []) o = some (.ins CO dx (fs3 p l h)) := by rw [upd_ne (ne_of_none ho8 ht)]; exact ho8
      generalize upd H8 t (.lst []) = H9 at g9 ho9 ⊢
      refine ⟨_, rfl, o, CO, dx, _, rfl, ho9, T.clObserver, T.nObserver_own_later, (by show 3 < 1000; decide), ?_⟩
      rw [put4]
      have g10 : Gr [o] H9 (upd H9 o (.ins CO dx (fs4 p l h t))) := .put (by simp) ho9 (fun z => z)
      have g5z : Gr [o] H5 (upd H9 o (.ins CO dx (fs4 p l h t))) := (((g6.trans g7).trans g8).trans g9).trans g10
      have out : ∀ {x : Addr}, x ≠ o → x ∉ [o] := fun h z => h (List.mem_singleton.mp z)
      have hwo5 := (g4.trans g5).tup hwo3
      have hd5 := (g4.trans g5).all _ _ hd3
      have htr5 := g5.tup htr4
      refine q _ l h ((g1.trans g15.nil).trans g5z) hl0 hh0 ⟨⟨dx, t, upd_same⟩, (hp1.gr0 g15).gr g5z (out hpo), ⟨[], tr, g5z _ _ hl5 fun z => absurd z (out nlo), rfl, aF, d, wo, [(0, 1)], List.replicate k aF, g5z.tup htr5, hFI _, g5z _ _ hd5 fun z => absurd z (out (ne_of hd5 ho5 (fun z => nomatch z))), ⟨by simp, by have := ok.n1; simp; omega⟩, ?_, fun x hx => ?_, by rw [List.length_replicate]; exact k4⟩, ⟨[], ((g8.trans g9).trans g10) _ _ hh7 fun z => absurd z (out nho), rfl⟩, nlh, Lot.first ok⟩
      · rw [List.map_replicate]
        exact g5z.tup hwo5
      · have e := List.eq_of_mem_replicate hx
        subst e
        exact ⟨[0], hFI _, by have := ok.n1; simp; omega⟩
end
end K75
end
section
set_option Elab.async false
set_option linter.all false
set_option maxRecDepth 100000
set_option maxHeartbeats 4000000
/-! hear, can_hear, at -/
namespace K75
open PySem PySem.Spec PyProof.Rows L2 HW HX
section
variable {P : Program} {w : World} {K : PySem.W.Frag} {mg : Str → Option Value} {base : Heap} {CW CO : Addr}
theorem sc_at : FnScope ["self"] ["self"] (C8.fnScope s_Observer_at) := C8.fnScope_by (by decide +kernel)
def spAt (K : PySem.W.Frag) (CO CW : Addr) : Sp := fun vs H Q _ => ∃ (o l h p : Addr) (wt : Wt) (L : List Nat) (nh : Nat), vs = [.ref o] ∧ ObsAt CO CW K H o l h p wt L nh ∧ ∀ a, SqT K H a (nvs L) → Q (.ref a) H
theorem m_at (T : Txt K mg base CW CO) : C8.Met P w K mg base 1 CO "at" (spAt K CO CW) [] := by
  obtain ⟨f, fd, M, F, df⟩ := T.mObserver_at
  refine C8.met0 T.clObserver M F (F.binds (ps := ["self"]) df fun _ _ _ _ _ _ us hl => match us, hl with | [_], _ => rfl) sc_at (fun vs H Q E h => ?_) (fun cdv A outer s H vs Q E hr h => ?_)
  · obtain ⟨o, l, h, p, wt, L, nh, rfl, _⟩ := h
    rfl
  · obtain ⟨o, l, h, p, wt, L, nh, rfl, O, q⟩ := h
    refine ⟨_, pss_one (ps_ret (pe_ix ix_tup (pe_ix ix_list (pe_fld (pv 0) rfl) (pe_un un_neg pe_int) (fun _ _ => rfl)) pe_int (fun _ _ => rfl))), ?_⟩
    obtain ⟨⟨dx, t, h1⟩, h2, ⟨items, tr, h3, h4, a, d, wo, m, ws, h5, h6, _⟩, _⟩ := O
    exact ⟨_, rfl, o, CO, dx, _, .ref l, rfl, h1, T.clObserver, T.nObserver_own_line, fs4_line _ _ _ _, _, rfl, l, _, -1, .ref tr, rfl, rfl, .of h3, last_at _ _, tr, _, 0, .ref a, rfl, rfl, .of h5, atI_of (i := 0) rfl, q a h6⟩
theorem sc_can_hear : FnScope ["self"] ["self"] (C8.fnScope s_Observer_can_hear) := C8.fnScope_by (by decide +kernel)
def spCanHear (K : PySem.W.Frag) (CO CW : Addr) : Sp := fun vs H Q _ => ∃ (o l h p : Addr) (wt : Wt) (k : Nat) (L : List Nat) (nh : Nat), vs = [.ref o] ∧ ObsAt CO CW K H o l h p wt L nh ∧ wt.Ok k ∧
  ∀ H' b, Gr [] H H' → H' b = some (.tup (nvs ((wb wt L).map (·.1)))) → Q (.ref b) H'
theorem m_can_hear (T : Txt K mg base CW CO) : C8.Met P w K mg base 4 CO "can_hear" (spCanHear K CO CW) [] := by
  obtain ⟨f, fd, M, F, df⟩ := T.mObserver_can_hear
  refine C8.met0 T.clObserver M F (F.binds (ps := ["self"]) df fun _ _ _ _ _ _ us hl => match us, hl with | [_], _ => rfl) sc_can_hear (fun vs H Q E h => ?_) (fun cdv A outer s H vs Q E hr h => ?_)
  · obtain ⟨o, l, h, p, wt, k, L, nh, rfl, _⟩ := h
    rfl
  · obtain ⟨o, l, h, p, wt, k, L, nh, rfl, O, ok, q⟩ := h
    refine ⟨_, pss_one (ps_ret (pe_callTy (cr_tupD rfl) (by rfl) T.z_tuple (by decide +kernel) (pa_cons (C8.pe_c (c_words_behind T) hr (by decide) (by rfl) (pa_cons (pe_fld (pv 0) rfl) (pa_cons (pe_ix ix_tup (pe_ix ix_list (pe_fld (pv 0) rfl) (pe_un un_neg pe_int) (fun _ _ => rfl)) pe_int (fun _ _ => rfl)) pa_nil))) pa_nil))), ?_⟩
    obtain ⟨⟨dx, t, h1⟩, h2, ⟨items, tr, h3, h4, a, d, wo, m, ws, h5, h6, _⟩, _, _, lot⟩ := O
    refine ⟨_, rfl, o, CO, dx, _, .ref p, rfl, h1, T.clObserver, T.nObserver_own_watch, fs4_watch _ _ _ _, _, rfl, o, CO, dx, _, .ref l, rfl, h1, T.clObserver, T.nObserver_own_line, fs4_line _ _ _ _, _, rfl, l, _, -1, .ref tr, rfl, rfl, .of h3, last_at _ _, tr, _, 0, .ref a, rfl, rfl, .of h5, atI_of (i := 0) rfl,
      p, a, wt, k, L, rfl, h2, ok, h6, lot.lt, fun H1 d1 g1 hd1 hL => ?_⟩
    obtain ⟨ts, hts, hdK, hall⟩ := hL
    refine ⟨d1, _, rfl, .of hdK, fun b hb => q _ b (g1.trans (.new hb)) ?_⟩
    rw [upd_same]
    congr 2
    unfold nvs
    rw [List.map_map, List.map_map]
    have e1 : ((fun kv : Key × V => kV kv.1) ∘ fun x : (Nat × List Nat) × Addr => ((Sum.inl (x.1.1 : Int) : Key), V.ref x.2)) = fun x : (Nat × List Nat) × Addr => V.int (x.1.1 : Int) := rfl
    rw [e1]
    have : ((wb wt L).zip ts).map Prod.fst = wb wt L := List.map_fst_zip (by omega)
    conv => rhs; rw [← this]
    rw [List.map_map] <;> rfl
theorem sc_hear : FnScope ["self", "word", "places", "ways", "without", "goals", "left", "kind", "some"] ["self", "word"] (C8.fnScope s_Observer_hear) := C8.fnScope_by (by decide +kernel)
def spHear (K : PySem.W.Frag) (CO CW : Addr) : Sp := fun vs H Q _ => ∃ (o l h p : Addr) (wt : Wt) (k v : Nat) (L : List Nat) (nh : Nat), vs = [.ref o, .int (v : Int)] ∧ ObsAt CO CW K H o l h p wt L nh ∧ wt.Ok k ∧ v ≤ 3 ∧ gl wt L v ≠ [] ∧ nh < 300 ∧
  ∀ H', Gr [o, l, h] H H' → ObsAt CO CW K H' o l h p wt (gl wt L v) (nh + 1) → Q .non H'
theorem m_hear (T : Txt K mg base CW CO) : C8.Met P w K mg base 4 CO "hear" (spHear K CO CW) [] := by
  obtain ⟨f, fd, M, F, df⟩ := T.mObserver_hear
  obtain ⟨u3, mu3, ru3⟩ := T.g_MOST_EVENTS
  refine C8.met0 T.clObserver M F (F.binds (ps := ["self", "word"]) df fun _ _ _ _ _ _ us hl => match us, hl with | [_, _], _ => rfl) sc_hear (fun vs H Q E h => ?_) (fun cdv A outer s H vs Q E hr h => ?_)
  · obtain ⟨o, l, h, p, wt, k, v, L, nh, rfl, _⟩ := h
    rfl
  · obtain ⟨o, l, h, p, wt, k, v, L, nh, rfl, O, ok, hv, hne, hn, q⟩ := h
    have hu := hu_of hr
    refine ⟨_, pss_cons (ps_asg (pe_ix ix_list (pe_fld (pv 0) rfl) (pe_un un_neg pe_int) (fun _ _ => rfl)) (pg_tup rfl (pgs_cons (pg_name (i := 2) sc_hear.nd rfl (Or.inl rfl)) (pgs_cons (pg_name (i := 3) sc_hear.nd rfl (Or.inl rfl)) (pgs_cons (pg_name (i := 4) sc_hear.nd rfl (Or.inl rfl)) pgs_nil)))))
      (pss_cons (ps_set (i := 5) sc_hear.nd rfl (Or.inl rfl) (C8.pe_c (c_words_behind T) hr (by decide) (by rfl) (pa_cons (pe_fld (pv 0) rfl) (pa_cons (pv 2) pa_nil))))
      (pss_cons (ps_if (PW.pt (pw_or (pt_cmpR op_eq (pe_callB call_len_seq (by rfl) T.z_len PySem.boot_len (pa_cons (pe_fld (pv 0) rfl) pa_nil)) (pe_glob (by rfl) mu3 ru3) (nomark _)) (pw_or (pt_not (pt_val (C8.pe_c (c_is_between T) hr (by decide) (by rfl) (pa_cons (pv 1) (pa_cons pe_int (pa_cons pe_int pa_nil)))))) (pw_or1 (pt_cmp (pc_dnotin hu (pv 1) (pv 5))))))) (pss_one ps_never) pss_nil)
      (pss_cons (ps_setLc (i := 6) (own := [("kind", 7), ("some", 8)]) (g := gTup K 2 (gCons (gName 7) (gCons (gName 8) gNil))) (tt := tYes) (te := tCall (spWithout K CW) [] C8.E0 (tCons (tFld K (tVar 0) "own_watch") (tCons (tVar 8) (tCons (tVar 1) (tCons (tVar 7) tNil))))) (by rfl) sc_hear.nd rfl rfl (sw_true rfl rfl rfl (by decide +kernel)) (pi_enumT (by rfl) T.z_enumerate (pa_cons (pv 4) pa_nil)) (blkOk_by (own := [("kind", 7), ("some", 8)]) (N := ["self", "word", "places", "ways", "without", "goals", "left", "kind", "some"]) (sc := C8.fnScope s_Observer_hear) (by decide +kernel))
        (fun _ _ _ _ _ => pg_tup rfl (pgs_cons (pg_name (i := 7) sc_hear.nd rfl (Or.inl rfl)) (pgs_cons (pg_name (i := 8) sc_hear.nd rfl (Or.inl rfl)) pgs_nil))) (fun _ _ _ _ _ => pts_nil) (fun _ _ _ _ _ => C8.pe_c (c_without T) hr (by decide) (by rfl) (pa_cons (pe_fld (pv 0) rfl) (pa_cons (pv 8) (pa_cons (pv 1) (pa_cons (pv 7) pa_nil))))))
      (pss_cons (ps_expr (pe_bm PySem.F.plainAttrs_list PySem.F.slot_list_append PySem.F.type_list_append mt_append (pe_fld (pv 0) rfl) (pa_cons (pe_tup (pa_cons (pe_dget hu (pv 5) (pv 1) (fun _ _ => rfl)) (pa_cons (C8.pe_c (c_ways_behind T) hr (by decide) (by rfl) (pa_cons (pe_fld (pv 0) rfl) (pa_cons (pv 3) (pa_cons (pv 1) pa_nil)))) (pa_cons (pe_callTy call_tuple_of (by rfl) T.z_tuple (by decide +kernel) (pa_cons (pv 6) pa_nil)) pa_nil)))) pa_nil)))
      (pss_cons (ps_expr (pe_bm PySem.F.plainAttrs_list PySem.F.slot_list_append PySem.F.type_list_append mt_append (pe_fld (pv 0) rfl) (pa_cons (pv 1) pa_nil)))
      (pss_one (ps_fld (pv 0) (pe_lst pa_nil) rfl))))))), ?_⟩
    obtain ⟨⟨dx, t, h1⟩, h2, ⟨items, tr, h3, h4, a, d, wo, m, ws, h5, h6, h7, h8, h9, h10, h11⟩, ⟨hs, h12, h13⟩, h14, lot⟩ := O
    have nolh : o ≠ l ∧ o ≠ h := ⟨ne_of h1 h3 (fun z => nomatch z), ne_of h1 h12 (fun z => nomatch z)⟩
    refine ⟨_, rfl, o, CO, dx, _, .ref l, rfl, h1, T.clObserver, T.nObserver_own_line, fs4_line _ _ _ _, _, rfl, l, _, -1, .ref tr, rfl, rfl, .of h3, last_at _ _, tr, _, rfl, .of h5, rfl, _, _, rfl, _, _, rfl, _, _, rfl, rfl, ?_⟩
    refine ⟨_, rfl, o, CO, dx, _, .ref p, rfl, h1, T.clObserver, T.nObserver_own_watch, fs4_watch _ _ _ _, _, rfl, p, a, wt, k, L, rfl, h2, ok, h6, lot.lt, fun H1 d1 g1 hd1 hL => ?_⟩
    obtain ⟨kvs, hkv, hc⟩ := hL.look hv
    rcases hc with ⟨ta, ev, hta, _⟩ | ⟨_, e2⟩
    case inr => exact absurd e2 hne
    have h1a := g1.all _ _ h1
    have h12a := g1.all _ _ h12
    refine ⟨_, rfl, o, CO, dx, _, .ref h, rfl, h1a, T.clObserver, T.nObserver_own_heard, fs4_heard _ _ _ _, h, _, rfl, .inl (.of h12a), rfl, _, rfl, ite2 (fun z => ?_) (fun _ => ?_)⟩
    · have z' := of_decide_eq_true z
      injection z' with z'
      omega
    refine ⟨_, rfl, (v : Int), 0, 3, rfl, true, ?_, iteF ⟨_, rfl, _, rfl, d1, some (.ref ta), rfl, ?_, _, rfl, iteF ?_⟩⟩
    · rw [decide_eq_true (show (0 : Int) ≤ (v : Int) ∧ (v : Int) ≤ 3 by omega)]
    · have := DGet.k (k := Sum.inl ((v : Nat) : Int)) hkv
      rw [ev] at this
      exact this
    have h9a := g1.tup h9
    refine ⟨_, rfl, wo, _, rfl, .of h9a, fun D hD => ?_⟩
    refine lc_it (walk_enumT (xs := ws.map V.ref)) (fun i Hx => Gr [] H1 Hx ∧ ∃ ls : List Addr, ls.length = i ∧ Hx D = some (.lst (ls.map V.ref)) ∧ ∀ x ∈ ls, ∃ l, Hx x = some (.tup (nvs l)) ∧ ∀ g ∈ l, g < wt.n) ⟨.new hD, [], rfl, upd_same, fun x hx => by cases hx⟩ (fun i Hx _ h => .of (h.1.tup h9a)) ?_ ?_
    · rintro i x Hx Hx2 hi ⟨g, ls, hls, hDx, hall⟩ ⟨t9, xk, xv, rfl, ht0, rfl, e1, e2⟩
      cases e1
      replace e2 : (ws.map V.ref)[i]? = some xv := e2
      rw [List.getElem?_map] at e2
      obtain ⟨r, hr', rfl⟩ := Option.map_eq_some_iff.mp e2
      have gT : Gr [] Hx (upd Hx t9 (.tup [V.int (i : Nat), V.ref r])) := .new ht0
      have gA := (g1.trans g).trans gT
      obtain ⟨Lr, hLr, hLn⟩ := h10 r (List.mem_of_getElem? hr')
      refine ⟨t9, _, rfl, .of upd_same, rfl, _, _, rfl, _, _, rfl, rfl, rfl, ?_⟩
      refine ⟨_, rfl, o, CO, dx, _, .ref p, rfl, gA.all _ _ h1, T.clObserver, T.nObserver_own_watch, fs4_watch _ _ _ _, _, rfl, _, rfl, _, rfl, p, r, wt, k, v, i, Lr, rfl, h2.gr0 gA, ok, gA.sqT hLr, hLn, fun H2 b L' g2 hb hbn => ?_⟩
      have hDz := g2.all _ _ (gT.all _ _ hDx)
      have hi4 : i < 4 := by rw [List.length_map] at hi; omega
      refine ⟨_, hDz, by rw [List.length_map, sizeLine_eq]; omega, ((g.trans gT).trans g2).put0 hD, ls ++ [b], by rw [List.length_append, hls] <;> rfl, by rw [upd_same, List.map_append] <;> rfl, fun x hx => ?_⟩
      have keep : ∀ c ys, H2 c = some (.tup ys) → upd H2 D (.lst (ls.map V.ref ++ [V.ref b])) c = some (.tup ys) := fun c ys e => by
        rw [upd_ne (ne_of e hDz (fun z => nomatch z))]
        exact e
      rcases List.mem_append.mp hx with hx | hx
      · obtain ⟨lx, q1, q2⟩ := hall x hx
        exact ⟨lx, keep _ _ (g2.tup (gT.tup q1)), q2⟩
      · rw [List.mem_singleton] at hx
        subst hx
        exact ⟨L', keep _ _ hb, hbn⟩
    · rintro Hx ⟨g, ls, hls, hDx, hall⟩
      have gA := g1.trans g
      have h1x := gA.all _ _ h1
      have h3x := gA.all _ _ h3
      have hkx := g.all _ _ hkv
      refine ⟨_, rfl, o, CO, dx, _, .ref l, rfl, h1x, T.clObserver, T.nObserver_own_line, fs4_line _ _ _ _, .inl ⟨rfl, _, .of h3x⟩, ?_⟩
      refine ⟨_, rfl, _, rfl, d1, .ref ta, rfl, ?_, ?_⟩
      · have := DGet.k (k := Sum.inl ((v : Nat) : Int)) hkx
        rw [ev] at this
        exact this
      refine ⟨_, rfl, o, CO, dx, _, .ref p, rfl, h1x, T.clObserver, T.nObserver_own_watch, fs4_watch _ _ _ _, _, rfl, _, rfl, p, d, wt, k, v, m, rfl, h2.gr0 gA, ok, gA.all _ _ h7, h8, fun H2 d2 m2 g2 hd2 hm2 bh => ?_⟩
      have hD2 := g2.all _ _ hDx
      refine ⟨_, rfl, D, _, rfl, .inl ⟨.of hD2, fun wn hwn => ?_⟩⟩
      have g3 : Gr [] H2 (upd H2 wn (.tup (ls.map V.ref))) := .new hwn
      have hwn3 : upd H2 wn (.tup (ls.map V.ref)) wn = some (.tup (ls.map V.ref)) := upd_same
      generalize upd H2 wn (.tup (ls.map V.ref)) = H3 at g3 hwn3 ⊢
      refine ⟨by show 3 ≤ sizeLine; rw [sizeLine_eq]; omega, fun tn htn => ?_⟩
      have g4 : Gr [] H3 (upd H3 tn (.tup [V.ref ta, .ref d2, .ref wn])) := .new htn
      have htn4 : upd H3 tn (.tup [V.ref ta, .ref d2, .ref wn]) tn = some (.tup [V.ref ta, .ref d2, .ref wn]) := upd_same
      generalize upd H3 tn (.tup [V.ref ta, .ref d2, .ref wn]) = H4 at g4 htn4 ⊢
      have gB : Gr [] H H4 := ((gA.trans g2).trans g3).trans g4
      have h3b := gB.all _ _ h3
      refine ⟨l, _, _, rfl, rfl, h3b, by rw [List.length_append, sizeLine_eq]; simp; omega, ?_⟩
      have g5 : Gr [o, l, h] H4 (upd H4 l (.lst (items ++ [V.ref tr] ++ [V.ref tn]))) := .put (by simp) h3b (fun z => z)
      have hl5 : upd H4 l (.lst (items ++ [V.ref tr] ++ [V.ref tn])) l = some (.lst (items ++ [V.ref tr] ++ [V.ref tn])) := upd_same
      have ho5 : upd H4 l (.lst (items ++ [V.ref tr] ++ [V.ref tn])) o = some (.ins CO dx (fs4 p l h t)) := by rw [upd_ne nolh.1]; exact gB.all _ _ h1
      have hh5 : upd H4 l (.lst (items ++ [V.ref tr] ++ [V.ref tn])) h = some (.lst hs) := by rw [upd_ne h14.symm]; exact gB.all _ _ h12
      have nd5 : ∀ b kv, H4 b = some (.dK kv) → b ∉ [o, l, h] := fun b kv e z => by
        rcases List.mem_cons.mp z with rfl | z
        · have := (gB.all _ _ h1).symm.trans e
          cases this
        · rcases List.mem_cons.mp z with rfl | z
          · have := h3b.symm.trans e
            cases this
          · rw [List.mem_singleton] at z
            subst z
            have := (gB.all _ _ h12).symm.trans e
            cases this
      have np5 : p ∉ [o, l, h] → True := fun _ => True.intro
      generalize hH5 : upd H4 l (.lst (items ++ [V.ref tr] ++ [V.ref tn])) = H5 at g5 hl5 ho5 hh5 ⊢
      refine ⟨_, rfl, o, CO, dx, _, .ref h, rfl, ho5, T.clObserver, T.nObserver_own_heard, fs4_heard _ _ _ _, .inl ⟨rfl, _, .of hh5⟩, _, rfl, h, _, _, rfl, rfl, hh5, by rw [sizeLine_eq]; omega, ?_⟩
      have g6 : Gr [o, l, h] H5 (upd H5 h (.lst (hs ++ [V.int (v : Int)]))) := .put (by simp) hh5 (fun z => z)
      have hh6 : upd H5 h (.lst (hs ++ [V.int (v : Int)])) h = some (.lst (hs ++ [V.int (v : Int)])) := upd_same
      have ho6 : upd H5 h (.lst (hs ++ [V.int (v : Int)])) o = some (.ins CO dx (fs4 p l h t)) := by rw [upd_ne nolh.2]; exact ho5
      have hl6 : upd H5 h (.lst (hs ++ [V.int (v : Int)])) l = some (.lst (items ++ [V.ref tr] ++ [V.ref tn])) := by rw [upd_ne h14]; exact hl5
      generalize upd H5 h (.lst (hs ++ [V.int (v : Int)])) = H6 at g6 hh6 ho6 hl6 ⊢
      refine ⟨Nat.zero_le _, fun tt htt => ?_⟩
      have g7 : Gr [o, l, h] H6 (upd H6 tt (.lst [])) := .new htt
      have ho7 : upd H6 tt (.lst []) o = some (.ins CO dx (fs4 p l h t)) := by rw [upd_ne (ne_of_none ho6 htt)]; exact ho6
      have hl7 : upd H6 tt (.lst []) l = some (.lst (items ++ [V.ref tr] ++ [V.ref tn])) := by rw [upd_ne (ne_of_none hl6 htt)]; exact hl6
      have hh7 : upd H6 tt (.lst []) h = some (.lst (hs ++ [V.int (v : Int)])) := by rw [upd_ne (ne_of_none hh6 htt)]; exact hh6
      generalize upd H6 tt (.lst []) = H7 at g7 ho7 hl7 hh7 ⊢
      refine ⟨_, rfl, o, CO, dx, _, rfl, ho7, T.clObserver, T.nObserver_own_later, (by show 4 < 1000; decide), ?_⟩
      rw [put5]
      have g8 : Gr [o, l, h] H7 (upd H7 o (.ins CO dx (fs4 p l h tt))) := .put (by simp) ho7 (fun z => z)
      have gC : Gr [o, l, h] H4 (upd H7 o (.ins CO dx (fs4 p l h tt))) := ((g5.trans g6).trans g7).trans g8
      have npm : p ∉ [o, l, h] := fun z => by
        obtain ⟨dxp, tm, tw, hpi, _⟩ := h2
        rcases List.mem_cons.mp z with e | z
        · rw [e, h1] at hpi
          have e1 := congrArg (fun x : Option HO => match x with | some (.ins _ _ fs) => fs.length | _ => 0) hpi
          simp [wfs, fs4] at e1
        · rcases List.mem_cons.mp z with e | z
          · rw [e, h3] at hpi
            cases hpi
          · rw [List.mem_singleton] at z
            rw [z, h12] at hpi
            cases hpi
      refine q _ (gB.nil.trans gC) ⟨⟨dx, tt, upd_same⟩, (h2.gr0 gB).gr gC npm, ⟨items ++ [V.ref tr], tn, ?_, by rw [List.length_append, h4] <;> rfl, ta, d2, wn, m2, ls, gC.tup htn4, gC.sqT (.of (((((g.trans g2).trans g3).trans g4)).tup hta)), ?_, ⟨bh.nd, bh.lt⟩, gC.tup (g4.tup hwn3), fun x hx => ?_, ?_⟩, ⟨hs ++ [V.int (v : Int)], ?_, by rw [List.length_append, h13] <;> rfl⟩, h14, Lot.gl wt L v⟩
      · rw [upd_ne nolh.1.symm]
        exact hl7
      · have hm4 := (g3.trans g4).all _ _ hm2
        exact gC _ _ hm4 fun z => absurd z (nd5 _ _ hm4)
      · obtain ⟨lx, q1, q2⟩ := hall x hx
        exact ⟨lx, .of (gC.tup (((g2.trans g3).trans g4).tup q1)), q2⟩
      · rw [hls, List.length_map]
        exact h11
      · rw [upd_ne nolh.2.symm]
        exact hh7
end
end K75
end
section
set_option Elab.async false
set_option linter.all false
set_option maxRecDepth 100000
set_option maxHeartbeats 4000000
/-! the tape -/
namespace K75
open PySem PySem.Spec PyProof.Rows L2 HW HX
section
variable {P : Program} {w : World} {K : PySem.W.Frag} {mg : Str → Option Value} {base : Heap} {CW CO : Addr}
theorem sc_begun : FnScope ["script", "large", "grain"] ["script"] (C8.fnScope s_law_begun) := C8.fnScope_by (by decide +kernel)
def spBegun (K : PySem.W.Frag) : Sp := fun vs H Q _ => ∃ (a : Addr) (ns : List Int), vs = [.ref a] ∧ SqL K H a (ns.map V.int) ∧ ns.length ≤ 63 ∧ ∀ H' d l c, Gr [] H H' → TapeAt H' d l c → Q (.ref d) H'
theorem c_begun (T : Txt K mg base CW CO) : C8.Cal P w K mg base 1 "_law_begun" (spBegun K) [] := by
  obtain ⟨f, fd, D, df⟩ := T.d_law_begun
  refine C8.cal0 D (D.fn.binds (ps := ["script"]) df fun _ _ _ _ _ _ us hl => match us, hl with | [_], _ => rfl) .nil sc_begun (fun vs H Q E h => ?_) (fun cdv A outer s H vs Q E hr h => ?_)
  · obtain ⟨a, ns, rfl, _⟩ := h
    rfl
  · obtain ⟨a, ns, rfl, ha, hn, q⟩ := h
    refine ⟨_, pss_cons (ps_setLc (i := 1) (own := [("grain", 2)]) (g := gName 2) (by rfl) sc_begun.nd rfl rfl (sw_true rfl rfl rfl (by decide +kernel)) (pi_list (pv 0)) (blkOk_by (own := [("grain", 2)]) (N := ["script", "large", "grain"]) (sc := C8.fnScope s_law_begun) (by decide +kernel))
        (fun _ _ _ _ _ => pg_name (i := 2) sc_begun.nd rfl (Or.inl rfl)) (fun _ _ _ _ _ => pts_one (pt_cmpR op_ge (pe_callB call_abs (by rfl) T.z_abs (by decide +kernel) (pa_cons (pv 2) pa_nil)) (pe_op op_pow pe_int pe_int) (nomark _)))
        (fun _ _ _ _ _ => pe_op op_sub (pe_callB call_abs (by rfl) T.z_abs (by decide +kernel) (pa_cons (pv 2) pa_nil)) (pe_op op_pow pe_int pe_int)))
      (pss_one (ps_ret (pe_disp (pps_cons pe_str (pv 1) (pps_cons pe_str pe_int (pps_cons pe_str (pe_lc (own := [("grain", 2)]) (g := gName 2) (tt := tYes) (by rfl) sc_begun.nd (pi_list (pv 0)) (blkOk_by (own := [("grain", 2)]) (N := ["script", "large", "grain"]) (sc := C8.fnScope s_law_begun) (by decide +kernel))
        (fun _ _ _ _ _ => pg_name (i := 2) sc_begun.nd rfl (Or.inl rfl)) (fun _ _ _ _ _ => pts_nil) (fun _ _ _ _ _ => pe_callB call_abs (by rfl) T.z_abs (by decide +kernel) (pa_cons (pv 2) pa_nil))) (pps_cons pe_str pe_int pps_nil)))) (by rfl) (by rfl) (fun z => by cases z) (by decide)))), ?_⟩
    have hlen : (ns.map V.int).length ≤ 63 := by rw [List.length_map]; exact hn
    refine ⟨_, rfl, a, rfl, ⟨_, ha⟩, fun l hl => ?_⟩
    refine lc_it (walk_list (xs := ns.map V.int)) (fun i Hx => Gr [] H Hx ∧ ∃ ms : List Int, ms.length ≤ i ∧ Hx l = some (.lst (ms.map V.int))) ⟨.new hl, [], by simp, upd_same⟩ (fun i Hx _ h => h.1.sqL ha) ?_ ?_
    · rintro i x Hy Hx hi ⟨g, ms, hms, hlx⟩ ⟨rfl, hx⟩
      rw [List.getElem?_map] at hx
      obtain ⟨z, hz, rfl⟩ := Option.map_eq_some_iff.mp hx
      refine ⟨rfl, _, rfl, z, rfl, _, _, rfl, rfl, ⟨by decide, by decide, by decide⟩, _, _, rfl, rfl, _, rfl, ite2 (fun _ => ?_) (fun _ => ⟨g, ms, by omega, hlx⟩)⟩
      refine ⟨_, rfl, z, rfl, _, _, rfl, rfl, ⟨by decide, by decide, by decide⟩, _, _, rfl, rfl, _, hlx, by rw [List.length_map, sizeLine_eq]; omega, g.put0 hl, ms ++ [(if z < 0 then -z else z) - (10 : Int) ^ (18 : Int).toNat], by rw [List.length_append, List.length_singleton]; omega, ?_⟩
      rw [upd_same, List.map_append] <;> rfl
    · rintro Hx ⟨g, ms, hms, hlx⟩
      intro d hd
      have g1 : Gr [] Hx (upd Hx d (.dK [])) := .new hd
      refine ⟨_, rfl, _, rfl, a, rfl, ⟨_, (g.trans g1).sqL ha⟩, fun c hc => ?_⟩
      refine lc_it (walk_list (xs := ns.map V.int)) (fun i Hy => Gr [] (upd Hx d (.dK [])) Hy ∧ ∃ ms : List Int, ms.length ≤ i ∧ Hy c = some (.lst (ms.map V.int))) ⟨.new hc, [], by simp, upd_same⟩ (fun i Hy _ h => ((g.trans g1).trans h.1).sqL ha) ?_ ?_
      · rintro i x Hw Hy hi ⟨gy, cs, hcs, hcy⟩ ⟨rfl, hx⟩
        rw [List.getElem?_map] at hx
        obtain ⟨z, hz, rfl⟩ := Option.map_eq_some_iff.mp hx
        refine ⟨rfl, _, rfl, z, rfl, _, hcy, by rw [List.length_map, sizeLine_eq]; omega, gy.put0 hc, cs ++ [if z < 0 then -z else z], by rw [List.length_append, List.length_singleton]; omega, ?_⟩
        rw [upd_same, List.map_append] <;> rfl
      · rintro Hy ⟨gy, cs, hcs, hcy⟩
        have hdy := gy.all _ _ (show upd Hx d (.dK []) d = _ from upd_same)
        have hly := (g1.trans gy).all _ _ hlx
        have hcl : l ≠ c := ne_of_none (g1.all _ _ hlx) hc
        refine ⟨hdy, tk l 0 c 0, rfl, by show 4 ≤ 15; decide, ?_⟩
        have em : mergeK [] (tk l 0 c 0) = tk l 0 c 0 := by
          have n1 := k_rl
          have n2 := k_cl
          have n3 := k_cr
          have n4 := k_tl
          have n5 := k_tr
          have n6 := k_tc
          unfold mergeK tk
          simp [List.foldl, putK, n1, n2, n3, n4, n5, n6]
        rw [em]
        have gz : Gr [] H (upd Hy d (.dK (tk l 0 c 0))) := ((g.trans g1).trans gy).put0 (g.none0 hd)
        refine q _ d l c gz ⟨⟨0, 0, upd_same⟩, ⟨ms, ?_⟩, ⟨cs, ?_⟩, hcl⟩
        · rw [upd_ne (ne_of_none hlx hd)]
          exact hly
        · rw [upd_ne (ne_of hcy hdy (fun z => nomatch z))]
          exact hcy
theorem sc_blend : FnScope ["tape", "turn", "found", "great", "blended", "grain"] ["tape"] (C8.fnScope s_law_blend) := C8.fnScope_by (by decide +kernel)
def spBlend : Sp := fun vs H Q _ => ∃ (d l c : Addr), vs = [.ref d] ∧ TapeAt H d l c ∧ ∀ H' z, Gr [d] H H' → TapeAt H' d l c → Q (.int z) H'
theorem c_blend (T : Txt K mg base CW CO) : C8.Cal P w K mg base 1 "_law_blend" spBlend [] := by
  obtain ⟨f, fd, D, df⟩ := T.d_law_blend
  refine C8.cal0 D (D.fn.binds (ps := ["tape"]) df fun _ _ _ _ _ _ us hl => match us, hl with | [_], _ => rfl) .nil sc_blend (fun vs H Q E h => ?_) (fun cdv A outer s H vs Q E hr h => ?_)
  · obtain ⟨d, l, c, rfl, _⟩ := h
    rfl
  · obtain ⟨d, l, c, rfl, ⟨⟨r, t, hd⟩, ⟨ns, hl⟩, ⟨cs, hc⟩, hlc⟩, q⟩ := h
    have hu := hu_of hr
    refine ⟨_, pss_cons (ps_dput hu (pv 0) pe_str (pe_op op_add (pe_dget hu (pv 0) pe_str (fun _ _ => rfl)) pe_int) rfl)
      (pss_cons (ps_par (i := 1) (j := 2) (by rfl) sc_blend.nd rfl rfl (by decide) rfl rfl (pa_cons (pe_callTy call_int1 (by rfl) T.z_int (by decide +kernel) (pa_cons (pe_dget hu (pv 0) pe_str (fun _ _ => rfl)) pa_nil)) (pa_cons pe_int pa_nil)) rfl)
      (pss_cons (ps_for PassesOwn.never rfl (pi_list (pe_lst (pa_cons pe_int (pa_cons pe_int (pa_cons pe_int pa_nil))))) (pg_name (i := 3) sc_blend.nd rfl (Or.inl rfl))
        (pss_cons (ps_set (i := 4) sc_blend.nd rfl (Or.inl rfl) (pe_op op_mod (pe_op op_add (pe_op op_mul (pv 1) pe_int) (pe_op op_fdiv (pv 3) pe_int)) (pv 3)))
        (pss_cons (ps_for PassesOwn.never rfl (pi_list (pe_dget hu (pv 0) pe_str (fun _ _ => rfl))) (pg_name (i := 5) sc_blend.nd rfl (Or.inl rfl))
          (pss_one (ps_set (i := 4) sc_blend.nd rfl (Or.inl rfl) (pe_op op_mod (pe_op op_add (pe_op op_mul (pv 4) pe_int) (pe_callTy call_int1 (by rfl) T.z_int (by decide +kernel) (pa_cons (pv 5) pa_nil))) (pv 3)))))
        (pss_one (ps_set (i := 2) sc_blend.nd rfl (Or.inl rfl) (pe_op op_add (pe_op op_mul (pv 2) pe_int) (pe_op op_mod (pe_op op_pow (pv 4) pe_int) (pv 3))))))))
      (pss_one (ps_ret (pv 2))))), ?_⟩
    have getV : ∀ {Hx : Hp} {r t : Int} {k : Str} {v : V}, Hx d = some (.dK (tk l r c t)) → valV (tk l r c t) (Sum.inr k) = some v → DGet Hx d (.str k) (some v) := fun {Hx r t k v} h e => by
      have := DGet.k (k := Sum.inr k) h
      rw [e] at this
      exact this
    refine ⟨_, rfl, d, _, rfl, getV hd (tk_turn _ _ _ _), _, _, rfl, rfl, _, rfl, d, _, rfl, DPut.k (k := Sum.inr "turn") hd (by show 4 < sizeLine; rw [sizeLine_eq]; omega), ?_⟩
    rw [tk_put_turn]
    have g1 : Gr [d] H (upd H d (.dK (tk l r c (t + 1)))) := .put (by simp) hd (fun z => z)
    have hd1 : upd H d (.dK (tk l r c (t + 1))) d = some (.dK (tk l r c (t + 1))) := upd_same
    have hl1 : upd H d (.dK (tk l r c (t + 1))) l = some (.lst (ns.map V.int)) := by rw [upd_ne (ne_of hl hd (fun z => nomatch z))]; exact hl
    have hc1 : upd H d (.dK (tk l r c (t + 1))) c = some (.lst (cs.map V.int)) := by rw [upd_ne (ne_of hc hd (fun z => nomatch z))]; exact hc
    generalize upd H d (.dK (tk l r c (t + 1))) = H1 at g1 hd1 hl1 hc1 ⊢
    refine ⟨_, rfl, d, _, rfl, getV hd1 (tk_turn _ _ _ _), .inl ⟨_, rfl, _, _, rfl, ?_⟩⟩
    refine ⟨by show 3 ≤ sizeLine; rw [sizeLine_eq]; omega, fun b hb => ⟨b, rfl, ⟨_, .of upd_same⟩, ?_⟩⟩
    have g2 : Gr [] H1 (upd H1 b (.lst [V.int 2147483629, .int 2147483587, .int 2147483579])) := .new hb
    have hb2 : upd H1 b (.lst [V.int 2147483629, .int 2147483587, .int 2147483579]) b = some (.lst [V.int 2147483629, .int 2147483587, .int 2147483579]) := upd_same
    generalize upd H1 b (.lst [V.int 2147483629, .int 2147483587, .int 2147483579]) = H2 at g2 hb2 ⊢
    refine for_it (walk_list (xs := [V.int 2147483629, .int 2147483587, .int 2147483579])) (fun i σ Hx => Gr [] H2 Hx ∧ ∃ (f : Int) (x3 x4 x5 : Option V), σ = [some (.ref d), some (.int (t + 1)), some (.int f), x3, x4, x5]) ⟨.refl _ _, 0, none, none, none, rfl⟩ (fun i σ Hx _ h => h.1.sqL (.of hb2)) ?_ ?_
    · rintro i x σ Hy Hx hi ⟨g, fo, x3, x4, x5, rfl⟩ ⟨rfl, hx⟩
      obtain ⟨gr, rfl, hg0, hg1⟩ : ∃ gr : Int, x = .int gr ∧ 0 < gr ∧ gr < 2147483648 := by
        match i, hx with
        | 0, hx => exact ⟨_, (Option.some.inj hx).symm, by decide, by decide⟩
        | 1, hx => exact ⟨_, (Option.some.inj hx).symm, by decide, by decide⟩
        | 2, hx => exact ⟨_, (Option.some.inj hx).symm, by decide, by decide⟩
      refine ⟨_, rfl, _, _, rfl, rfl, .inr ⟨by decide, by decide⟩, _, rfl, _, _, rfl, rfl, ⟨by decide, by decide⟩, _, _, rfl, rfl, _, rfl, _, _, rfl, rfl, hg0, ?_⟩
      have gg := g2.trans g
      refine ⟨_, rfl, d, _, rfl, getV (gg.all _ _ hd1) (tk_cells _ _ _ _), c, rfl, ⟨_, .of (gg.all _ _ hc1)⟩, for_it (walk_list (xs := cs.map V.int)) (fun j σ Hx => Gr [] H2 Hx ∧ ∃ (b : Int) (x5 : Option V), 0 ≤ b ∧ b < gr ∧ σ = [some (.ref d), some (.int (t + 1)), some (.int fo), some (.int gr), some (.int b), x5])
        ⟨g, _, _, Int.emod_nonneg _ (by omega), Int.emod_lt_of_pos _ hg0, rfl⟩ (fun j σ Hx _ h => (g2.trans h.1).sqL (.of hc1)) ?_ ?_⟩
      · rintro j y σ Hw Hz hj ⟨gz, bb, y5, b0, b1, rfl⟩ ⟨rfl, hy⟩
        rw [List.getElem?_map] at hy
        obtain ⟨z, hz, rfl⟩ := Option.map_eq_some_iff.mp hy
        exact ⟨_, rfl, _, _, rfl, rfl, .inr ⟨by decide, by decide⟩, _, rfl, .inl ⟨_, rfl, _, _, rfl, rfl, _, rfl, _, _, rfl, rfl, hg0, gz, _, _, Int.emod_nonneg _ (by omega), Int.emod_lt_of_pos _ hg0, rfl⟩⟩
      · rintro σ Hz ⟨gz, bb, y5, b0, b1, rfl⟩
        exact ⟨_, rfl, _, _, rfl, rfl, .inr ⟨by decide, by decide⟩, _, rfl, _, _, rfl, rfl, ⟨by decide, by decide, by omega⟩, _, rfl, _, _, rfl, rfl, hg0, _, _, rfl, rfl, gz, _, _, _, _, rfl⟩
    · rintro σ Hx ⟨g, fo, x3, x4, x5, rfl⟩
      have gg := g2.trans g
      exact ⟨_, rfl, q _ fo (g1.trans gg.nil) ⟨⟨_, _, gg.all _ _ hd1⟩, ⟨_, gg.all _ _ hl1⟩, ⟨_, gg.all _ _ hc1⟩, hlc⟩⟩
end
end K75
end
section
set_option Elab.async false
set_option linter.all false
set_option maxRecDepth 100000
set_option maxHeartbeats 4000000
/-! draws -/
namespace K75
open PySem PySem.Spec PyProof.Rows L2 HW HX
section
variable {P : Program} {w : World} {K : PySem.W.Frag} {mg : Str → Option Value} {base : Heap} {CW CO : Addr}
theorem sc_draw : FnScope ["tape", "size", "found"] ["tape", "size"] (C8.fnScope s_law_draw) := C8.fnScope_by (by decide +kernel)
def spDraw : Sp := fun vs H Q _ => ∃ (d l c : Addr) (n : Nat), vs = [.ref d, .int (n : Int)] ∧ TapeAt H d l c ∧ 1 ≤ n ∧ n ≤ 1000000 ∧ ∀ H' (r : Nat), Gr [d, l] H H' → TapeAt H' d l c → r < n → Q (.int (r : Int)) H'
theorem c_draw (T : Txt K mg base CW CO) : C8.Cal P w K mg base 2 "_law_draw" spDraw [] := by
  obtain ⟨f, fd, D, df⟩ := T.d_law_draw
  refine C8.cal0 D (D.fn.binds (ps := ["tape", "size"]) df fun _ _ _ _ _ _ us hl => match us, hl with | [_, _], _ => rfl) .nil sc_draw (fun vs H Q E h => ?_) (fun cdv A outer s H vs Q E hr h => ?_)
  · obtain ⟨d, l, c, n, rfl, _⟩ := h
    rfl
  · obtain ⟨d, l, c, n, rfl, TA, hn1, hn2, q⟩ := h
    have hu := hu_of hr
    refine ⟨_, C8.pss_cut (ps_if (pt_cmpR op_eq (pe_dget hu (pv 0) pe_str (fun _ _ => rfl)) pe_int (nomark _)) (pss_one (ps_dput hu (pv 0) pe_str (pe_ifExp (pt_cmpR (op_neD hr.units) (pe_dget hu (pv 0) pe_str (fun _ _ => rfl)) (pe_lst pa_nil) (nomark _)) (pe_bm PySem.F.plainAttrs_list PySem.F.slot_list_pop PySem.F.type_list_pop mt_popAt (pe_dget hu (pv 0) pe_str (fun _ _ => rfl)) (pa_cons pe_int pa_nil)) (C8.pe_c (c_blend T) hr (by decide) (by rfl) (pa_cons (pv 0) pa_nil))) rfl)) pss_nil)
      (pss_cons (ps_set (i := 2) sc_draw.nd rfl (Or.inl rfl) (pe_op op_mod (pe_callTy call_int1 (by rfl) T.z_int (by decide +kernel) (pa_cons (pe_dget hu (pv 0) pe_str (fun _ _ => rfl)) pa_nil)) (pv 1)))
      (pss_cons (ps_dput hu (pv 0) pe_str (pe_op op_fdiv (pe_callTy call_int1 (by rfl) T.z_int (by decide +kernel) (pa_cons (pe_dget hu (pv 0) pe_str (fun _ _ => rfl)) pa_nil)) (pv 1)) rfl)
      (pss_one (ps_ret (pv 2))))), ?_⟩
    have getV : ∀ {Hx : Hp} {r t : Int} {k : Str} {v : V}, Hx d = some (.dK (tk l r c t)) → valV (tk l r c t) (Sum.inr k) = some v → DGet Hx d (.str k) (some v) := fun {Hx r t k v} h e => by
      have := DGet.k (k := Sum.inr k) h
      rw [e] at this
      exact this
    have len4 : ∀ r t, (tk l r c t).length < sizeLine := fun r t => by show 4 < sizeLine; rw [sizeLine_eq]; omega
    refine ⟨fun σ Hx => σ = [some (.ref d), some (.int (n : Int)), none] ∧ Gr [d, l] H Hx ∧ TapeAt Hx d l c, ?_, ?_⟩
    · obtain ⟨⟨r, t, hd⟩, ⟨ns, hl⟩, ⟨cs, hc⟩, hlc⟩ := id TA
      refine ⟨_, rfl, d, _, rfl, getV hd (tk_rest _ _ _ _), rfl, _, rfl, ite2 (fun _ => ?_) (fun _ => ⟨rfl, .refl _ _, TA⟩)⟩
      refine ⟨_, rfl, d, _, rfl, getV hd (tk_large _ _ _ _), by show 0 ≤ sizeLine; omega, fun e he => ?_⟩
      have g1 : Gr [] H (upd H e (.lst [])) := .new he
      have he1 : upd H e (.lst []) e = some (.lst []) := upd_same
      generalize upd H e (.lst []) = H1 at g1 he1 ⊢
      have hd1 := g1.all _ _ hd
      have hl1 := g1.all _ _ hl
      refine ⟨.list (ns.map PyData.int), .list [], .lst (.of hl1) (dp_ints ns), .lst (.of he1) .nil, PySem.W.shaped_ints ns, PySem.W.shaped_ints [], _, rfl, ite2 (fun z => ?_) (fun _ => ?_)⟩
      · cases ns with
        | nil =>
          rw [show (PyData.eqv (.list (([] : List Int).map PyData.int)) (.list [])) = true from eqv_list [] []] at z
          cases z
        | cons n0 nr =>
          refine ⟨_, rfl, d, _, rfl, getV hd1 (tk_large _ _ _ _), .inl ⟨rfl, _, .of hl1⟩, l, _, 0, 0, .int n0, rfl, rfl, hl1, by decide, by decide, by simp [seqIndex?], rfl, ?_⟩
          have hd2 : upd H1 l (.lst (((n0 :: nr).map V.int).eraseIdx 0)) d = some (.dK (tk l r c t)) := by rw [upd_ne (ne_of hd1 hl1 (fun z => nomatch z))]; exact hd1
          refine ⟨_, rfl, d, _, rfl, DPut.k (k := Sum.inr "rest") hd2 (len4 _ _), rfl, ?_, ?_⟩
          · exact (g1.nil.trans (.put (by simp) hl1 (fun z => z))).trans (.put (by simp) hd2 (fun z => z))
          · rw [tk_put_rest]
            have hc2 := g1.all _ _ hc
            refine ⟨⟨n0, t, upd_same⟩, ⟨nr, ?_⟩, ⟨cs, ?_⟩, hlc⟩
            · rw [upd_ne (ne_of hl1 hd1 (fun z => nomatch z)), upd_same] <;> rfl
            · rw [upd_ne (ne_of hc2 hd1 (fun z => nomatch z)), upd_ne hlc.symm]
              exact hc2
      · refine ⟨_, rfl, d, l, c, rfl, TA.gr0 g1, fun H2 z g2 TA2 => ?_⟩
        obtain ⟨⟨r2, t2, hd2⟩, ⟨ns2, hl2⟩, ⟨cs2, hc2⟩, _⟩ := TA2
        refine ⟨_, rfl, d, _, rfl, DPut.k (k := Sum.inr "rest") hd2 (len4 _ _), rfl, ?_, ?_⟩
        · exact (g1.nil.trans (g2.more (by simp))).trans (.put (by simp) hd2 (fun z => z))
        · rw [tk_put_rest]
          refine ⟨⟨z, t2, upd_same⟩, ⟨ns2, ?_⟩, ⟨cs2, ?_⟩, hlc⟩
          · rw [upd_ne (ne_of hl2 hd2 (fun z => nomatch z))]
            exact hl2
          · rw [upd_ne (ne_of hc2 hd2 (fun z => nomatch z))]
            exact hc2
    · rintro σ Hx ⟨rfl, g, TA2⟩
      obtain ⟨⟨r, t, hd⟩, ⟨ns, hl⟩, ⟨cs, hc⟩, hlc⟩ := TA2
      have hn0 : (0 : Int) < (n : Int) := by omega
      refine ⟨_, rfl, d, _, rfl, getV hd (tk_rest _ _ _ _), .inl ⟨_, rfl, _, rfl, _, _, rfl, rfl, hn0, ?_⟩⟩
      refine ⟨_, rfl, d, _, rfl, getV hd (tk_rest _ _ _ _), .inl ⟨_, rfl, _, rfl, _, _, rfl, rfl, ⟨hn0, by omega⟩, ?_⟩⟩
      refine ⟨_, rfl, d, _, rfl, DPut.k (k := Sum.inr "rest") hd (len4 _ _), _, rfl, ?_⟩
      rw [tk_put_rest]
      obtain ⟨m, hm⟩ : ∃ m : Nat, r % (n : Int) = (m : Int) := ⟨(r % (n : Int)).toNat, (Int.toNat_of_nonneg (Int.emod_nonneg _ (by omega))).symm⟩
      show Q (.int (r % (n : Int))) (upd Hx d (.dK (tk l (r / (n : Int)) c t)))
      rw [hm]
      refine q _ m (g.trans (.put (by simp) hd (fun z => z))) ⟨⟨_, _, upd_same⟩, ⟨ns, ?_⟩, ⟨cs, ?_⟩, hlc⟩ ?_
      · rw [upd_ne (ne_of hl hd (fun z => nomatch z))]
        exact hl
      · rw [upd_ne (ne_of hc hd (fun z => nomatch z))]
        exact hc
      · have := Int.emod_lt_of_pos r hn0
        omega
theorem sc_pick : FnScope ["tape", "several"] ["tape", "several"] (C8.fnScope s_law_pick) := C8.fnScope_by (by decide +kernel)
def spPick : Sp := fun vs H Q _ => ∃ (d l c a : Addr) (xs : List V), vs = [.ref d, .ref a] ∧ TapeAt H d l c ∧ H a = some (.lst xs) ∧ a ≠ d ∧ a ≠ l ∧ xs ≠ [] ∧ xs.length ≤ 1000 ∧ ∀ H' x, Gr [d, l] H H' → TapeAt H' d l c → x ∈ xs → Q x H'
theorem c_pick (T : Txt K mg base CW CO) : C8.Cal P w K mg base 3 "_law_pick" spPick [] := by
  obtain ⟨f, fd, D, df⟩ := T.d_law_pick
  refine C8.cal0 D (D.fn.binds (ps := ["tape", "several"]) df fun _ _ _ _ _ _ us hl => match us, hl with | [_, _], _ => rfl) .nil sc_pick (fun vs H Q E h => ?_) (fun cdv A outer s H vs Q E hr h => ?_)
  · obtain ⟨d, l, c, a, xs, rfl, _⟩ := h
    rfl
  · obtain ⟨d, l, c, a, xs, rfl, TA, ha, nad, nal, hne, hlen, q⟩ := h
    refine ⟨_, pss_one (ps_ret (pe_ix ix_list (pv 1) (C8.pe_c (c_draw T) hr (by decide) (by rfl) (pa_cons (pv 0) (pa_cons (pe_callB call_len_seq (by rfl) T.z_len PySem.boot_len (pa_cons (pv 1) pa_nil)) pa_nil))) (fun _ _ => rfl))), ?_⟩
    have hpos : 0 < xs.length := List.length_pos_iff.mpr hne
    refine ⟨_, rfl, _, rfl, _, rfl, a, _, rfl, .inl (.of ha), d, l, c, xs.length, rfl, TA, hpos, by omega, fun H' r g TA2 hrn => ?_⟩
    have hx : xs[r]? = some xs[r] := List.getElem?_eq_getElem hrn
    have ha' : H' a = some (.lst xs) := g _ _ ha fun z => by
      rcases List.mem_cons.mp z with e | z
      · exact absurd e nad
      · exact absurd (List.mem_singleton.mp z) nal
    exact ⟨a, xs, r, xs[r], rfl, rfl, .of ha', atI_of hx, q _ _ g TA2 (List.mem_of_getElem? hx)⟩
/-- a watch as data: the pair of its places and its words -/
def PairAt (H : Hp) (a : Addr) (wt : Wt) : Prop := ∃ tm tw, H a = some (.tup [.ref tm, .ref tw]) ∧ DataAt H tm tw wt
theorem PairAt.gx {H H' : Hp} {a : Addr} {wt : Wt} {ms : List Addr} (h : PairAt H a wt) (g : Gx ms H H') : PairAt H' a wt := by
  obtain ⟨tm, tw, h1, h2⟩ := h
  exact ⟨tm, tw, g.tup h1, h2.gx g⟩
theorem PairAt.gr {H H' : Hp} {a : Addr} {wt : Wt} {ms : List Addr} (h : PairAt H a wt) (g : Gr ms H H') : PairAt H' a wt := h.gx g.gx
/-! ### _law_made -/
theorem sc_made : FnScope ["watch", "goals"] ["watch"] (C8.fnScope s_law_made) := C8.fnScope_by (by decide +kernel)
def spMade (CW : Addr) : Sp := fun vs H Q _ => ∃ (a : Addr) (wt : Wt) (k : Nat), vs = [.ref a] ∧ PairAt H a wt ∧ wt.Ok k ∧ LamX.Tabs TT0 H ∧ ∀ H' p, Gx [] H H' → LamX.Tabs TT0 H' → H p = none → WatchAt CW H' p wt → Q (.ref p) H'
theorem c_made (T : Txt K mg base CW CO) : C8.Cal P w K mg base 10 "_law_made" (spMade CW) [] := by
  obtain ⟨f, fd, D, df⟩ := T.d_law_made
  refine C8.cal0 D (D.fn.binds (ps := ["watch"]) df fun _ _ _ _ _ _ us hl => match us, hl with | [_], _ => rfl) .nil sc_made (fun vs H Q E h => ?_) (fun cdv A outer s H vs Q E hr h => ?_)
  · obtain ⟨a, wt, k, rfl, _⟩ := h
    rfl
  · obtain ⟨a, wt, k, rfl, ⟨tm, tw, ha, hdat⟩, ok, hT, q⟩ := h
    refine ⟨_, pss_one (ps_ret (C8.pe_mk (c_Watch T) hr (by decide) (by rfl) (pa_cons (pe_lc (own := [("goals", 1)]) (g := gName 1) (tt := tYes) (by rfl) sc_made.nd (pi_tup (pe_ix ix_tup (pv 0) pe_int (fun _ _ => rfl))) (blkOk_by (own := [("goals", 1)]) (N := ["watch", "goals"]) (sc := C8.fnScope s_law_made) (by decide +kernel))
        (fun _ _ _ _ _ => pg_name (i := 1) sc_made.nd rfl (Or.inl rfl)) (fun _ _ _ _ _ => pts_nil) (fun _ _ _ _ _ => pe_callTy (r := rListOf K) call_list_of (by rfl) T.z_list (by decide +kernel) (pa_cons (pv 1) pa_nil)))
      (pa_cons (pe_callTy call_list_of (by rfl) T.z_list (by decide +kernel) (pa_cons (pe_ix ix_tup (pv 0) pe_int (fun _ _ => rfl)) pa_nil)) pa_nil)))), ?_⟩
    obtain ⟨rows, hr1, hr2, hr3⟩ := hdat.rows
    refine ⟨_, rfl, a, _, 0, .ref tm, rfl, rfl, .of ha, atI_of (i := 0) rfl, tm, rfl, ⟨_, .of hr1⟩, fun D hD => ?_⟩
    refine lc_it (walk_tup (xs := rows.map V.ref)) (fun i Hx => Gr [] H Hx ∧ ∃ ls : List Addr, ls.length = i ∧ Hx D = some (.lst (ls.map V.ref)) ∧ ∀ (j : Nat) (r : Addr) (l : List Nat), ls[j]? = some r → wt.mv[j]? = some l → Hx r = some (.lst (nvs l)) ∧ H r = none) ⟨.new hD, [], rfl, upd_same, fun j r l e => by simp at e⟩ (fun i Hx _ h => .of (h.1.tup hr1)) ?_ ?_
    · rintro i x Hy Hx hi ⟨g, ls, hls, hDx, hall⟩ ⟨rfl, hx⟩
      rw [List.getElem?_map] at hx
      obtain ⟨r, hr', rfl⟩ := Option.map_eq_some_iff.mp hx
      have hi2 : i < wt.mv.length := by rw [List.length_map, hr2] at hi; exact hi
      have hl : wt.mv[i]? = some wt.mv[i] := List.getElem?_eq_getElem hi2
      have n6 := ok.n6
      have n6' : wt.mv.length ≤ 6 := n6
      refine ⟨rfl, _, rfl, r, _, rfl, .inr (.of (g.tup (hr3 i r _ hr' hl))), fun t ht => ?_⟩
      have gt : Gr [] Hx (upd Hx t (.lst (nvs wt.mv[i]))) := .new ht
      have hDt := gt.all _ _ hDx
      refine ⟨_, hDt, by rw [sizeLine_eq, List.length_map]; omega, (g.trans gt).put0 hD, ls ++ [t], by rw [List.length_append, hls] <;> rfl, by rw [upd_same, List.map_append] <;> rfl, fun j r' l e1 e2 => ?_⟩
      have hr'' : upd Hx t (.lst (nvs wt.mv[i])) r' = some (.lst (nvs l)) ∧ H r' = none := by
        by_cases hj : j < ls.length
        · rw [List.getElem?_append_left hj] at e1
          obtain ⟨q1, q2⟩ := hall j r' l e1 e2
          exact ⟨gt.all _ _ q1, q2⟩
        · have : j = ls.length := by
            have := (List.getElem?_eq_some_iff.mp e1).1
            rw [List.length_append, List.length_singleton] at this
            omega
          subst this
          rw [List.getElem?_append_right (Nat.le_refl _), Nat.sub_self] at e1
          cases e1
          rw [hls, hl] at e2
          cases e2
          exact ⟨upd_same, g.none0 ht⟩
      refine ⟨?_, hr''.2⟩
      by_cases e : r' = D
      · subst e
        rw [hDt] at hr''
        have z := hr''.1
        exfalso
        have z1 := congrArg (fun x : Option HO => match x with | some (.lst (V.ref _ :: _)) => 1 | some (.lst (V.int _ :: _)) => 2 | _ => 0) z
        by_cases hj : j < ls.length
        · rw [List.getElem?_append_left hj] at e1
          have hb := (hall j r' l e1 e2).1
          rw [hDx] at hb
          have lk := ok.line l (List.mem_of_getElem? e2)
          have k1 := ok.k1
          cases l with
          | nil => simp at lk; omega
          | cons g0 l =>
            cases ls with
            | nil => simp at hj
            | cons a0 ls => simp [nvs] at hb
        · have : j = ls.length := by
            have := (List.getElem?_eq_some_iff.mp e1).1
            rw [List.length_append, List.length_singleton] at this
            omega
          subst this
          rw [List.getElem?_append_right (Nat.le_refl _), Nat.sub_self] at e1
          have e3 : t = r' := by simpa using e1
          rw [e3] at ht
          rw [hDx] at ht
          cases ht
      · rw [upd_ne e]
        exact hr''.1
    · rintro Hx ⟨g, ls, hls, hDx, hall⟩
      have hlen : ls.length = wt.mv.length := by rw [hls, List.length_map, hr2]
      refine ⟨_, rfl, a, _, 1, .ref tw, rfl, rfl, .of (g.tup ha), atI_of (i := 1) rfl, tw, _, rfl, .inr (.of (g.tup hdat.words)), fun b hb => ?_⟩
      have gb : Gr [] Hx (upd Hx b (.lst (nvs wt.wd))) := .new hb
      have hb1 : upd Hx b (.lst (nvs wt.wd)) b = some (.lst (nvs wt.wd)) := upd_same
      generalize upd Hx b (.lst (nvs wt.wd)) = H1 at gb hb1 ⊢
      intro x dx hx hdx hne
      have gx1 : Gr [] H1 (upd (upd H1 dx (.own x)) x (.ins CW dx [])) := ((Gr.refl [] H1).put0 hdx).put0 hx
      have gA : Gr [] H (upd (upd H1 dx (.own x)) x (.ins CW dx [])) := (g.trans gb).trans gx1
      have gH1 := g.trans gb
      refine ⟨x, D, b, dx, ls, wt.mv, wt.wd, k, rfl, upd_same, gx1.all _ _ (gb.all _ _ hDx), ⟨hlen, fun i r l e1 e2 => .inl ((gb.trans gx1).all _ _ (hall i r l e1 e2).1), ok.n1, ok.n6, ok.k1, ok.k4, ok.line⟩, gx1.all _ _ hb1, ok.wl, ok.wv, tabs_gr hT gA, fun H' g2 T2 W => ⟨rfl, ?_⟩⟩
      refine q _ x (fun b o e n t => g2 b o (gA b o e n) (fun z => ?_) t) T2 (gH1.none0 hx) W
      rw [List.mem_singleton] at z
      subst z
      rw [gH1.none0 hx] at e
      cases e
end
end K75
end
section
set_option Elab.async false
set_option linter.all false
set_option maxRecDepth 100000
set_option maxHeartbeats 4000000
/-! drawn watches and rows -/
namespace K75
open PySem PySem.Spec PyProof.Rows L2 HW HX
abbrev scPlace : Scope := { kind := .function, names := [(".0", .local), ("place", .local), ("tuple", .globalImplicit), ("range", .globalImplicit), ("kinds", .cell), ("many", .cell), ("tape", .cell)], isGenerator := false, isCoroutine := false, more := [] }
theorem nin {H : Hp} {d l c D : Addr} (T : TapeAt H d l c) (h : H D = none) : D ∉ [d, l] := fun z => by
  obtain ⟨⟨r, t, h1⟩, ⟨ns, h2⟩, _⟩ := T
  rcases List.mem_cons.mp z with e | z
  · rw [← e, h] at h1
    cases h1
  · rw [← List.mem_singleton.mp z, h] at h2
    cases h2
theorem _root_.HX.TapeAt.putAt {H : Hp} {d l c D : Addr} {o u : HO} (T : TapeAt H d l c) (h : H D = some u) (hd : D ≠ d) (hl : D ≠ l) (hc : D ≠ c) : TapeAt (upd H D o) d l c := by
  obtain ⟨⟨r, t, h1⟩, ⟨ns, h2⟩, ⟨cs, h3⟩, h4⟩ := T
  exact ⟨⟨r, t, by rw [upd_ne hd.symm]; exact h1⟩, ⟨ns, by rw [upd_ne hl.symm]; exact h2⟩, ⟨cs, by rw [upd_ne hc.symm]; exact h3⟩, h4⟩
/-- no part of the tape -/
def Off (D d l c : Addr) : Prop := D ≠ d ∧ D ≠ l ∧ D ≠ c
theorem off {H : Hp} {d l c D : Addr} (T : TapeAt H d l c) (h : H D = none) : Off D d l c := by
  obtain ⟨⟨r, t, h1⟩, ⟨ns, h2⟩, ⟨cs, h3⟩, h4⟩ := T
  exact ⟨(ne_of_none h1 h).symm, (ne_of_none h2 h).symm, (ne_of_none h3 h).symm⟩
theorem Off.nin {d l c D : Addr} (o : Off D d l c) : D ∉ [d, l] := fun z => by
  rcases List.mem_cons.mp z with e | z
  · exact o.1 e
  · exact o.2.1 (List.mem_singleton.mp z)
theorem _root_.HX.TapeAt.up {H : Hp} {d l c D : Addr} {o : HO} (T : TapeAt H d l c) (h : Off D d l c) : TapeAt (upd H D o) d l c := by
  obtain ⟨⟨r, t, h1⟩, ⟨ns, h2⟩, ⟨cs, h3⟩, h4⟩ := T
  exact ⟨⟨r, t, by rw [upd_ne h.1.symm]; exact h1⟩, ⟨ns, by rw [upd_ne h.2.1.symm]; exact h2⟩, ⟨cs, by rw [upd_ne h.2.2.symm]; exact h3⟩, h4⟩
theorem cast1 (r : Nat) : (1 : Int) + (r : Int) = ((r + 1 : Nat) : Int) := by omega
section
variable {P : Program} {w : World} {K : PySem.W.Frag} {mg : Str → Option Value} {base : Heap} {CW CO : Addr}
theorem sc_lwatch : FnScope ["tape", "places", "kinds", "words", "many", "moves", "place", "kind"] ["tape", "places", "kinds", "words"] (C8.fnScope s_law_watch) := C8.fnScope_by (by decide +kernel)
def spLWatch : Sp := fun vs H Q _ => ∃ (d l c : Addr) (pl kd wd : Nat), vs = [.ref d, .int (pl : Int), .int (kd : Int), .int (wd : Int)] ∧ TapeAt H d l c ∧ 1 ≤ pl ∧ pl ≤ 6 ∧ 1 ≤ kd ∧ kd ≤ 4 ∧ 1 ≤ wd ∧ wd ≤ 4 ∧
  ∀ H' a wt, Gr [d, l] H H' → TapeAt H' d l c → PairAt H' a wt → wt.Ok kd → Q (.ref a) H'
theorem c_lwatch (T : Txt K mg base CW CO) : C8.Cal P w K mg base 3 "_law_watch" spLWatch [] := by
  obtain ⟨f, fd, D, df⟩ := T.d_law_watch
  refine C8.cal0 D (D.fn.binds (ps := ["tape", "places", "kinds", "words"]) df fun _ _ _ _ _ _ us hl => match us, hl with | [_, _, _, _], _ => rfl) .nil sc_lwatch (fun vs H Q E h => ?_) (fun cdv A outer s H vs Q E hr h => ?_)
  · obtain ⟨d, l, c, pl, kd, wd, rfl, _⟩ := h
    rfl
  · obtain ⟨d, l, c, pl, kd, wd, rfl, TA, hp1, hp6, hk1, hk4, hw1, hw4, q⟩ := h
    refine ⟨_, pss_cons (ps_set (i := 4) sc_lwatch.nd rfl (Or.inr rfl) (pe_op op_add pe_int (C8.pe_c (c_draw T) hr (by decide) (by rfl) (pa_cons (pv 0) (pa_cons (pv 1) pa_nil)))))
      (pss_cons (ps_set (i := 5) sc_lwatch.nd rfl (Or.inl rfl) (pe_callTy call_tuple_of (by rfl) T.z_tuple (by decide +kernel) (pa_cons (pe_lc (own := [("place", 6)]) (g := gName 6) (tt := tYes) (by rfl) sc_lwatch.nd (pi_range1 rfl T.z_range (pa_cons (pv 4) pa_nil)) (blkOk_by (own := [("place", 6)]) (N := ["tape", "places", "kinds", "words", "many", "moves", "place", "kind"]) (sc := C8.fnScope s_law_watch) (by decide +kernel))
        (fun _ _ _ _ _ => pg_name (i := 6) sc_lwatch.nd rfl (Or.inl rfl)) (fun _ _ _ _ _ => pts_nil)
        (fun _ _ _ _ _ => pe_callTy (r := rTupOf K) call_tuple_of (by rfl) T.z_tuple (by decide +kernel) (pa_cons (pe_lc (own := [("kind", 7)]) (g := gName 7) (tt := tYes) (te := tCall spDraw [] C8.E0 (tCons (tVar 0) (tCons (tVar 4) tNil))) (by rfl) sc_lwatch.nd (pi_range1 rfl T.z_range (pa_cons (pv 2) pa_nil)) (blkOk_by (own := [("kind", 7)]) (N := ["tape", "places", "kinds", "words", "many", "moves", "place", "kind"]) (sc := scPlace) (by decide +kernel))
          (fun _ _ _ _ _ => pg_name (i := 7) sc_lwatch.nd rfl (Or.inl rfl)) (fun _ _ _ _ _ => pts_nil) (fun _ _ _ _ _ => C8.pe_c (c_draw T) hr (by decide) (by rfl) (pa_cons (pv 0) (pa_cons (pv 4) pa_nil)))) pa_nil))) pa_nil)))
      (pss_one (ps_ret (pe_tup (pa_cons (pv 5) (pa_cons (pe_callTy call_tuple_of (by rfl) T.z_tuple (by decide +kernel) (pa_cons (pe_lc (own := [("place", 6)]) (g := gName 6) (tt := tYes) (te := tCall spDraw [] C8.E0 (tCons (tVar 0) (tCons (tVar 3) tNil))) (by rfl) sc_lwatch.nd (pi_range1 rfl T.z_range (pa_cons (pv 4) pa_nil)) (blkOk_by (own := [("place", 6)]) (N := ["tape", "places", "kinds", "words", "many", "moves", "place", "kind"]) (sc := C8.fnScope s_law_watch) (by decide +kernel))
        (fun _ _ _ _ _ => pg_name (i := 6) sc_lwatch.nd rfl (Or.inl rfl)) (fun _ _ _ _ _ => pts_nil) (fun _ _ _ _ _ => C8.pe_c (c_draw T) hr (by decide) (by rfl) (pa_cons (pv 0) (pa_cons (pv 3) pa_nil)))) pa_nil)) pa_nil)))))), ?_⟩
    refine ⟨_, rfl, _, rfl, d, l, c, pl, rfl, TA, hp1, by omega, fun H1 r g1 TA1 hr1 => ⟨_, _, rfl, rfl, ?_⟩⟩
    have hnat : ((1 : Int) + (r : Int)).toNat = r + 1 := by omega
    have hknat : ((kd : Int)).toNat = kd := by omega
    refine ⟨_, rfl, _, rfl, by omega, by omega, fun D hD => ?_⟩
    have oD := off TA1 hD
    refine lc_it walk_range (fun i Hx => Gr [d, l] H1 Hx ∧ TapeAt Hx d l c ∧ ∃ (rows : List Addr) (ls : List (List Nat)), rows.length = i ∧ ls.length = i ∧ Hx D = some (.lst (rows.map V.ref)) ∧ (∀ (j : Nat) (t : Addr) (g : List Nat), rows[j]? = some t → ls[j]? = some g → Hx t = some (.tup (nvs g))) ∧ ∀ g ∈ ls, g.length = kd ∧ ∀ x ∈ g, x < r + 1)
      ⟨.new hD, TA1.up oD, [], [], rfl, rfl, upd_same, fun j t g e => by simp at e, fun g hg => by cases hg⟩ (fun _ _ _ _ => True.intro) ?_ ?_
    · rintro i x Hy Hx hi ⟨g, TAx, rows, ls, hrl, hll, hDx, hall, hline⟩ ⟨rfl, rfl⟩
      rw [hnat] at hi
      refine ⟨rfl, _, rfl, _, rfl, by omega, by omega, fun D2 hD2 => ?_⟩
      have oD2 := off TAx hD2
      refine lc_it walk_range (fun j Hy => Gr [d, l] Hx Hy ∧ TapeAt Hy d l c ∧ ∃ gs : List Nat, gs.length = j ∧ (∀ x ∈ gs, x < r + 1) ∧ Hy D2 = some (.lst (nvs gs))) ⟨.new hD2, TAx.up oD2, [], rfl, fun x hx => (by cases hx), upd_same⟩ (fun _ _ _ _ => True.intro) ?_ ?_
      · rintro j y Hw Hy hj ⟨gy, TAy, gs, hgl, hgn, hD2y⟩ ⟨rfl, rfl⟩
        rw [hknat] at hj
        refine ⟨rfl, _, rfl, _, rfl, d, l, c, r + 1, by show [V.ref d, V.int (1 + (r : Int))] = _; rw [cast1], TAy, by omega, by omega, fun H3 r3 g3 TA3 hr3 => ?_⟩
        refine ⟨_, g3 _ _ hD2y fun z => absurd z oD2.nin, by rw [nvs_length, sizeLine_eq]; omega, (gy.trans g3).put0 hD2, TA3.up oD2, gs ++ [r3], by rw [List.length_append, hgl] <;> rfl, fun x hx => ?_, ?_⟩
        · rcases List.mem_append.mp hx with hx | hx
          · exact hgn x hx
          · rw [List.mem_singleton] at hx
            omega
        · rw [upd_same]
          unfold nvs
          rw [List.map_append] <;> rfl
      · rintro Hy ⟨gy, TAy, gs, hgl, hgn, hD2y⟩
        rw [hknat] at hgl
        refine ⟨D2, _, rfl, .inl ⟨.of hD2y, fun t ht => ?_⟩⟩
        have gt : Gr [d, l] Hy (upd Hy t (.tup (nvs gs))) := .new ht
        have gyt := gy.trans gt
        have hDt := gyt _ _ hDx fun z => absurd z oD.nin
        have TAt : TapeAt (upd Hy t (.tup (nvs gs))) d l c := TAy.up (off TAy ht)
        refine ⟨_, hDt, by rw [List.length_map, sizeLine_eq]; omega, (g.trans gyt).put0 hD, TAt.up oD, rows ++ [t], ls ++ [gs], by rw [List.length_append, hrl] <;> rfl, by rw [List.length_append, hll] <;> rfl, by rw [upd_same, List.map_append] <;> rfl, fun j t' g' e1 e2 => ?_, fun g' hg' => ?_⟩
        · have hk : upd Hy t (.tup (nvs gs)) t' = some (.tup (nvs g')) := by
            by_cases hj : j < rows.length
            · rw [List.getElem?_append_left hj] at e1
              rw [List.getElem?_append_left (by omega)] at e2
              exact gyt.tup (hall j t' g' e1 e2)
            · have hj2 : j = rows.length := by
                have := (List.getElem?_eq_some_iff.mp e1).1
                rw [List.length_append, List.length_singleton] at this
                omega
              subst hj2
              rw [List.getElem?_append_right (Nat.le_refl _), Nat.sub_self] at e1
              rw [List.getElem?_append_right (by omega), show rows.length - ls.length = 0 by omega] at e2
              cases e1
              cases e2
              exact upd_same
          rw [upd_ne (ne_of hk hDt (fun z => nomatch z))]
          exact hk
        · rcases List.mem_append.mp hg' with hg' | hg'
          · exact hline g' hg'
          · rw [List.mem_singleton] at hg'
            subst hg'
            exact ⟨hgl, hgn⟩
    · rintro Hx ⟨g, TAx, rows, ls, hrl, hll, hDx, hall, hline⟩
      rw [hnat] at hrl hll
      refine ⟨D, _, rfl, .inl ⟨.of hDx, fun tm htm => ?_⟩⟩
      have gm : Gr [d, l] Hx (upd Hx tm (.tup (rows.map V.ref))) := .new htm
      have htm1 : upd Hx tm (.tup (rows.map V.ref)) tm = some (.tup (rows.map V.ref)) := upd_same
      have TAm : TapeAt (upd Hx tm (.tup (rows.map V.ref))) d l c := TAx.up (off TAx htm)
      have hallm : ∀ (j : Nat) (t : Addr) (g : List Nat), rows[j]? = some t → ls[j]? = some g → upd Hx tm (.tup (rows.map V.ref)) t = some (.tup (nvs g)) := fun j t g e1 e2 => gm.tup (hall j t g e1 e2)
      generalize upd Hx tm (.tup (rows.map V.ref)) = H2 at gm htm1 TAm hallm ⊢
      refine ⟨_, rfl, _, rfl, _, rfl, by omega, by omega, fun D3 hD3 => ?_⟩
      have oD3 := off TAm hD3
      refine lc_it walk_range (fun j Hy => Gr [d, l] H2 Hy ∧ TapeAt Hy d l c ∧ ∃ gs : List Nat, gs.length = j ∧ (∀ x ∈ gs, x ≤ 3) ∧ Hy D3 = some (.lst (nvs gs))) ⟨.new hD3, TAm.up oD3, [], rfl, fun x hx => (by cases hx), upd_same⟩ (fun _ _ _ _ => True.intro) ?_ ?_
      · rintro j y Hw Hy hj ⟨gy, TAy, gs, hgl, hgn, hD3y⟩ ⟨rfl, rfl⟩
        rw [hnat] at hj
        refine ⟨rfl, _, rfl, _, rfl, d, l, c, wd, rfl, TAy, by omega, by omega, fun H3 r3 g3 TA3 hr3 => ?_⟩
        refine ⟨_, g3 _ _ hD3y fun z => absurd z oD3.nin, by rw [nvs_length, sizeLine_eq]; omega, (gy.trans g3).put0 hD3, TA3.up oD3, gs ++ [r3], by rw [List.length_append, hgl] <;> rfl, fun x hx => ?_, ?_⟩
        · rcases List.mem_append.mp hx with hx | hx
          · exact hgn x hx
          · rw [List.mem_singleton] at hx
            omega
        · rw [upd_same]
          unfold nvs
          rw [List.map_append] <;> rfl
      · rintro Hy ⟨gy, TAy, gs, hgl, hgn, hD3y⟩
        rw [hnat] at hgl
        refine ⟨D3, _, rfl, .inl ⟨.of hD3y, fun tw htw => ⟨by show 2 ≤ sizeLine; rw [sizeLine_eq]; omega, fun a ha => ?_⟩⟩⟩
        have gw : Gr [d, l] Hy (upd (upd Hy tw (.tup (nvs gs))) a (.tup [V.ref tm, .ref tw])) := (Gr.new htw).trans (.new ha)
        have TAw : TapeAt (upd (upd Hy tw (.tup (nvs gs))) a (.tup [V.ref tm, .ref tw])) d l c := (TAy.up (off TAy htw)).up (off (TAy.up (off TAy htw)) ha)
        have gAll := gy.trans gw
        refine q _ a ⟨ls, gs⟩ (((g1.trans g).trans gm).trans gAll) TAw ⟨tm, tw, upd_same, ⟨rows, gAll.tup htm1, by rw [hrl, hll], fun j t g' e1 e2 => gAll.tup (hallm j t g' e1 e2)⟩, ?_⟩ ⟨?_, ?_, hk1, hk4, fun g' hg' => ?_, ?_, hgn⟩
        · rw [upd_ne (ne_of_none upd_same ha), upd_same]
        · show 1 ≤ ls.length
          omega
        · show ls.length ≤ 6
          omega
        · obtain ⟨q1, q2⟩ := hline g' hg'
          refine ⟨q1, fun x hx => ?_⟩
          show x < ls.length
          have := q2 x hx
          omega
        · show gs.length = ls.length
          omega
end
end K75
end
section
set_option Elab.async false
set_option linter.all false
set_option maxRecDepth 100000
set_option maxHeartbeats 4000000
/-! told, drawn_heard -/
namespace K75
open PySem PySem.Spec PyProof.Rows L2 HW HX
/-- the place behind a row -/
def plc (w : Wt) (es : List Nat) : Nat := es.foldl (fun p e => (w.goals p).getD e 0) 0
theorem plc_snoc (w : Wt) (es : List Nat) (e : Nat) : plc w (es ++ [e]) = (w.goals (plc w es)).getD e 0 := by
  unfold plc
  rw [List.foldl_append] <;> rfl
theorem led_fold (w : Wt) : ∀ (es : List Nat) (p : Nat), led w p es = es.foldl (fun p e => (w.goals p).getD e 0) p
  | [], _ => rfl
  | e :: es, p => led_fold w es _
theorem told_snoc (w : Wt) : ∀ (es : List Nat) (p e : Nat), told w p (es ++ [e]) = told w p es ++ [w.word ((w.goals (led w p es)).getD e 0)]
  | [], _, _ => rfl
  | a :: es, p, e => by
    show w.word ((w.goals p).getD a 0) :: told w ((w.goals p).getD a 0) (es ++ [e]) = w.word ((w.goals p).getD a 0) :: (told w ((w.goals p).getD a 0) es ++ [w.word ((w.goals (led w ((w.goals p).getD a 0) es)).getD e 0)])
    rw [told_snoc w es]
theorem plc_led (w : Wt) (es : List Nat) : plc w es = led w 0 es := (led_fold w es 0).symm
section
variable {P : Program} {w : World} {K : PySem.W.Frag} {mg : Str → Option Value} {base : Heap} {CW CO : Addr}
theorem sc_told : FnScope ["watch", "row", "found", "place", "kind"] ["watch", "row"] (C8.fnScope s_law_told) := C8.fnScope_by (by decide +kernel)
def spTold : Sp := fun vs H Q _ => ∃ (a r : Addr) (wt : Wt) (k : Nat) (es : List Nat), vs = [.ref a, .ref r] ∧ PairAt H a wt ∧ wt.Ok k ∧ H r = some (.tup (nvs es)) ∧ (∀ e ∈ es, e < k) ∧ es.length ≤ 300 ∧ ∀ H' b, Gr [] H H' → H' b = some (.tup (nvs (told wt 0 es))) → Q (.ref b) H'
theorem c_told (T : Txt K mg base CW CO) : C8.Cal P w K mg base 1 "_law_told" spTold [] := by
  obtain ⟨f, fd, D, df⟩ := T.d_law_told
  refine C8.cal0 D (D.fn.binds (ps := ["watch", "row"]) df fun _ _ _ _ _ _ us hl => match us, hl with | [_, _], _ => rfl) .nil sc_told (fun vs H Q E h => ?_) (fun cdv A outer s H vs Q E hr h => ?_)
  · obtain ⟨a, r, wt, k, es, rfl, _⟩ := h
    rfl
  · obtain ⟨a, r, wt, k, es, rfl, ⟨tm, tw, ha, hdat⟩, ok, hrow, hes, hlen, q⟩ := h
    refine ⟨_, pss_cons (ps_par (i := 2) (j := 3) (by rfl) sc_told.nd rfl rfl (by decide) rfl rfl (pa_cons (pe_lst pa_nil) (pa_cons pe_int pa_nil)) rfl)
      (pss_cons (ps_for PassesOwn.never rfl (pi_tup (pv 1)) (pg_name (i := 4) sc_told.nd rfl (Or.inl rfl))
        (pss_cons (ps_set (i := 3) sc_told.nd rfl (Or.inl rfl) (pe_ix ix_tup (pe_ix ix_tup (pe_ix ix_tup (pv 0) pe_int (fun _ _ => rfl)) (pv 3) (fun _ _ => rfl)) (pv 4) (fun _ _ => rfl)))
        (pss_one (ps_expr (pe_bm PySem.F.plainAttrs_list PySem.F.slot_list_append PySem.F.type_list_append mt_append (pv 2) (pa_cons (pe_ix ix_tup (pe_ix ix_tup (pv 0) pe_int (fun _ _ => rfl)) (pv 3) (fun _ _ => rfl)) pa_nil))))))
      (pss_one (ps_ret (pe_callTy call_tuple_of (by rfl) T.z_tuple (by decide +kernel) (pa_cons (pv 2) pa_nil))))), ?_⟩
    refine ⟨by show 0 ≤ sizeLine; omega, fun F hF => ⟨_, _, rfl, ?_⟩⟩
    have n1 := ok.n1
    refine ⟨_, rfl, r, rfl, ⟨_, .of ((Gr.new (ms := []) hF).tup hrow)⟩, for_it (walk_tup (xs := nvs es)) (fun i σ Hx => ∃ x4, Gr [] H Hx ∧ Hx F = some (.lst (nvs (told wt 0 (es.take i)))) ∧ plc wt (es.take i) < wt.n ∧ σ = [some (.ref a), some (.ref r), some (.ref F), some (.int (plc wt (es.take i) : Int)), x4])
      ⟨none, .new hF, upd_same, n1, rfl⟩ (fun i σ Hx _ ⟨_, g, _⟩ => .of (g.tup hrow)) ?_ ?_⟩
    · rintro i x σ Hy Hx hi ⟨x4, g, hFx, hpl, rfl⟩ ⟨rfl, hx⟩
      obtain ⟨e, he, rfl⟩ := nvs_get hx
      have hek := hes e (List.mem_of_getElem? he)
      have htake : es.take (i + 1) = es.take i ++ [e] := by rw [List.take_add_one, he] <;> rfl
      obtain ⟨rows, rr, e1, e2, e3⟩ := (hdat.gr g).row hpl
      have hge : (wt.goals (plc wt (es.take i)))[e]? = some ((wt.goals (plc wt (es.take i))).getD e 0) := by
        rw [List.getD_eq_getElem?_getD, List.getElem?_eq_getElem (by rw [ok.goals_len hpl]; exact hek)] <;> rfl
      have hgn : (wt.goals (plc wt (es.take i))).getD e 0 < wt.n := ok.goals_lt (List.mem_of_getElem? hge)
      refine ⟨_, rfl, a, _, 0, .ref tm, rfl, rfl, .of (g.tup ha), atI_of (i := 0) rfl, _, rfl, tm, _, _, .ref rr, rfl, rfl, .of e1, atI_of (by rw [List.getElem?_map, e2] <;> rfl), _, rfl, rr, _, _, _, rfl, rfl, .of e3, atI_of (nvs_at hge), ?_⟩
      refine ⟨_, rfl, .inl ⟨rfl, _, .of hFx⟩, _, rfl, a, _, 1, .ref tw, rfl, rfl, .of (g.tup ha), atI_of (i := 1) rfl, _, rfl, tw, _, _, _, rfl, rfl, .of (g.tup hdat.words), atI_of (word_at ok hgn), F, _, _, rfl, rfl, hFx, ?_, ?_⟩
      · have : (told wt 0 (es.take i)).length ≤ 300 := by rw [told_length, List.length_take]; omega
        rw [nvs_length, sizeLine_eq]
        omega
      · refine ⟨some (.int (e : Int)), g.put0 hF, ?_, ?_, ?_⟩
        · rw [upd_same, htake, told_snoc, ← plc_led]
          unfold nvs
          rw [List.map_append] <;> rfl
        · rw [htake, plc_snoc]
          exact hgn
        · rw [htake, plc_snoc] <;> rfl
    · rintro σ Hx ⟨x4, g, hFx, hpl, rfl⟩
      rw [nvs_length, List.take_length] at hFx
      exact ⟨_, rfl, F, _, rfl, .inl ⟨.of hFx, fun b hb => q _ b (g.trans (.new hb)) upd_same⟩⟩
theorem sc_drawn_heard : FnScope ["tape", "watch", "most", "row", "item"] ["tape", "watch", "most"] (C8.fnScope s_law_drawn_heard) := C8.fnScope_by (by decide +kernel)
def spDrawnHeard : Sp := fun vs H Q _ => ∃ (d l c a : Addr) (wt : Wt) (k : Nat), vs = [.ref d, .ref a, .int 40] ∧ TapeAt H d l c ∧ PairAt H a wt ∧ wt.Ok k ∧
  ∀ H' t hb rb es, Gr [d, l] H H' → TapeAt H' d l c → H' t = some (.tup [.ref hb, .ref rb]) → H' hb = some (.tup (nvs (told wt 0 es))) → (∀ e ∈ es, e < k) → es.length ≤ 40 → Q (.ref t) H'
theorem c_drawn_heard (T : Txt K mg base CW CO) : C8.Cal P w K mg base 3 "_law_drawn_heard" spDrawnHeard [] := by
  obtain ⟨f, fd, D, df⟩ := T.d_law_drawn_heard
  refine C8.cal0 D (D.fn.binds (ps := ["tape", "watch", "most"]) df fun _ _ _ _ _ _ us hl => match us, hl with | [_, _, _], _ => rfl) .nil sc_drawn_heard (fun vs H Q E h => ?_) (fun cdv A outer s H vs Q E hr h => ?_)
  · obtain ⟨d, l, c, a, wt, k, rfl, _⟩ := h
    rfl
  · obtain ⟨d, l, c, a, wt, k, rfl, TA, hpair, ok, q⟩ := h
    refine ⟨_, pss_cons (ps_set (i := 3) sc_drawn_heard.nd rfl (Or.inl rfl) (pe_callTy call_tuple_of (by rfl) T.z_tuple (by decide +kernel) (pa_cons (pe_lc (own := [("item", 4)]) (g := gName 4) (tt := tYes) (te := tCall spDraw [] C8.E0 (tCons (tVar 0) (tCons (tCB (rLenK K) (tCons (tOp (rIxT K) (tOp (rIxT K) (tVar 1) (tC (.int 0))) (tC (.int 0))) tNil)) tNil))) (by rfl) sc_drawn_heard.nd (pi_range1 rfl T.z_range (pa_cons (C8.pe_c (c_draw T) hr (by decide) (by rfl) (pa_cons (pv 0) (pa_cons (pe_op op_add (pv 2) pe_int) pa_nil))) pa_nil)) (blkOk_by (own := [("item", 4)]) (N := ["tape", "watch", "most", "row", "item"]) (sc := C8.fnScope s_law_drawn_heard) (by decide +kernel))
        (fun _ _ _ _ _ => pg_name (i := 4) sc_drawn_heard.nd rfl (Or.inl rfl)) (fun _ _ _ _ _ => pts_nil) (fun _ _ _ _ _ => C8.pe_c (c_draw T) hr (by decide) (by rfl) (pa_cons (pv 0) (pa_cons (pe_callB (r := rLenK K) call_len_seq (by rfl) T.z_len PySem.boot_len (pa_cons (pe_ix ix_tup (pe_ix ix_tup (pv 1) pe_int (fun _ _ => rfl)) pe_int (fun _ _ => rfl)) pa_nil)) pa_nil)))) pa_nil)))
      (pss_one (ps_ret (pe_tup (pa_cons (C8.pe_c (c_told T) hr (by decide) (by rfl) (pa_cons (pv 1) (pa_cons (pv 3) pa_nil))) (pa_cons (pv 3) pa_nil))))), ?_⟩
    refine ⟨_, rfl, _, rfl, _, _, rfl, rfl, d, l, c, 41, rfl, TA, by omega, by omega, fun H1 m g1 TA1 hm => ?_⟩
    have hmnat : ((m : Int)).toNat = m := by omega
    refine ⟨_, rfl, by omega, by omega, fun D hD => ?_⟩
    have oD := off TA1 hD
    refine lc_it walk_range (fun i Hx => Gr [d, l] H1 Hx ∧ TapeAt Hx d l c ∧ ∃ es : List Nat, es.length = i ∧ (∀ e ∈ es, e < k) ∧ Hx D = some (.lst (nvs es))) ⟨.new hD, TA1.up oD, [], rfl, fun x hx => (by cases hx), upd_same⟩ (fun _ _ _ _ => True.intro) ?_ ?_
    · rintro i x Hy Hx hi ⟨g, TAx, es, hel, hek, hDx⟩ ⟨rfl, rfl⟩
      rw [hmnat] at hi
      obtain ⟨tm, tw, ha, hdat⟩ := hpair.gr (g1.trans g)
      obtain ⟨rows, rr, e1, e2, e3⟩ := hdat.row (i := 0) (by have := ok.n1; omega)
      have hgl := ok.goals_len (p := 0) (by have := ok.n1; omega)
      have k1 := ok.k1
      have k4 := ok.k4
      refine ⟨rfl, _, rfl, _, rfl, a, _, 0, .ref tm, rfl, rfl, .of ha, atI_of (i := 0) rfl, tm, _, 0, .ref rr, rfl, rfl, .of e1, atI_of (i := 0) (by rw [List.getElem?_map, e2] <;> rfl), rr, _, rfl, .inr (.of e3), d, l, c, k, by rw [nvs_length, hgl] <;> rfl, TAx, k1, by omega, fun H3 r3 g3 TA3 hr3 => ?_⟩
      refine ⟨_, g3 _ _ hDx fun z => absurd z oD.nin, by rw [nvs_length, sizeLine_eq]; omega, (g.trans g3).put0 hD, TA3.up oD, es ++ [r3], by rw [List.length_append, hel] <;> rfl, fun x hx => ?_, ?_⟩
      · rcases List.mem_append.mp hx with hx | hx
        · exact hek x hx
        · rw [List.mem_singleton] at hx
          omega
      · rw [upd_same]
        unfold nvs
        rw [List.map_append] <;> rfl
    · rintro Hx ⟨g, TAx, es, hel, hek, hDx⟩
      rw [hmnat] at hel
      refine ⟨D, _, rfl, .inl ⟨.of hDx, fun rb hrb => ?_⟩⟩
      have gr : Gr [d, l] Hx (upd Hx rb (.tup (nvs es))) := .new hrb
      have hrb1 : upd Hx rb (.tup (nvs es)) rb = some (.tup (nvs es)) := upd_same
      have TAr : TapeAt (upd Hx rb (.tup (nvs es))) d l c := TAx.up (off TAx hrb)
      generalize upd Hx rb (.tup (nvs es)) = H2 at gr hrb1 TAr ⊢
      refine ⟨_, rfl, _, rfl, a, rb, wt, k, es, rfl, hpair.gr ((g1.trans g).trans gr), ok, hrb1, hek, by omega, fun H3 hb g3 hhb => ⟨_, rfl, by show 2 ≤ sizeLine; rw [sizeLine_eq]; omega, fun t ht => ?_⟩⟩
      have gt : Gr [] H3 (upd H3 t (.tup [V.ref hb, .ref rb])) := .new ht
      exact q _ t hb rb es ((((g1.trans g).trans gr).trans g3.nil).trans gt.nil) ((TAr.gr0 g3).gr0 gt) upd_same (gt.tup hhb) hek (by omega)
end
end K75
end
section
set_option Elab.async false
set_option linter.all false
set_option maxRecDepth 100000
set_option maxHeartbeats 4000000
/-! known and drawn watches -/
namespace K75
open PySem PySem.Spec PyProof.Rows L2 HW HX
section
variable {X : Cx}
def tRow (l : List Nat) : TE := fun _ H Q => ∀ H' a, Gr [] H H' → H' a = some (.tup (nvs l)) → Q (.ref a) H'
def tNums (l : List Nat) : TA := fun _ H Q => Q (nvs l) H
def tRows (mv : List (List Nat)) : TA := fun _ H Q => ∀ H' rows, Gr [] H H' → RowsAt H' rows mv → Q (rows.map V.ref) H'
def tLit (wt : Wt) : TE := fun _ H Q => ∀ H' a, Gr [] H H' → PairAt H' a wt → Q (.ref a) H'
def PairsAt (H : Hp) (as : List Addr) (ws : List Wt) : Prop := as.length = ws.length ∧ ∀ (i : Nat) (a : Addr) (w : Wt), as[i]? = some a → ws[i]? = some w → PairAt H a w
def tLits (ws : List Wt) : TA := fun _ H Q => ∀ H' as, Gr [] H H' → PairsAt H' as ws → Q (as.map V.ref) H'
theorem pa_of {es : List Expr} {t t' : TA} (h : PA X es t) (f : ∀ σ H Q, t' σ H Q → t σ H Q) : PA X es t' := ⟨fun pos pins s σ H Q I q => h.run pos pins s σ H Q I (f σ H Q q)⟩
theorem pa_nums_nil : PA X [] (tNums []) := pa_nil
theorem pa_nums_cons {e : Expr} {es : List Expr} {g : Nat} {l : List Nat} (he : PE X e (tC (.int (g : Int)))) (hr : PA X es (tNums l)) (hs : starEach (e :: es) X.env = (false, eval e X.env) :: starEach es X.env := by rfl) : PA X (e :: es) (tNums (g :: l)) :=
  pa_of (pa_cons he hr hs) fun _ _ _ h => h
theorem pe_row {es : List Expr} {l : List Nat} {k : Nat} {pos : Pos} (h : PA X es (tNums l)) (hl : l.length ≤ 100) : PE X (.Tuple es k pos) (tRow l) :=
  PE.of (pe_tup h) fun σ H Q q => ⟨by rw [nvs_length, sizeLine_eq]; omega, fun t ht => q _ t (.new ht) upd_same⟩
theorem pa_rows_nil : PA X [] (tRows []) := pa_of pa_nil fun _ H Q h => h H [] (.refl _ _) ⟨rfl, fun i r l e => by simp at e⟩
theorem pa_rows_cons {e : Expr} {es : List Expr} {l : List Nat} {mv : List (List Nat)} (he : PE X e (tRow l)) (hr : PA X es (tRows mv)) (hs : starEach (e :: es) X.env = (false, eval e X.env) :: starEach es X.env := by rfl) : PA X (e :: es) (tRows (l :: mv)) :=
  pa_of (pa_cons he hr hs) fun _ H Q h H1 a g1 ha H2 rows g2 hR => h H2 (a :: rows) (g1.trans g2) ⟨by rw [List.length_cons, List.length_cons, hR.1], fun i r l' e1 e2 => by
    cases i with
    | zero =>
      cases e1
      cases e2
      exact g2.tup ha
    | succ i => exact hR.2 i r l' e1 e2⟩
theorem pe_lit {es : List Expr} {we : Expr} {mv : List (List Nat)} {wd : List Nat} {k1 k2 : Nat} {p1 p2 : Pos} (h : PA X es (tRows mv)) (hw : PE X we (tRow wd)) (hl : mv.length ≤ 100) (hs : starEach [.Tuple es k1 p1, we] X.env = (false, eval (.Tuple es k1 p1) X.env) :: starEach [we] X.env := by rfl) (hs2 : starEach [we] X.env = (false, eval we X.env) :: starEach [] X.env := by rfl) :
    PE X (.Tuple [.Tuple es k1 p1, we] k2 p2) (tLit ⟨mv, wd⟩) :=
  PE.of (pe_tup (pa_cons (pe_tup h) (pa_cons hw pa_nil hs2) hs)) fun σ H Q q H1 rows g1 hR => ⟨by rw [List.length_map, hR.1, sizeLine_eq]; omega, fun tm htm H3 tw g3 htw => ⟨by show 2 ≤ sizeLine; rw [sizeLine_eq]; omega, fun a ha => by
    have gm : Gr [] H1 (upd H1 tm (.tup (rows.map V.ref))) := .new htm
    have ga : Gr [] H3 (upd H3 a (.tup [V.ref tm, .ref tw])) := .new ha
    have gall := gm.trans (g3.trans ga)
    exact q _ a (g1.trans gall) ⟨tm, tw, upd_same, ⟨rows, ga.tup (g3.tup upd_same), hR.1, fun i r l e1 e2 => gall.tup (hR.2 i r l e1 e2)⟩, ga.tup htw⟩⟩⟩
theorem pa_lits_nil : PA X [] (tLits []) := pa_of pa_nil fun _ H Q h => h H [] (.refl _ _) ⟨rfl, fun i r l e => by simp at e⟩
theorem pa_lits_cons {e : Expr} {es : List Expr} {w : Wt} {ws : List Wt} (he : PE X e (tLit w)) (hr : PA X es (tLits ws)) (hs : starEach (e :: es) X.env = (false, eval e X.env) :: starEach es X.env := by rfl) : PA X (e :: es) (tLits (w :: ws)) :=
  pa_of (pa_cons he hr hs) fun _ H Q h H1 a g1 ha H2 as g2 hR => h H2 (a :: as) (g1.trans g2) ⟨by rw [List.length_cons, List.length_cons, hR.1], fun i r l' e1 e2 => by
    cases i with
    | zero =>
      cases e1
      cases e2
      exact ha.gr g2
    | succ i => exact hR.2 i r l' e1 e2⟩
end
theorem PairsAt.gr {H H' : Hp} {as : List Addr} {ws : List Wt} {ms : List Addr} (h : PairsAt H as ws) (g : Gr ms H H') : PairsAt H' as ws := ⟨h.1, fun i a w e1 e2 => (h.2 i a w e1 e2).gr g⟩
theorem PairsAt.app {H : Hp} {as bs : List Addr} {ws us : List Wt} (h : PairsAt H as ws) (h2 : PairsAt H bs us) : PairsAt H (as ++ bs) (ws ++ us) := ⟨by rw [List.length_append, List.length_append, h.1, h2.1], fun i a w e1 e2 => by
  by_cases hi : i < as.length
  · rw [List.getElem?_append_left hi] at e1
    rw [List.getElem?_append_left (by rw [← h.1]; exact hi)] at e2
    exact h.2 i a w e1 e2
  · rw [List.getElem?_append_right (by omega)] at e1
    rw [List.getElem?_append_right (by rw [← h.1]; omega), ← h.1] at e2
    exact h2.2 _ a w e1 e2⟩
def known1 : List Wt := [⟨[[0, 1], [0, 1]], [0, 1]⟩, ⟨[[0, 1], [1, 0]], [0, 1]⟩, ⟨[[1, 1], [0, 0]], [1, 0]⟩, ⟨[[0, 1], [0, 2], [2, 2]], [0, 0, 1]⟩]
def known2 : List Wt := [⟨[[1, 2], [0, 0], [2, 2]], [0, 0, 1]⟩, ⟨[[1, 2], [1, 1], [2, 2]], [0, 0, 1]⟩, ⟨[[1, 1], [2, 2], [2, 2]], [0, 0, 1]⟩]
def known3 : List Wt := [⟨[[0, 1], [2, 1], [2, 3], [3, 3]], [0, 0, 0, 1]⟩, ⟨[[1, 2], [1, 3], [4, 2], [1, 3], [4, 2]], [1, 1, 1, 0, 0]⟩]
def okB (w : Wt) (k : Nat) : Bool := decide (1 ≤ w.n) && decide (w.n ≤ 6) && decide (1 ≤ k) && decide (k ≤ 4) && (w.mv.all fun l => l.length == k && l.all fun g => decide (g < w.n)) && w.wd.length == w.n && w.wd.all fun v => decide (v ≤ 3)
theorem ok_of {w : Wt} {k : Nat} (h : okB w k = true) : w.Ok k := by
  unfold okB at h
  simp only [Bool.and_eq_true, decide_eq_true_eq, List.all_eq_true, beq_iff_eq] at h
  obtain ⟨⟨⟨⟨⟨⟨h1, h2⟩, h3⟩, h4⟩, h5⟩, h6⟩, h7⟩ := h
  exact ⟨h1, h2, h3, h4, h5, h6, h7⟩
theorem known_ok : ∀ w ∈ known1 ++ known2 ++ known3, w.Ok 2 := fun w hw => by
  have h : (known1 ++ known2 ++ known3).all (fun w => okB w 2) = true := by decide +kernel
  exact ok_of (List.all_eq_true.mp h w hw)
/-- a watch as data -/
def dW (w : Wt) : PyData := .tuple [.tuple (w.mv.map fun l => .tuple ((l.map fun g : Nat => (g : Int)).map PyData.int)), .tuple ((w.wd.map fun g : Nat => (g : Int)).map PyData.int)]
theorem canLay_all {ds : List PyData} (h : ∀ d ∈ ds, PyData.canLay0 d = true) : PyData.canLayAll0 ds = true := by
  induction ds with
  | nil => simp [PyData.canLayAll0]
  | cons d ds ih => simp [PyData.canLayAll0, h d List.mem_cons_self, ih fun x hx => h x (List.mem_cons_of_mem _ hx)]
theorem depth_all {n : Nat} {ds : List PyData} (h : ∀ d ∈ ds, PyData.depth d ≤ n) : PyData.depthAll ds ≤ n := by
  induction ds with
  | nil => simp [PyData.depthAll]
  | cons d ds ih =>
    have h1 := h d List.mem_cons_self
    have h2 := ih fun x hx => h x (List.mem_cons_of_mem _ hx)
    simp only [PyData.depthAll]
    omega
theorem lay_ints (l : List Int) : PyData.canLay0 (.tuple (l.map PyData.int)) = true ∧ PyData.depth (.tuple (l.map PyData.int)) ≤ 2 := by
  have h1 := PySem.W.depthAll_ints l
  have h2 := PySem.W.canLayAll0_ints l
  refine ⟨by simpa [PyData.canLay0] using h2, ?_⟩
  simp only [PyData.depth]
  omega
theorem lay_dW (w : Wt) : PyData.canLay0 (dW w) = true ∧ PyData.depth (dW w) ≤ 4 := by
  have hm : PyData.canLay0 (.tuple (w.mv.map fun l => PyData.tuple ((l.map fun g : Nat => (g : Int)).map PyData.int))) = true ∧ PyData.depth (.tuple (w.mv.map fun l => PyData.tuple ((l.map fun g : Nat => (g : Int)).map PyData.int))) ≤ 3 := by
    refine ⟨?_, ?_⟩
    · simp only [PyData.canLay0]
      exact canLay_all fun d hd => by
        obtain ⟨l, _, rfl⟩ := List.mem_map.mp hd
        exact (lay_ints _).1
    · have := depth_all (n := 2) (ds := w.mv.map fun l => PyData.tuple ((l.map fun g : Nat => (g : Int)).map PyData.int)) fun d hd => by
        obtain ⟨l, _, rfl⟩ := List.mem_map.mp hd
        exact (lay_ints _).2
      simp only [PyData.depth]
      omega
  have hw := lay_ints (w.wd.map fun g : Nat => (g : Int))
  unfold dW
  refine ⟨?_, ?_⟩
  · simp only [PyData.canLay0]
    exact canLay_all fun d hd => by
      rcases List.mem_cons.mp hd with rfl | hd
      · simpa [PyData.canLay0] using hm.1
      · rw [List.mem_singleton] at hd
        subst hd
        simpa [PyData.canLay0] using hw.1
  · have := depth_all (n := 3) (ds := [PyData.tuple (w.mv.map fun l => PyData.tuple ((l.map fun g : Nat => (g : Int)).map PyData.int)), .tuple ((w.wd.map fun g : Nat => (g : Int)).map PyData.int)]) fun d hd => by
      rcases List.mem_cons.mp hd with rfl | hd
      · exact hm.2
      · rw [List.mem_singleton] at hd
        subst hd
        exact Nat.le_trans hw.2 (by decide)
    simp only [PyData.depth] at this ⊢
    omega
theorem shaped_dWs (ws : List Wt) : SeqAt.shaped (.list (ws.map dW)) = true := by
  show (PyData.canLay0 (.list (ws.map dW)) && decide (PyData.depth (.list (ws.map dW)) ≤ 64)) = true
  rw [Bool.and_eq_true]
  refine ⟨?_, decide_eq_true ?_⟩
  · simp only [PyData.canLay0]
    exact canLay_all fun d hd => by
      obtain ⟨w, _, rfl⟩ := List.mem_map.mp hd
      exact (lay_dW w).1
  · have := depth_all (n := 4) (ds := ws.map dW) fun d hd => by
      obtain ⟨w, _, rfl⟩ := List.mem_map.mp hd
      exact (lay_dW w).2
    simp only [PyData.depth]
    omega
theorem dp_row {K : PySem.W.Frag} {H : Hp} {r : Addr} {l : List Nat} (h : H r = some (.tup (nvs l))) : Dp K H (.ref r) (.tuple ((l.map fun g : Nat => (g : Int)).map PyData.int)) := .tup (.of h) (dp_nvs l)
theorem dp_rows {K : PySem.W.Frag} {H : Hp} : ∀ {rows : List Addr} {mv : List (List Nat)}, RowsAt H rows mv → DpAll K H (rows.map V.ref) (mv.map fun l => .tuple ((l.map fun g : Nat => (g : Int)).map PyData.int))
  | [], [], _ => .nil
  | [], _ :: _, h => by exact absurd h.1 (by simp)
  | _ :: _, [], h => by exact absurd h.1 (by simp)
  | r :: rows, l :: mv, h => .cons (dp_row (h.2 0 r l rfl rfl)) (dp_rows ⟨by have := h.1; simpa using this, fun i r l e1 e2 => h.2 (i + 1) r l e1 e2⟩)
theorem dp_pair {K : PySem.W.Frag} {H : Hp} {a : Addr} {w : Wt} (h : PairAt H a w) : Dp K H (.ref a) (dW w) := by
  obtain ⟨tm, tw, h1, ⟨rows, h2, h3⟩, h4⟩ := h
  exact .tup (.of h1) (.cons (.tup (.of h2) (dp_rows h3)) (.cons (dp_row h4) .nil))
theorem dp_pairs {K : PySem.W.Frag} {H : Hp} : ∀ {as : List Addr} {ws : List Wt}, PairsAt H as ws → DpAll K H (as.map V.ref) (ws.map dW)
  | [], [], _ => .nil
  | [], _ :: _, h => by exact absurd h.1 (by simp)
  | _ :: _, [], h => by exact absurd h.1 (by simp)
  | a :: as, w :: ws, h => .cons (dp_pair (h.2 0 a w rfl rfl)) (dp_pairs ⟨by have := h.1; simpa using this, fun i a w e1 e2 => h.2 (i + 1) a w e1 e2⟩)
section
variable {P : Program} {w : World} {K : PySem.W.Frag} {mg : Str → Option Value} {base : Heap} {CW CO : Addr}
theorem sc_wide : FnScope ["tape", "places", "words", "known", "some", "watch"] ["tape", "places", "words"] (C8.fnScope s_law_wide) := C8.fnScope_by (by decide +kernel)
def spWide : Sp := fun vs H Q _ => ∃ (d l c : Addr), vs = [.ref d, .int 6, .int 4] ∧ TapeAt H d l c ∧ ∀ H' a wt, Gr [d, l] H H' → TapeAt H' d l c → PairAt H' a wt → wt.Ok 2 → Q (.ref a) H'
theorem c_wide (T : Txt K mg base CW CO) : C8.Cal P w K mg base 4 "_law_wide" spWide [] := by
  obtain ⟨f, fd, D, df⟩ := T.d_law_wide
  refine C8.cal0 D (D.fn.binds (ps := ["tape", "places", "words"]) df fun _ _ _ _ _ _ us hl => match us, hl with | [_, _, _], _ => rfl) .nil sc_wide (fun vs H Q E h => ?_) (fun cdv A outer s H vs Q E hr h => ?_)
  · obtain ⟨d, l, c, rfl, _⟩ := h
    rfl
  · obtain ⟨d, l, c, rfl, TA, q⟩ := h
    refine ⟨_, pss_cons (ps_set (i := 3) sc_wide.nd rfl (Or.inl rfl) (pe_lst (t := tLits known1) (pa_lits_cons (pe_lit (pa_rows_cons (pe_row (pa_nums_cons (g := 0) pe_int (pa_nums_cons (g := 1) pe_int pa_nums_nil)) (by decide)) (pa_rows_cons (pe_row (pa_nums_cons (g := 0) pe_int (pa_nums_cons (g := 1) pe_int pa_nums_nil)) (by decide)) pa_rows_nil)) (pe_row (pa_nums_cons (g := 0) pe_int (pa_nums_cons (g := 1) pe_int pa_nums_nil)) (by decide)) (by decide)) (pa_lits_cons (pe_lit (pa_rows_cons (pe_row (pa_nums_cons (g := 0) pe_int (pa_nums_cons (g := 1) pe_int pa_nums_nil)) (by decide)) (pa_rows_cons (pe_row (pa_nums_cons (g := 1) pe_int (pa_nums_cons (g := 0) pe_int pa_nums_nil)) (by decide)) pa_rows_nil)) (pe_row (pa_nums_cons (g := 0) pe_int (pa_nums_cons (g := 1) pe_int pa_nums_nil)) (by decide)) (by decide)) (pa_lits_cons (pe_lit (pa_rows_cons (pe_row (pa_nums_cons (g := 1) pe_int (pa_nums_cons (g := 1) pe_int pa_nums_nil)) (by decide)) (pa_rows_cons (pe_row (pa_nums_cons (g := 0) pe_int (pa_nums_cons (g := 0) pe_int pa_nums_nil)) (by decide)) pa_rows_nil)) (pe_row (pa_nums_cons (g := 1) pe_int (pa_nums_cons (g := 0) pe_int pa_nums_nil)) (by decide)) (by decide)) (pa_lits_cons (pe_lit (pa_rows_cons (pe_row (pa_nums_cons (g := 0) pe_int (pa_nums_cons (g := 1) pe_int pa_nums_nil)) (by decide)) (pa_rows_cons (pe_row (pa_nums_cons (g := 0) pe_int (pa_nums_cons (g := 2) pe_int pa_nums_nil)) (by decide)) (pa_rows_cons (pe_row (pa_nums_cons (g := 2) pe_int (pa_nums_cons (g := 2) pe_int pa_nums_nil)) (by decide)) pa_rows_nil))) (pe_row (pa_nums_cons (g := 0) pe_int (pa_nums_cons (g := 0) pe_int (pa_nums_cons (g := 1) pe_int pa_nums_nil))) (by decide)) (by decide)) pa_lits_nil))))))
      (pss_cons (ps_set (i := 3) sc_wide.nd rfl (Or.inl rfl) (pe_op op_cat (pv 3) (pe_lst (t := tLits known2) (pa_lits_cons (pe_lit (pa_rows_cons (pe_row (pa_nums_cons (g := 1) pe_int (pa_nums_cons (g := 2) pe_int pa_nums_nil)) (by decide)) (pa_rows_cons (pe_row (pa_nums_cons (g := 0) pe_int (pa_nums_cons (g := 0) pe_int pa_nums_nil)) (by decide)) (pa_rows_cons (pe_row (pa_nums_cons (g := 2) pe_int (pa_nums_cons (g := 2) pe_int pa_nums_nil)) (by decide)) pa_rows_nil))) (pe_row (pa_nums_cons (g := 0) pe_int (pa_nums_cons (g := 0) pe_int (pa_nums_cons (g := 1) pe_int pa_nums_nil))) (by decide)) (by decide)) (pa_lits_cons (pe_lit (pa_rows_cons (pe_row (pa_nums_cons (g := 1) pe_int (pa_nums_cons (g := 2) pe_int pa_nums_nil)) (by decide)) (pa_rows_cons (pe_row (pa_nums_cons (g := 1) pe_int (pa_nums_cons (g := 1) pe_int pa_nums_nil)) (by decide)) (pa_rows_cons (pe_row (pa_nums_cons (g := 2) pe_int (pa_nums_cons (g := 2) pe_int pa_nums_nil)) (by decide)) pa_rows_nil))) (pe_row (pa_nums_cons (g := 0) pe_int (pa_nums_cons (g := 0) pe_int (pa_nums_cons (g := 1) pe_int pa_nums_nil))) (by decide)) (by decide)) (pa_lits_cons (pe_lit (pa_rows_cons (pe_row (pa_nums_cons (g := 1) pe_int (pa_nums_cons (g := 1) pe_int pa_nums_nil)) (by decide)) (pa_rows_cons (pe_row (pa_nums_cons (g := 2) pe_int (pa_nums_cons (g := 2) pe_int pa_nums_nil)) (by decide)) (pa_rows_cons (pe_row (pa_nums_cons (g := 2) pe_int (pa_nums_cons (g := 2) pe_int pa_nums_nil)) (by decide)) pa_rows_nil))) (pe_row (pa_nums_cons (g := 0) pe_int (pa_nums_cons (g := 0) pe_int (pa_nums_cons (g := 1) pe_int pa_nums_nil))) (by decide)) (by decide)) pa_lits_nil))))))
      (pss_cons (ps_set (i := 3) sc_wide.nd rfl (Or.inl rfl) (pe_op op_cat (pv 3) (pe_lst (t := tLits known3) (pa_lits_cons (pe_lit (pa_rows_cons (pe_row (pa_nums_cons (g := 0) pe_int (pa_nums_cons (g := 1) pe_int pa_nums_nil)) (by decide)) (pa_rows_cons (pe_row (pa_nums_cons (g := 2) pe_int (pa_nums_cons (g := 1) pe_int pa_nums_nil)) (by decide)) (pa_rows_cons (pe_row (pa_nums_cons (g := 2) pe_int (pa_nums_cons (g := 3) pe_int pa_nums_nil)) (by decide)) (pa_rows_cons (pe_row (pa_nums_cons (g := 3) pe_int (pa_nums_cons (g := 3) pe_int pa_nums_nil)) (by decide)) pa_rows_nil)))) (pe_row (pa_nums_cons (g := 0) pe_int (pa_nums_cons (g := 0) pe_int (pa_nums_cons (g := 0) pe_int (pa_nums_cons (g := 1) pe_int pa_nums_nil)))) (by decide)) (by decide)) (pa_lits_cons (pe_lit (pa_rows_cons (pe_row (pa_nums_cons (g := 1) pe_int (pa_nums_cons (g := 2) pe_int pa_nums_nil)) (by decide)) (pa_rows_cons (pe_row (pa_nums_cons (g := 1) pe_int (pa_nums_cons (g := 3) pe_int pa_nums_nil)) (by decide)) (pa_rows_cons (pe_row (pa_nums_cons (g := 4) pe_int (pa_nums_cons (g := 2) pe_int pa_nums_nil)) (by decide)) (pa_rows_cons (pe_row (pa_nums_cons (g := 1) pe_int (pa_nums_cons (g := 3) pe_int pa_nums_nil)) (by decide)) (pa_rows_cons (pe_row (pa_nums_cons (g := 4) pe_int (pa_nums_cons (g := 2) pe_int pa_nums_nil)) (by decide)) pa_rows_nil))))) (pe_row (pa_nums_cons (g := 1) pe_int (pa_nums_cons (g := 1) pe_int (pa_nums_cons (g := 1) pe_int (pa_nums_cons (g := 0) pe_int (pa_nums_cons (g := 0) pe_int pa_nums_nil))))) (by decide)) (by decide)) pa_lits_nil)))))
      (pss_cons (ps_setLc (i := 4) (own := [("watch", 5)]) (g := gName 5) (tt := tTest (tOp (rI0 fun i j => .bl (decide (i ≤ j))) (tCB (rLenK K) (tCons (tOp (rIxT K) (tVar 5) (tC (.int 0))) tNil)) (tVar 1))) (by rfl) sc_wide.nd rfl rfl (sw_true rfl rfl rfl (by decide +kernel)) (pi_list (pv 3)) (blkOk_by (own := [("watch", 5)]) (N := ["tape", "places", "words", "known", "some", "watch"]) (sc := C8.fnScope s_law_wide) (by decide +kernel))
        (fun _ _ _ _ _ => pg_name (i := 5) sc_wide.nd rfl (Or.inl rfl)) (fun _ _ _ _ _ => pts_one (pt_cmpR op_le (pe_callB (r := rLenK K) call_len_seq (by rfl) T.z_len PySem.boot_len (pa_cons (pe_ix ix_tup (pv 5) pe_int (fun _ _ => rfl)) pa_nil)) (pv 1) (nomark _))) (fun _ _ _ _ _ => pv 5))
      (pss_cons (ps_if (PW.pt (pw_and (pt_cmpR (op_neD hr.units) (pv 4) (pe_lst pa_nil) (nomark _)) (pw_and1 (pt_cmpR op_eq (C8.pe_c (c_draw T) hr (by decide) (by rfl) (pa_cons (pv 0) (pa_cons pe_int pa_nil))) pe_int (nomark _))))) (pss_one (ps_ret (C8.pe_c (c_pick T) hr (by decide) (by rfl) (pa_cons (pv 0) (pa_cons (pv 4) pa_nil))))) pss_nil)
      (pss_one (ps_ret (C8.pe_c (c_lwatch T) hr (by decide) (by rfl) (pa_cons (pv 0) (pa_cons (pv 1) (pa_cons pe_int (pa_cons (pv 2) pa_nil))))))))))), ?_⟩
    intro H1 as1 g1 A1
    refine ⟨by rw [List.length_map, A1.1, sizeLine_eq]; decide, fun k1 hk1 => ?_⟩
    have g1' := g1.trans (.new (o := .lst (as1.map V.ref)) hk1)
    have hk1' : upd H1 k1 (.lst (as1.map V.ref)) k1 = some (.lst (as1.map V.ref)) := upd_same
    have A1' := A1.gr (Gr.new (ms := []) (o := .lst (as1.map V.ref)) hk1)
    generalize upd H1 k1 (.lst (as1.map V.ref)) = H1 at g1' hk1' A1' ⊢
    refine ⟨_, rfl, fun H2 as2 g2 A2 => ⟨by rw [List.length_map, A2.1, sizeLine_eq]; decide, fun k2 hk2 => ?_⟩⟩
    have g2' := g2.trans (.new (o := .lst (as2.map V.ref)) hk2)
    have hk2' : upd H2 k2 (.lst (as2.map V.ref)) k2 = some (.lst (as2.map V.ref)) := upd_same
    have A2' := A2.gr (Gr.new (ms := []) (o := .lst (as2.map V.ref)) hk2)
    generalize upd H2 k2 (.lst (as2.map V.ref)) = H2 at g2' hk2' A2' ⊢
    refine ⟨_, _, _, _, rfl, rfl, g2'.all _ _ hk1', hk2', by rw [List.length_map, List.length_map, A1.1, A2.1, sizeLine_eq]; decide, fun k3 hk3 => ?_⟩
    rw [← List.map_append]
    have g3 := g2'.trans (.new (o := .lst ((as1 ++ as2).map V.ref)) hk3)
    have hk3' : upd H2 k3 (.lst ((as1 ++ as2).map V.ref)) k3 = some (.lst ((as1 ++ as2).map V.ref)) := upd_same
    have A3 := ((A1'.gr g2').app A2').gr (Gr.new (ms := []) (o := .lst ((as1 ++ as2).map V.ref)) hk3)
    generalize upd H2 k3 (.lst ((as1 ++ as2).map V.ref)) = H3 at g3 hk3' A3 ⊢
    refine ⟨_, rfl, fun H4 as4 g4 A4 => ⟨by rw [List.length_map, A4.1, sizeLine_eq]; decide, fun k4 hk4 => ?_⟩⟩
    have g4' := g4.trans (.new (o := .lst (as4.map V.ref)) hk4)
    have hk4' : upd H4 k4 (.lst (as4.map V.ref)) k4 = some (.lst (as4.map V.ref)) := upd_same
    have A4' := A4.gr (Gr.new (ms := []) (o := .lst (as4.map V.ref)) hk4)
    generalize upd H4 k4 (.lst (as4.map V.ref)) = H4 at g4' hk4' A4' ⊢
    refine ⟨_, _, _, _, rfl, rfl, g4'.all _ _ hk3', hk4', by rw [List.length_map, List.length_map, A3.1, A4.1, sizeLine_eq]; decide, fun k5 hk5 => ?_⟩
    rw [← List.map_append]
    have g5 := g4'.trans (.new (o := .lst (((as1 ++ as2) ++ as4).map V.ref)) hk5)
    have hk5' : upd H4 k5 (.lst (((as1 ++ as2) ++ as4).map V.ref)) k5 = some (.lst (((as1 ++ as2) ++ as4).map V.ref)) := upd_same
    have A5 := ((A3.gr g4').app A4').gr (Gr.new (ms := []) (o := .lst (((as1 ++ as2) ++ as4).map V.ref)) hk5)
    generalize upd H4 k5 (.lst (((as1 ++ as2) ++ as4).map V.ref)) = H5 at g5 hk5' A5 ⊢
    have gH5 : Gr [] H H5 := (g1'.trans g3).trans g5
    generalize has : (as1 ++ as2) ++ as4 = as at hk5' A5 ⊢
    generalize hws : (known1 ++ known2) ++ known3 = ws at A5
    have hok : ∀ w ∈ ws, w.Ok 2 := by
      rw [← hws]
      exact known_ok
    have hws9 : ws.length ≤ 9 := by
      rw [← hws]
      decide
    refine ⟨_, rfl, k5, rfl, ⟨_, .of hk5'⟩, fun D hD => ?_⟩
    refine lc_it (walk_list (xs := as.map V.ref)) (fun i Hx => Gr [] H5 Hx ∧ ∃ (bs : List Addr) (us : List Wt), Hx D = some (.lst (bs.map V.ref)) ∧ PairsAt Hx bs us ∧ (∀ u ∈ us, u ∈ ws) ∧ bs.length ≤ i) ⟨.new hD, [], [], upd_same, ⟨rfl, fun i a w e => by simp at e⟩, fun u hu => (by cases hu), by simp⟩ (fun i Hx _ h => h.1.sqL (.of hk5')) ?_ ?_
    · rintro i x Hy Hx hi ⟨g, bs, us, hDx, hB, hU, hbl⟩ ⟨rfl, hx⟩
      rw [List.getElem?_map] at hx
      obtain ⟨a, ha, rfl⟩ := Option.map_eq_some_iff.mp hx
      have hiw : i < ws.length := by rw [← A5.1]; exact (List.getElem?_eq_some_iff.mp ha).1
      have hwi : ws[i]? = some ws[i] := List.getElem?_eq_getElem hiw
      have hpa := (A5.2 i a _ ha hwi).gr g
      obtain ⟨tm, tw, e1, e2⟩ := id hpa
      obtain ⟨rows, hr1, hr2⟩ := e2.rows
      refine ⟨rfl, _, rfl, a, _, 0, .ref tm, rfl, rfl, .of e1, atI_of (i := 0) rfl, tm, _, rfl, .inr (.of hr1), _, rfl, _, _, rfl, rfl, _, rfl, ite2 (fun _ => ?_) (fun _ => ⟨g, bs, us, hDx, hB, hU, by omega⟩)⟩
      refine ⟨_, rfl, _, hDx, by rw [List.length_map, sizeLine_eq]; omega, g.put0 hD, bs ++ [a], us ++ [ws[i]], by rw [upd_same, List.map_append] <;> rfl, ?_, fun u hu => ?_, by rw [List.length_append, List.length_singleton]; omega⟩
      · have keep : ∀ b u, PairAt Hx b u → PairAt (upd Hx D (.lst (bs.map V.ref ++ [V.ref a]))) b u := fun b u ⟨tm, tw, q1, ⟨rows, q2, q3⟩, q4⟩ => by
          have kt : ∀ c ys, Hx c = some (.tup ys) → upd Hx D (.lst (bs.map V.ref ++ [V.ref a])) c = some (.tup ys) := fun c ys e => by
            rw [upd_ne (ne_of e hDx (fun z => nomatch z))]
            exact e
          exact ⟨tm, tw, kt _ _ q1, ⟨rows, kt _ _ q2, q3.1, fun i r l e1 e2 => kt _ _ (q3.2 i r l e1 e2)⟩, kt _ _ q4⟩
        exact PairsAt.app ⟨hB.1, fun i b u e1 e2 => keep b u (hB.2 i b u e1 e2)⟩ (as := bs) (bs := [a]) (ws := us) (us := [ws[i]]) ⟨rfl, fun j b u e1 e2 => by
          cases j with
          | zero =>
            cases e1
            cases e2
            exact keep _ _ hpa
          | succ j => simp at e1⟩
      · rcases List.mem_append.mp hu with hu | hu
        · exact hU u hu
        · rw [List.mem_singleton.mp hu]
          exact List.mem_of_getElem? hwi
    · rintro Hx ⟨g, bs, us, hDx, hB, hU, hbl⟩
      have hbl9 : bs.length ≤ 9 := by
        rw [List.length_map, A5.1] at hbl
        omega
      have gx : Gr [] H Hx := gH5.trans g
      have TAx := TA.gr0 gx
      have hDH : H D = none := gH5.none0 hD
      have oD := off TA hDH
      have tail : ∀ (Hz : Hp), Gr [d, l] H Hz → TapeAt Hz d l c → spLWatch [.ref d, .int 6, .int 2, .int 4] Hz Q C8.E0 := fun Hz gz TAz => ⟨d, l, c, 6, 2, 4, rfl, TAz, by omega, by omega, by omega, by omega, by omega, by omega, fun H' a wt g' TA' hp ok => q _ a wt (gz.trans g') TA' hp ok⟩
      refine ⟨_, rfl, by show 0 ≤ sizeLine; omega, fun e he => ?_⟩
      have ge : Gr [] Hx (upd Hx e (.lst [])) := .new he
      have he1 : upd Hx e (.lst []) e = some (.lst []) := upd_same
      generalize upd Hx e (.lst []) = Hy at ge he1 ⊢
      refine ⟨.list (us.map dW), .list [], .lst (.of (ge.all _ _ hDx)) (dp_pairs (hB.gr ge)), .lst (.of he1) .nil, shaped_dWs us, shaped_dWs [], _, rfl, ite2 (fun z => ?_) (fun _ => ?_)⟩
      · have hne : bs ≠ [] := fun hb => by
          have hu : us = [] := List.length_eq_zero_iff.mp (by rw [← hB.1, hb] <;> rfl)
          rw [hu, show (PyData.eqv (.list (([] : List Wt).map dW)) (.list [])) = true from eqv_list [] []] at z
          cases z
        refine ⟨_, rfl, d, l, c, 3, rfl, TAx.gr0 ge, by omega, by omega, fun H6 r6 g6 TA6 _ => ⟨rfl, _, rfl, ite2 (fun _ => ?_) (fun _ => ?_)⟩⟩
        · refine ⟨_, rfl, _, rfl, d, l, c, D, bs.map V.ref, rfl, TA6, ?_, oD.1, oD.2.1, by simpa using hne, by rw [List.length_map]; omega, fun H7 x g7 TA7 hxm => ?_⟩
          · exact g6 _ _ (ge.all _ _ hDx) fun z => absurd z oD.nin
          · obtain ⟨b, hb, rfl⟩ := List.mem_map.mp hxm
            obtain ⟨i, hi⟩ := List.mem_iff_getElem?.mp hb
            have hiu : i < us.length := by rw [← hB.1]; exact (List.getElem?_eq_some_iff.mp hi).1
            have hui : us[i]? = some us[i] := List.getElem?_eq_getElem hiu
            exact q _ b us[i] ((((gx.trans ge).nil).trans g6).trans g7) TA7 ((((hB.2 i b _ hi hui).gr ge).gr g6).gr g7) (hok _ (hU _ (List.mem_of_getElem? hui)))
        · exact ⟨_, rfl, _, rfl, _, rfl, tail _ (((gx.trans ge).nil).trans g6) TA6⟩
      · exact ⟨_, rfl, _, rfl, _, rfl, tail _ ((gx.trans ge).nil) (TAx.gr0 ge)⟩
end
end K75
end
section
set_option Elab.async false
set_option linter.all false
set_option maxRecDepth 100000
set_option maxHeartbeats 4000000
/-! the law's own lots -/
namespace K75
open PySem PySem.Spec PyProof.Rows L2 HW HX
def wbi (w : Wt) (L : List Nat) (i : Nat) : List (Nat × List Nat) := (List.range i).filterMap fun v => if gl w L v = [] then none else some (v, gl w L v)
theorem wbi_succ (w : Wt) (L : List Nat) (i : Nat) : wbi w L (i + 1) = wbi w L i ++ (if gl w L i = [] then [] else [(i, gl w L i)]) := by
  unfold wbi
  rw [List.range_succ, List.filterMap_append]
  congr 1
  by_cases h : gl w L i = []
  · simp [h]
  · simp [h]
theorem wbi_lt {w : Wt} {L : List Nat} {i : Nat} {x : Nat × List Nat} (h : x ∈ wbi w L i) : x.1 < i := by
  unfold wbi at h
  obtain ⟨v, hv, e⟩ := List.mem_filterMap.mp h
  split at e
  · cases e
  · cases e
    exact List.mem_range.mp hv
section
variable {P : Program} {w : World} {K : PySem.W.Frag} {mg : Str → Option Value} {base : Heap} {CW CO : Addr}
theorem sc_next : FnScope ["watch", "places", "found", "word", "goals", "place", "goal"] ["watch", "places"] (C8.fnScope s_law_next_lots) := C8.fnScope_by (by decide +kernel)
def spNext (K : PySem.W.Frag) : Sp := fun vs H Q _ => ∃ (a b : Addr) (wt : Wt) (k : Nat) (L : List Nat), vs = [.ref a, .ref b] ∧ PairAt H a wt ∧ wt.Ok k ∧ SqT K H b (nvs L) ∧ Lot wt L ∧ ∀ H' d, Gr [] H H' → LotsAt H' d (wb wt L) → Q (.ref d) H'
theorem c_next (T : Txt K mg base CW CO) : C8.Cal P w K mg base 1 "_law_next_lots" (spNext K) [] := by
  obtain ⟨f, fd, D, df⟩ := T.d_law_next_lots
  refine C8.cal0 D (D.fn.binds (ps := ["watch", "places"]) df fun _ _ _ _ _ _ us hl => match us, hl with | [_, _], _ => rfl) .nil sc_next (fun vs H Q E h => ?_) (fun cdv A outer s H vs Q E hr h => ?_)
  · obtain ⟨a, b, wt, k, L, rfl, _⟩ := h
    rfl
  · obtain ⟨a, b, wt, k, L, rfl, hpair, ok, hb, lot, q⟩ := h
    have hu := hu_of hr
    refine ⟨_, pss_cons (ps_set (i := 2) sc_next.nd rfl (Or.inl rfl) pe_dnewK)
      (pss_cons (ps_for PassesOwn.never rfl (pi_range1 rfl T.z_range (pa_cons pe_int pa_nil)) (pg_name (i := 3) sc_next.nd rfl (Or.inr rfl))
        (pss_cons (ps_set (i := 4) sc_next.nd rfl (Or.inl rfl) (pe_lst pa_nil))
        (pss_cons (ps_for PassesOwn.never rfl (pi_tup (pv 1)) (pg_name (i := 5) sc_next.nd rfl (Or.inl rfl))
          (pss_one (ps_set (i := 4) sc_next.nd rfl (Or.inl rfl) (pe_op op_cat (pv 4) (pe_lc (own := [("goal", 6)]) (g := gName 6) (tt := tTest (tOp rEq (tOp (rIxT K) (tOp (rIxT K) (tVar 0) (tC (.int 1))) (tVar 6)) (tVar 3))) (by rfl) sc_next.nd (pi_tup (pe_ix ix_tup (pe_ix ix_tup (pv 0) pe_int (fun _ _ => rfl)) (pv 5) (fun _ _ => rfl))) (blkOk_by (own := [("goal", 6)]) (N := ["watch", "places", "found", "word", "goals", "place", "goal"]) (sc := C8.fnScope s_law_next_lots) (by decide +kernel))
            (fun _ _ _ _ _ => pg_name (i := 6) sc_next.nd rfl (Or.inl rfl)) (fun _ _ _ _ _ => pts_one (pt_cmpR op_eq (pe_ix ix_tup (pe_ix ix_tup (pv 0) pe_int (fun _ _ => rfl)) (pv 6) (fun _ _ => rfl)) (pv 3) (nomark _))) (fun _ _ _ _ _ => pv 6))))))
        (pss_one (ps_if (pt_cmpR (op_neD hr.units) (pv 4) (pe_lst pa_nil) (nomark _)) (pss_one (ps_dput hu (pv 2) (pv 3) (pe_callTy call_tuple_of (by rfl) T.z_tuple (by decide +kernel) (pa_cons (pe_callB (cr_sortedSet rfl) (by rfl) T.z_sorted (by decide +kernel) (pa_cons (pe_callTy (r := HX.rSetL K w) (cr_setL rfl) (by rfl) T.z_set (by decide +kernel) (pa_cons (pv 4) pa_nil)) pa_nil)) pa_nil)) rfl)) pss_nil)))))
      (pss_one (ps_ret (pv 2)))), ?_⟩
    have L6 : L.length ≤ 6 := by
      have h1 : L.length ≤ (List.range wt.n).length := length_le_of_subset (lot.asc.imp fun h => Nat.ne_of_lt h) fun g hg => List.mem_range.mpr (lot.lt g hg)
      have := ok.n6
      rw [List.length_range] at h1
      omega
    intro F hF
    refine ⟨4, rfl, by decide, by decide, for_it walk_range (fun i σ Hx => ∃ (ts : List Addr) (x3 x4 x5 : Option V), Gr [] H Hx ∧ ts.length = (wbi wt L i).length ∧ Hx F = some (.dK (((wbi wt L i).zip ts).map fun x => (Sum.inl (x.1.1 : Int), V.ref x.2))) ∧ (∀ (j : Nat) (x : Nat × List Nat) (t : Addr), (wbi wt L i)[j]? = some x → ts[j]? = some t → Hx t = some (.tup (nvs x.2))) ∧ σ = [some (.ref a), some (.ref b), some (.ref F), x3, x4, x5, none])
      ⟨[], none, none, none, .new hF, rfl, upd_same, fun j x t e => by simp [wbi] at e, rfl⟩ (fun _ _ _ _ _ => True.intro) ?_ ?_⟩
    · rintro i x σ Hy Hx hi ⟨ts, x3, x4, x5, g, hts, hFx, hall, rfl⟩ ⟨rfl, rfl⟩
      have hi4 : i < 4 := hi
      refine ⟨by show 0 ≤ sizeLine; omega, fun G0 hG0 => ?_⟩
      have gG : Gr [] Hx (upd Hx G0 (.lst [])) := .new hG0
      refine ⟨_, rfl, b, rfl, ⟨_, (g.trans gG).sqT hb⟩, for_it (walk_tup (xs := nvs L)) (fun j σ Hz => ∃ (G : Addr) (gs : List Nat) (y5 : Option V), Gr [] Hx Hz ∧ Hz G = some (.lst (nvs gs)) ∧ gs.length ≤ 4 * j ∧ (∀ g, g ∈ gs ↔ wt.word g = i ∧ ∃ p ∈ L.take j, g ∈ wt.goals p) ∧ σ = [some (.ref a), some (.ref b), some (.ref F), some (.int (0 + (i : Nat))), some (.ref G), y5, none])
        ⟨G0, [], x5, gG, upd_same, by simp, by simp, rfl⟩ (fun j σ Hz _ ⟨_, _, _, gz, _⟩ => (g.trans gz).sqT hb) ?_ ?_⟩
      · rintro j y σ Hw Hz hj ⟨G, gs, y5, gz, hG, hgl, hgm, rfl⟩ ⟨rfl, hy⟩
        obtain ⟨p, hp, rfl⟩ := nvs_get hy
        have hpn := lot.lt p (List.mem_of_getElem? hp)
        have htake : L.take (j + 1) = L.take j ++ [p] := by rw [List.take_add_one, hp] <;> rfl
        obtain ⟨tm, tw, ha, hdat⟩ := hpair.gr (g.trans gz)
        obtain ⟨rows, rr, e1, e2, e3⟩ := hdat.row hpn
        have hj6 : j < L.length := (List.getElem?_eq_some_iff.mp hp).1
        refine ⟨_, rfl, _, rfl, a, _, 0, .ref tm, rfl, rfl, .of ha, atI_of (i := 0) rfl, _, rfl, tm, _, _, .ref rr, rfl, rfl, .of e1, atI_of (by rw [List.getElem?_map, e2] <;> rfl), rr, rfl, ⟨_, .of e3⟩, fun D hD => ?_⟩
        refine lc_it (walk_tup (xs := nvs (wt.goals p))) (fun m Hu => Gr [] Hz Hu ∧ ∃ us : List Nat, us.length ≤ m ∧ Hu D = some (.lst (nvs us)) ∧ ∀ g, g ∈ us ↔ wt.word g = i ∧ g ∈ (wt.goals p).take m) ⟨.new hD, [], by simp, upd_same, by simp⟩ (fun m Hu _ h => .of (h.1.tup e3)) ?_ ?_
        · rintro m u Hv Hu hm ⟨gu, us, hul, hDu, hum⟩ ⟨rfl, hu'⟩
          obtain ⟨gg, hgg, rfl⟩ := nvs_get hu'
          have hgn := ok.goals_lt (List.mem_of_getElem? hgg)
          have htk : (wt.goals p).take (m + 1) = (wt.goals p).take m ++ [gg] := by rw [List.take_add_one, hgg] <;> rfl
          refine ⟨rfl, _, rfl, a, _, 1, .ref tw, rfl, rfl, .of (gu.tup ha), atI_of (i := 1) rfl, _, rfl, tw, _, _, _, rfl, rfl, .of (gu.tup hdat.words), atI_of (word_at ok hgn), _, rfl, rfl, _, rfl, ite2 (fun z => ?_) (fun z => ?_)⟩
          · have e : wt.word gg = i := by
              have z' := of_decide_eq_true z
              injection z' with z'
              omega
            have hm4 : m < 4 := by
              rw [nvs_length, ok.goals_len hpn] at hm
              have := ok.k4
              omega
            refine ⟨_, rfl, _, hDu, by rw [nvs_length, sizeLine_eq]; omega, gu.put0 hD, us ++ [gg], by rw [List.length_append, List.length_singleton]; omega, ?_, fun g' => ?_⟩
            · rw [upd_same]
              unfold nvs
              rw [List.map_append] <;> rfl
            · rw [htk, List.mem_append, List.mem_append, hum g', List.mem_singleton]
              constructor
              · rintro (⟨q1, q2⟩ | q1)
                · exact ⟨q1, .inl q2⟩
                · subst q1
                  exact ⟨e, .inr rfl⟩
              · rintro ⟨q1, q2 | q2⟩
                · exact .inl ⟨q1, q2⟩
                · exact .inr q2
          · have e : ¬ wt.word gg = i := fun e => z (decide_eq_true (by rw [e]; simp))
            refine ⟨gu, us, by omega, hDu, fun g' => ?_⟩
            rw [hum g', htk, List.mem_append, List.mem_singleton]
            constructor
            · rintro ⟨q1, q2⟩
              exact ⟨q1, .inl q2⟩
            · rintro ⟨q1, q2 | q2⟩
              · exact ⟨q1, q2⟩
              · subst q2
                exact absurd q1 e
        · rintro Hu ⟨gu, us, hul, hDu, hum⟩
          rw [nvs_length, List.take_length] at hum
          rw [nvs_length, ok.goals_len hpn] at hul
          have k4 := ok.k4
          refine ⟨G, D, _, _, rfl, rfl, gu.all _ _ hG, hDu, by rw [nvs_length, nvs_length, sizeLine_eq]; omega, fun G2 hG2 => ?_⟩
          refine ⟨G2, gs ++ us, _, (gz.trans gu).trans (.new hG2), ?_, by rw [List.length_append]; omega, fun g' => ?_, rfl⟩
          · rw [upd_same]
            unfold nvs
            rw [List.map_append] <;> rfl
          · rw [List.mem_append, hgm g', hum g', htake]
            constructor
            · rintro (⟨q1, p', q2, q3⟩ | ⟨q1, q2⟩)
              · exact ⟨q1, p', List.mem_append_left _ q2, q3⟩
              · exact ⟨q1, p, by simp, q2⟩
            · rintro ⟨q1, p', q2, q3⟩
              rcases List.mem_append.mp q2 with q2 | q2
              · exact .inl ⟨q1, p', q2, q3⟩
              · rw [List.mem_singleton] at q2
                subst q2
                exact .inr ⟨q1, q3⟩
      · rintro σ Hz ⟨G, gs, y5, gz, hG, hgl, hgm, rfl⟩
        rw [nvs_length] at hgl hgm
        rw [List.take_length] at hgm
        have hgm' : ∀ g, g ∈ gs ↔ g ∈ gl wt L i := fun g => (hgm g).trans (mem_gl ok).symm
        refine ⟨_, rfl, by show 0 ≤ sizeLine; omega, fun e he => ?_⟩
        have ge : Gr [] Hz (upd Hz e (.lst [])) := .new he
        have he1 : upd Hz e (.lst []) e = some (.lst []) := upd_same
        generalize upd Hz e (.lst []) = He at ge he1 ⊢
        have hGe := ge.all _ _ hG
        have hFe := (gz.trans ge).all _ _ hFx
        refine ⟨.list ((gs.map fun g : Nat => (g : Int)).map PyData.int), .list (([] : List Int).map PyData.int), .lst (.of hGe) (dp_nvs gs), .lst (.of he1) .nil, PySem.W.shaped_ints _, PySem.W.shaped_ints [], _, rfl, ?_⟩
        rw [eqv_list]
        refine ite2 (fun z => ?_) (fun z => ?_)
        · have hne : gs ≠ [] := fun h => by
            rw [h] at z
            simp at z
          have hgne : gl wt L i ≠ [] := fun h => hne (List.eq_nil_iff_forall_not_mem.mpr fun x hx => by
            have := (hgm' x).mp hx
            rw [h] at this
            cases this)
          refine ⟨_, rfl, G, gs.map (fun g : Nat => (g : Int)), rfl, by rw [← nvs_map]; exact .of hGe, by rw [List.length_map]; omega, fun S c hS hc => ?_⟩
          rw [List.length_map] at hc
          have gS : Gr [] He (upd He S (SetO w S (fun j => decide (j ∈ gs.map (fun g : Nat => (g : Int)))) c)) := .new hS
          refine ⟨S, _, c, rfl, upd_same, by omega, fun ys p1 hasc hmem hyl hp1 => ?_⟩
          have hys : ys.map V.int = nvs (gl wt L i) := sorted_nvs (hasc.imp fun h => Int.le_of_lt h) (hasc.imp fun h => Int.ne_of_lt h) (asc_gl wt L i) fun z => by
            rw [hmem z, decide_eq_true_eq, List.mem_map]
            constructor
            · rintro ⟨g, hg, rfl⟩
              exact ⟨g, (hgm' g).mp hg, rfl⟩
            · rintro ⟨g, hg, rfl⟩
              exact ⟨g, (hgm' g).mpr hg, rfl⟩
          rw [hys]
          refine ⟨p1, _, rfl, .inl ⟨.of upd_same, fun t ht => ?_⟩⟩
          have gt : Gr [] Hx (upd (upd (upd He S (SetO w S (fun j => decide (j ∈ gs.map (fun g : Nat => (g : Int)))) c)) p1 (.lst (nvs (gl wt L i)))) t (.tup (nvs (gl wt L i)))) := ((gz.trans ge).trans gS).trans ((Gr.new hp1).trans (.new ht))
          have hFt := gt.all _ _ hFx
          have htt : upd (upd (upd He S (SetO w S (fun j => decide (j ∈ gs.map (fun g : Nat => (g : Int)))) c)) p1 (.lst (nvs (gl wt L i)))) t (.tup (nvs (gl wt L i))) t = some (.tup (nvs (gl wt L i))) := upd_same
          generalize upd (upd (upd He S (SetO w S (fun j => decide (j ∈ gs.map (fun g : Nat => (g : Int)))) c)) p1 (.lst (nvs (gl wt L i)))) t (.tup (nvs (gl wt L i))) = Ht at gt hFt htt ⊢
          have hnew : valV (((wbi wt L i).zip ts).map fun x => ((Sum.inl (x.1.1 : Int) : Key), V.ref x.2)) (Sum.inl (i : Int)) = none := valV_none fun q hq z => by
            obtain ⟨y, hy, rfl⟩ := List.mem_map.mp hq
            have e1 : y.1.1 = i := inl_inj z
            have := wbi_lt (List.of_mem_zip hy).1
            omega
          refine ⟨_, rfl, _, rfl, F, _, rfl, DPut.k (k := Sum.inl (0 + (i : Nat) : Int)) hFt ?_, ?_⟩
          · rw [List.length_map, List.length_zip, hts, sizeLine_eq]
            have : (wbi wt L i).length ≤ i := by
              unfold wbi
              have := List.length_filterMap_le (fun v => if gl wt L v = [] then none else some (v, gl wt L v)) (List.range i)
              rw [List.length_range] at this
              exact this
            omega
          · have e0 : (0 + (i : Nat) : Int) = (i : Int) := by omega
            rw [e0]
            have hs : wbi wt L (i + 1) = wbi wt L i ++ [(i, gl wt L i)] := by rw [wbi_succ, if_neg hgne]
            refine ⟨ts ++ [t], _, _, _, (g.trans gt).put0 hF, by rw [hs, List.length_append, List.length_append, hts] <;> rfl, ?_, fun j x t' q1 q2 => ?_, rfl⟩
            · rw [upd_same, putK_new _ hnew, hs, List.zip_append hts.symm, List.map_append] <;> rfl
            · have hk : Ht t' = some (.tup (nvs x.2)) := by
                rw [hs] at q1
                by_cases hj : j < ts.length
                · rw [List.getElem?_append_left hj] at q2
                  rw [List.getElem?_append_left (by omega)] at q1
                  exact gt.tup (hall j x t' q1 q2)
                · have hj2 : j = ts.length := by
                    have := (List.getElem?_eq_some_iff.mp q2).1
                    rw [List.length_append, List.length_singleton] at this
                    omega
                  subst hj2
                  rw [List.getElem?_append_right (Nat.le_refl _), Nat.sub_self] at q2
                  rw [List.getElem?_append_right (by omega), show ts.length - (wbi wt L i).length = 0 by omega] at q1
                  cases q1
                  cases q2
                  exact htt
              rw [upd_ne (ne_of hk hFt (fun z => nomatch z))]
              exact hk
        · have hgs : gs = [] := Classical.byContradiction fun h => z (by
            have : ¬ (gs.map fun g : Nat => (g : Int)) = [] := by simpa using h
            simp [this])
          have hge : gl wt L i = [] := List.eq_nil_iff_forall_not_mem.mpr fun x hx => by
            have := (hgm' x).mpr hx
            rw [hgs] at this
            cases this
          have hs : wbi wt L (i + 1) = wbi wt L i := by rw [wbi_succ, if_pos hge, List.append_nil]
          exact ⟨ts, _, _, _, (g.trans gz).trans ge, by rw [hs]; exact hts, by rw [hs]; exact hFe, fun j x t q1 q2 => (gz.trans ge).tup (hall j x t (by rw [hs] at q1; exact q1) q2), rfl⟩
    · rintro σ Hx ⟨ts, x3, x4, x5, g, hts, hFx, hall, rfl⟩
      exact ⟨_, rfl, q _ F g ⟨ts, hts, hFx, hall⟩⟩
end
end K75
end
section
set_option Elab.async false
set_option linter.all false
set_option maxRecDepth 100000
set_option maxHeartbeats 4000000
/-! the law's can_be, fit_many -/
namespace K75
open PySem PySem.Spec PyProof.Rows L2 HW HX
theorem flat0 (m : Nat) : (List.replicate m [V.int 0]).flatten = nvs (List.replicate m 0) := by
  induction m with
  | zero => rfl
  | succ m ih =>
    rw [List.replicate_succ, List.flatten_cons, ih, List.replicate_succ] <;> rfl
theorem ixN_nat {n j : Nat} (h : j < n) : ixN n (j : Int) = some j := by
  unfold ixN
  rw [if_pos (by omega), if_pos (by omega), Int.toNat_natCast]
section
variable {P : Program} {w : World} {K : PySem.W.Frag} {mg : Str → Option Value} {base : Heap} {CW CO : Addr}
theorem sc_lcan : FnScope ["watch", "heard", "places", "word"] ["watch", "heard"] (C8.fnScope s_law_can_be) := C8.fnScope_by (by decide +kernel)
def spLCan (K : PySem.W.Frag) : Sp := fun vs H Q _ => ∃ (a b : Addr) (wt : Wt) (k : Nat) (hs : List Nat), vs = [.ref a, .ref b] ∧ PairAt H a wt ∧ wt.Ok k ∧ H b = some (.tup (nvs hs)) ∧ (∀ v ∈ hs, v ≤ 3) ∧ ∀ H' t, Gr [] H H' → SqT K H' t (nvs (placesBy wt [0] hs)) → Q (.ref t) H'
theorem c_lcan (T : Txt K mg base CW CO) : C8.Cal P w K mg base 2 "_law_can_be" (spLCan K) [] := by
  obtain ⟨f, fd, D, df⟩ := T.d_law_can_be
  refine C8.cal0 D (D.fn.binds (ps := ["watch", "heard"]) df fun _ _ _ _ _ _ us hl => match us, hl with | [_, _], _ => rfl) .nil sc_lcan (fun vs H Q E h => ?_) (fun cdv A outer s H vs Q E hr h => ?_)
  · obtain ⟨a, b, wt, k, hs, rfl, _⟩ := h
    rfl
  · obtain ⟨a, b, wt, k, hs, rfl, hpair, ok, hb, hv, q⟩ := h
    have hu := hu_of hr
    refine ⟨_, pss_cons (ps_set (i := 2) sc_lcan.nd rfl (Or.inl rfl) (pe_row (l := [0]) (pa_nums_cons (g := 0) pe_int pa_nums_nil) (by decide)))
      (pss_cons (ps_for PassesOwn.never rfl (pi_tup (pv 1)) (pg_name (i := 3) sc_lcan.nd rfl (Or.inl rfl))
        (pss_one (ps_set (i := 2) sc_lcan.nd rfl (Or.inl rfl) (pe_dget2 hu (C8.pe_c (c_next T) hr (by decide) (by rfl) (pa_cons (pv 0) (pa_cons (pv 2) pa_nil))) (pv 3) (pe_tup pa_nil) ⟨rfl, rfl, rfl, rfl⟩))))
      (pss_one (ps_ret (pv 2)))), ?_⟩
    intro H1 t0 g1 ht0
    refine ⟨_, rfl, b, rfl, ⟨_, .of (g1.tup hb)⟩, for_it (walk_tup (xs := nvs hs)) (fun i σ Hx => ∃ t x3, Gr [] H Hx ∧ SqT K Hx t (nvs (placesBy wt [0] (hs.take i))) ∧ σ = [some (.ref a), some (.ref b), some (.ref t), x3])
      ⟨t0, none, g1, .of ht0, rfl⟩ (fun i σ Hx _ ⟨t, x3, g, _⟩ => .of (g.tup hb)) ?_ ?_⟩
    · rintro i x σ Hy Hx hi ⟨t, x3, g, ht, rfl⟩ ⟨rfl, hx⟩
      obtain ⟨v, hvi, rfl⟩ := nvs_get hx
      have htake : hs.take (i + 1) = hs.take i ++ [v] := by rw [List.take_add_one, hvi] <;> rfl
      have lot : Lot wt (placesBy wt [0] (hs.take i)) := Lot.by (Lot.first ok)
      refine ⟨_, rfl, _, rfl, a, t, wt, k, _, rfl, hpair.gr g, ok, ht, lot, fun H2 d g2 hL => ?_⟩
      obtain ⟨kvs, hkv, hc⟩ := hL.look (hv v (List.mem_of_getElem? hvi))
      refine ⟨d, rfl, .inl ⟨_, .of hkv⟩, _, rfl, by show 0 ≤ sizeLine; omega, fun tt htt => ?_⟩
      have hkt : upd H2 tt (.tup []) d = some (.dK kvs) := (Gr.new (ms := []) htt).all _ _ hkv
      have g3 : Gr [] H (upd H2 tt (.tup [])) := (g.trans g2).trans (.new htt)
      rcases hc with ⟨t2, e1, e2, _⟩ | ⟨e1, e2⟩
      · refine ⟨_, .inl ⟨kvs, Sum.inl (v : Int), .of hkt, rfl, rfl⟩, ?_⟩
        rw [e1]
        refine ⟨t2, _, g3, ?_, rfl⟩
        rw [htake, placesBy_snoc]
        exact .of ((Gr.new (ms := []) htt).all _ _ e2)
      · refine ⟨_, .inl ⟨kvs, Sum.inl (v : Int), .of hkt, rfl, rfl⟩, ?_⟩
        rw [e1]
        refine ⟨tt, _, g3, ?_, rfl⟩
        rw [htake, placesBy_snoc, e2]
        exact .of upd_same
    · rintro σ Hx ⟨t, x3, g, ht, rfl⟩
      rw [nvs_length, List.take_length] at ht
      exact ⟨_, rfl, q _ _ g ht⟩
theorem sc_fit : FnScope ["watch", "heard", "ways", "word", "later", "place", "many", "goal"] ["watch", "heard"] (C8.fnScope s_law_fit_many) := C8.fnScope_by (by decide +kernel)
def spFit : Sp := fun vs H Q _ => ∃ (a b : Addr) (wt : Wt) (k : Nat) (hs : List Nat), vs = [.ref a, .ref b] ∧ PairAt H a wt ∧ wt.Ok k ∧ H b = some (.tup (nvs hs)) ∧ ∀ H', Gr [] H H' → Q (.int (cnt wt 0 hs : Int)) H'
theorem c_fit (T : Txt K mg base CW CO) : C8.Cal P w K mg base 1 "_law_fit_many" spFit [] := by
  obtain ⟨f, fd, D, df⟩ := T.d_law_fit_many
  refine C8.cal0 D (D.fn.binds (ps := ["watch", "heard"]) df fun _ _ _ _ _ _ us hl => match us, hl with | [_, _], _ => rfl) .nil sc_fit (fun vs H Q E h => ?_) (fun cdv A outer s H vs Q E hr h => ?_)
  · obtain ⟨a, b, wt, k, hs, rfl, _⟩ := h
    rfl
  · obtain ⟨a, b, wt, k, hs, rfl, hpair, ok, hb, q⟩ := h
    have hu := hu_of hr
    refine ⟨_, pss_cons (ps_set (i := 2) sc_fit.nd rfl (Or.inl rfl) (pe_op op_cat (pe_lst (pa_cons pe_int pa_nil)) (pe_op op_rep (pe_lst (pa_cons pe_int pa_nil)) (pe_op op_sub (pe_callB call_len_seq (by rfl) T.z_len PySem.boot_len (pa_cons (pe_ix ix_tup (pv 0) pe_int (fun _ _ => rfl)) pa_nil)) pe_int))))
      (pss_cons (ps_for PassesOwn.never rfl (pi_tup (pv 1)) (pg_name (i := 3) sc_fit.nd rfl (Or.inl rfl))
        (pss_cons (ps_set (i := 4) sc_fit.nd rfl (Or.inl rfl) (pe_op op_rep (pe_lst (pa_cons pe_int pa_nil)) (pe_callB call_len_seq (by rfl) T.z_len PySem.boot_len (pa_cons (pe_ix ix_tup (pv 0) pe_int (fun _ _ => rfl)) pa_nil))))
        (pss_cons (ps_for PassesOwn.never rfl (pi_enum (by rfl) T.z_enumerate (pa_cons (pv 2) pa_nil)) (pg_tup rfl (pgs_cons (pg_name (i := 5) sc_fit.nd rfl (Or.inl rfl)) (pgs_cons (pg_name (i := 6) sc_fit.nd rfl (Or.inl rfl)) pgs_nil)))
          (pss_one (ps_for PassesOwn.never rfl (pi_tup (pe_ix ix_tup (pe_ix ix_tup (pv 0) pe_int (fun _ _ => rfl)) (pv 5) (fun _ _ => rfl))) (pg_name (i := 7) sc_fit.nd rfl (Or.inl rfl))
            (pss_one (ps_asg (pe_op op_add (pe_ix ix_list (pv 4) (pv 7) (fun _ _ => rfl)) (pe_ifExp (pt_cmpR op_eq (pe_ix ix_tup (pe_ix ix_tup (pv 0) pe_int (fun _ _ => rfl)) (pv 7) (fun _ _ => rfl)) (pv 3) (nomark _)) (pv 6) pe_int)) (pg_sub (pv 4) (pv 7) set_list))))))
        (pss_one (ps_set (i := 2) sc_fit.nd rfl (Or.inl rfl) (pv 4))))))
      (pss_one (ps_ret (pe_callB (cr_sum rfl) (by rfl) T.z_sum (by decide +kernel) (pa_cons (pv 2) pa_nil))))), ?_⟩
    obtain ⟨tm, tw, ha, hdat⟩ := id hpair
    obtain ⟨rows, hr1, hr2, hr3⟩ := hdat.rows
    have hrl : (rows.map V.ref).length = wt.n := by rw [List.length_map, hr2] <;> rfl
    have n1 := ok.n1
    have n6 := ok.n6
    refine ⟨by show 1 ≤ sizeLine; rw [sizeLine_eq]; omega, fun l1 hl1 => ⟨by show 1 ≤ sizeLine; rw [sizeLine_eq]; omega, fun l0 hl0 => ?_⟩⟩
    have ga : Gr [] H (upd H l1 (.lst [V.int 1])) := .new hl1
    have gb : Gr [] (upd H l1 (.lst [V.int 1])) (upd (upd H l1 (.lst [V.int 1])) l0 (.lst [V.int 0])) := .new hl0
    have gab := ga.trans gb
    have h1a : upd (upd H l1 (.lst [V.int 1])) l0 (.lst [V.int 0]) l1 = some (.lst [V.int 1]) := gb.all _ _ upd_same
    have h0a : upd (upd H l1 (.lst [V.int 1])) l0 (.lst [V.int 0]) l0 = some (.lst [V.int 0]) := upd_same
    generalize upd (upd H l1 (.lst [V.int 1])) l0 (.lst [V.int 0]) = H1 at gb gab h1a h0a ⊢
    refine ⟨_, rfl, a, _, 0, .ref tm, rfl, rfl, .of (gab.tup ha), atI_of (i := 0) rfl, tm, _, rfl, .inr (.of (gab.tup hr1)), _, _, rfl, rfl, l0, _, _, rfl, rfl, h0a, ?_, ?_, ?_, fun l2 hl2 => ?_⟩
    · rw [hrl]; omega
    · rw [hrl]; omega
    · rw [hrl, sizeLine_eq]; show 1 * ((wt.n : Int) - 1).toNat ≤ _; omega
    rw [flat0]
    have hnn : (((rows.map V.ref).length : Int) - 1).toNat = wt.n - 1 := by rw [hrl]; omega
    have g2 : Gr [] H1 (upd H1 l2 (.lst (nvs (List.replicate (((rows.map V.ref).length : Int) - 1).toNat 0)))) := .new hl2
    refine ⟨l1, l2, _, _, rfl, rfl, g2.all _ _ h1a, upd_same, ?_, fun W hW => ?_⟩
    · rw [nvs_length, List.length_replicate, hnn, sizeLine_eq]; simp; omega
    have g3 := (gab.trans g2).trans (.new (o := .lst ([V.int 1] ++ nvs (List.replicate (((rows.map V.ref).length : Int) - 1).toNat 0))) hW)
    have hW3 : upd (upd H1 l2 (.lst (nvs (List.replicate (((rows.map V.ref).length : Int) - 1).toNat 0)))) W (.lst ([V.int 1] ++ nvs (List.replicate (((rows.map V.ref).length : Int) - 1).toNat 0))) W = some (.lst (nvs (1 :: List.replicate (wt.n - 1) 0))) := by
      rw [upd_same, hnn] <;> rfl
    refine ⟨_, rfl, b, rfl, ⟨_, .of (g3.tup hb)⟩, for_it (walk_tup (xs := nvs hs)) (fun i σ Hx => ∃ (W : Addr) (ws : List Nat) (x3 x4 x5 x6 x7 : Option V), Gr [] H Hx ∧ Hx W = some (.lst (nvs ws)) ∧ ws.length = wt.n ∧ totL ws (fun p => cnt wt p (hs.drop i)) = cnt wt 0 hs ∧ σ = [some (.ref a), some (.ref b), some (.ref W), x3, x4, x5, x6, x7])
      ⟨W, _, none, none, none, none, none, g3, hW3, by rw [List.length_cons, List.length_replicate]; omega, by rw [totL_one] <;> rfl, rfl⟩ (fun i σ Hx _ ⟨_, _, _, _, _, _, _, g, _⟩ => .of (g.tup hb)) ?_ ?_⟩
    · rintro i x σ Hy Hx hi ⟨W, ws, x3, x4, x5, x6, x7, g, hWx, hwl, htot, rfl⟩ ⟨rfl, hx⟩
      obtain ⟨v, hvi, rfl⟩ := nvs_get hx
      have hdrop : hs.drop i = v :: hs.drop (i + 1) := by
        have hi2 := (List.getElem?_eq_some_iff.mp hvi).1
        rw [List.drop_eq_getElem_cons hi2]
        rw [List.getElem?_eq_getElem hi2] at hvi
        cases hvi
        rfl
      refine ⟨by show 1 ≤ sizeLine; rw [sizeLine_eq]; omega, fun l3 hl3 => ?_⟩
      have g4 : Gr [] Hx (upd Hx l3 (.lst [V.int 0])) := .new hl3
      have h34 : upd Hx l3 (.lst [V.int 0]) l3 = some (.lst [V.int 0]) := upd_same
      generalize upd Hx l3 (.lst [V.int 0]) = H4 at g4 h34 ⊢
      have gg4 := g.trans g4
      refine ⟨_, rfl, a, _, 0, .ref tm, rfl, rfl, .of (gg4.tup ha), atI_of (i := 0) rfl, tm, _, rfl, .inr (.of (gg4.tup hr1)), l3, _, _, rfl, rfl, h34, ?_, ?_, ?_, fun La hLa => ?_⟩
      · rw [hrl]; omega
      · rw [hrl]; omega
      · rw [hrl, sizeLine_eq]; show 1 * ((wt.n : Int)).toNat ≤ _; omega
      have hnn2 : (((rows.map V.ref).length : Int)).toNat = wt.n := by rw [hrl]; omega
      rw [flat0, hnn2]
      have g5 : Gr [] H4 (upd H4 La (.lst (nvs (List.replicate wt.n 0)))) := .new hLa
      have hLa5 : upd H4 La (.lst (nvs (List.replicate wt.n 0))) La = some (.lst (nvs (List.replicate wt.n 0))) := upd_same
      have hLaH : H La = none := gg4.none0 hLa
      have hWne : W ≠ La := ne_of_none (g4.all _ _ hWx) hLa
      generalize upd H4 La (.lst (nvs (List.replicate wt.n 0))) = H5 at g5 hLa5 ⊢
      have gg5 := gg4.trans g5
      have hW5 := (g4.trans g5).all _ _ hWx
      refine ⟨_, rfl, W, _, rfl, .of hW5, for_it (walk_enum (xs := nvs ws)) (fun j σ Hy => ∃ (ms : List Nat) (x5 x6 x7 : Option V), Gr [] H Hy ∧ Hy W = some (.lst (nvs ws)) ∧ Hy La = some (.lst (nvs ms)) ∧ ms.length = wt.n ∧ (∀ f, totL ms f = totLj wt v ws j f) ∧ σ = [some (.ref a), some (.ref b), some (.ref W), some (.int (v : Int)), some (.ref La), x5, x6, x7])
        ⟨_, x5, x6, x7, gg5, hW5, hLa5, by rw [List.length_replicate], fun f => by rw [totL_zero]; simp [totLj], rfl⟩ (fun j σ Hy _ ⟨_, _, _, _, _, hw, _⟩ => .of hw) ?_ ?_⟩
      · rintro j y σ Hw Hw2 hj ⟨ms, y5, y6, y7, gw, hWw, hLw, hml, hmt, rfl⟩ ⟨t, xk, xv, rfl, ht0, rfl, h1, h2⟩
        cases h1
        replace h2 : (nvs ws)[j]? = some xv := h2
        obtain ⟨wj, hwj, rfl⟩ := nvs_get h2
        have hjn : j < wt.n := by rw [← hwl]; exact (List.getElem?_eq_some_iff.mp hwj).1
        have hwjd : ws.getD j 0 = wj := by rw [List.getD_eq_getElem?_getD, hwj] <;> rfl
        have gT : Gr [] Hw (upd Hw t (.tup [V.int (j : Nat), V.int (wj : Int)])) := .new ht0
        have gwT := gw.trans gT
        obtain ⟨rows2, rr, e1, e2, e3⟩ := (hdat.gr gwT).row hjn
        refine ⟨t, _, rfl, .of upd_same, rfl, _, _, rfl, _, _, rfl, rfl, ?_⟩
        refine ⟨_, rfl, a, _, 0, .ref tm, rfl, rfl, .of (gwT.tup ha), atI_of (i := 0) rfl, _, rfl, tm, _, _, .ref rr, rfl, rfl, .of e1, atI_of (by rw [List.getElem?_map, e2] <;> rfl), rr, rfl, ⟨_, .of e3⟩, for_it (walk_tup (xs := nvs (wt.goals j))) (fun m σ Hz => ∃ (ms : List Nat) (x7 : Option V), Gr [] H Hz ∧ Hz W = some (.lst (nvs ws)) ∧ Hz La = some (.lst (nvs ms)) ∧ ms.length = wt.n ∧ (∀ f, totL ms f = totLj wt v ws j f + wj * (((wt.goals j).take m).map fun g => if wt.word g = v then f g else 0).sum) ∧ Hz rr = some (.tup (nvs (wt.goals j))) ∧
            σ = [some (.ref a), some (.ref b), some (.ref W), some (.int (v : Int)), some (.ref La), some (.int (j : Int)), some (.int (wj : Int)), x7])
          ⟨ms, y7, gwT, gT.all _ _ hWw, gT.all _ _ hLw, hml, fun f => by rw [hmt f]; simp, e3, rfl⟩ (fun m σ Hz _ ⟨_, _, _, _, _, _, _, h, _⟩ => .of h) ?_ ?_⟩
        · rintro m z σ Hz0 Hz hm ⟨ms3, z7, gz, hWz, hLz, hml3, hmt3, hrz, rfl⟩ ⟨rfl, hz⟩
          obtain ⟨gg, hgj, rfl⟩ := nvs_get hz
          have hgn := ok.goals_lt (List.mem_of_getElem? hgj)
          have hold : ms3[gg]? = some (ms3.getD gg 0) := by rw [List.getD_eq_getElem?_getD, List.getElem?_eq_getElem (by omega)] <;> rfl
          have set_ok : ∀ c : Nat, upd Hz La (.lst ((nvs ms3).set gg (.int ((ms3.getD gg 0 : Int) + (c : Int))))) La = some (.lst (nvs (ms3.set gg (ms3.getD gg 0 + c)))) := fun c => by
            rw [upd_same, ← Int.natCast_add, nvs_set]
          refine ⟨_, rfl, _, rfl, La, _, _, _, rfl, rfl, .of hLz, atI_of (nvs_at hold), _, rfl, a, _, 1, .ref tw, rfl, rfl, .of (gz.tup ha), atI_of (i := 1) rfl, _, rfl, tw, _, _, _, rfl, rfl, .of (gz.tup hdat.words), atI_of (word_at ok hgn), _, rfl, rfl, _, rfl, ite2 (fun zz => ?_) (fun zz => ?_)⟩
          · have e : wt.word gg = v := by
              have z' := of_decide_eq_true zz
              injection z' with z'
              omega
            refine ⟨_, rfl, _, _, rfl, rfl, _, rfl, _, rfl, La, _, _, gg, rfl, rfl, hLz, ixN_nat (by rw [nvs_length]; omega), ms3.set gg (ms3.getD gg 0 + wj), _, gz.put0 hLaH, by rw [upd_ne hWne]; exact hWz, set_ok wj, by rw [List.length_set]; exact hml3, fun f => ?_, by rw [upd_ne (ne_of hrz hLz (fun z => nomatch z))]; exact hrz, rfl⟩
            rw [totL_set (by omega), hmt3 f, take_sum hgj, if_pos e, Nat.mul_add, Nat.add_assoc]
          · have e : ¬ wt.word gg = v := fun e => zz (decide_eq_true (by rw [e]))
            refine ⟨_, _, rfl, rfl, _, rfl, _, rfl, La, _, _, gg, rfl, rfl, hLz, ixN_nat (by rw [nvs_length]; omega), ms3.set gg (ms3.getD gg 0 + 0), _, gz.put0 hLaH, by rw [upd_ne hWne]; exact hWz, set_ok 0, by rw [List.length_set]; exact hml3, fun f => ?_, by rw [upd_ne (ne_of hrz hLz (fun z => nomatch z))]; exact hrz, rfl⟩
            rw [totL_set (by omega), hmt3 f, take_sum hgj, if_neg e]
            simp
        · rintro σ Hz ⟨ms3, z7, gz, hWz, hLz, hml3, hmt3, hrz, rfl⟩
          refine ⟨ms3, _, _, _, gz, hWz, hLz, hml3, fun f => ?_, rfl⟩
          rw [hmt3 f, nvs_length, List.take_length, totLj_succ, hwjd] <;> rfl
      · rintro σ Hy ⟨ms, y5, y6, y7, gw, hWw, hLw, hml, hmt, rfl⟩
        refine ⟨_, rfl, La, ms, _, _, _, _, _, gw, hLw, hml, ?_, rfl⟩
        rw [hmt, nvs_length, ← htot]
        unfold totLj totL
        congr 1
        refine List.map_congr_left fun p _ => ?_
        show ws.getD p 0 * stepF wt v (fun p => cnt wt p (hs.drop (i + 1))) p = ws.getD p 0 * cnt wt p (hs.drop i)
        rw [hdrop] <;> rfl
    · rintro σ Hx ⟨W, ws, x3, x4, x5, x6, x7, g, hWx, hwl, htot, rfl⟩
      rw [nvs_length, List.drop_length] at htot
      refine ⟨_, rfl, W, ws.map (fun g : Nat => (g : Int)), rfl, by rw [← nvs_map]; exact .of hWx, ?_⟩
      have e : ws.sum = cnt wt 0 hs := by rw [← totL_sum]; exact htot
      rw [nvs_sum, e]
      exact q _ g
end
end K75
end
section
set_option Elab.async false
set_option linter.all false
set_option maxRecDepth 100000
set_option maxHeartbeats 4000000
/-! watches begun elsewhere -/
namespace K75
open PySem PySem.Spec PyProof.Rows L2 HW HX
abbrev scSpot : Scope := { kind := .function, names := [(".0", .local), ("spot", .local), ("tuple", .globalImplicit), ("names", .cell), ("watch", .cell)], isGenerator := false, isCoroutine := false, more := [] }
theorem names_sw {n p : Nat} (hp : p < n) : ((List.range n).set 0 p).set p 0 = (List.range n).map (sw p) := by
  apply List.ext_getElem (by simp)
  intro i h1 h2
  rw [List.getElem_set, List.getElem_set, List.getElem_map, List.getElem_range]
  unfold sw
  by_cases e1 : p = i
  · rw [if_pos e1]
    by_cases e2 : i = 0
    · rw [if_pos e2]
      omega
    · rw [if_neg e2, if_pos e1.symm]
  · rw [if_neg e1]
    by_cases e2 : 0 = i
    · rw [if_pos e2, if_pos e2.symm]
    · rw [if_neg e2, if_neg (fun z => e2 z.symm), if_neg (fun z => e1 z.symm)]
theorem rgV_nvs (n : Nat) : rgV 0 (n : Int) = nvs (List.range n) := by
  unfold rgV nvs
  rw [show ((n : Int) - 0).toNat = n by omega]
  exact List.map_congr_left fun x _ => by rw [Int.zero_add]
theorem sw_at {n p i : Nat} (hi : i < n) : ((List.range n).map (sw p))[i]? = some (sw p i) := by
  rw [List.getElem?_map, List.getElem?_range hi] <;> rfl
section
variable {P : Program} {w : World} {K : PySem.W.Frag} {mg : Str → Option Value} {base : Heap} {CW CO : Addr}
theorem sc_begun_at : FnScope ["watch", "place", "names", "moves", "spot", "goal"] ["watch", "place"] (C8.fnScope s_law_begun_at) := C8.fnScope_by (by decide +kernel)
def spBegunAt : Sp := fun vs H Q _ => ∃ (a : Addr) (p : Nat) (wt : Wt) (k : Nat), vs = [.ref a, .int (p : Int)] ∧ PairAt H a wt ∧ wt.Ok k ∧ p < wt.n ∧ ∀ H' b, Gr [] H H' → PairAt H' b (swapW wt p) → Q (.ref b) H'
theorem c_begun_at (T : Txt K mg base CW CO) : C8.Cal P w K mg base 1 "_law_begun_at" spBegunAt [] := by
  obtain ⟨f, fd, D, df⟩ := T.d_law_begun_at
  refine C8.cal0 D (D.fn.binds (ps := ["watch", "place"]) df fun _ _ _ _ _ _ us hl => match us, hl with | [_, _], _ => rfl) .nil sc_begun_at (fun vs H Q E h => ?_) (fun cdv A outer s H vs Q E hr h => ?_)
  · obtain ⟨a, p, wt, k, rfl, _⟩ := h
    rfl
  · obtain ⟨a, p, wt, k, rfl, hpair, ok, hpn, q⟩ := h
    refine ⟨_, pss_cons (ps_set (i := 2) sc_begun_at.nd rfl (Or.inr rfl) (pe_listRg (by rfl) (by rfl) T.z_list (prg_1 (by rfl) T.z_range (pe_callB call_len_seq (by rfl) T.z_len PySem.boot_len (pa_cons (pe_ix ix_tup (pv 0) pe_int (fun _ _ => rfl)) pa_nil)))))
      (pss_cons (ps_asg (pe_tup (pa_cons (pv 1) (pa_cons pe_int pa_nil))) (pg_tup rfl (pgs_cons (pg_sub (pv 2) pe_int set_list) (pgs_cons (pg_sub (pv 2) (pv 1) set_list) pgs_nil))))
      (pss_cons (ps_set (i := 3) sc_begun_at.nd rfl (Or.inl rfl) (pe_callTy call_tuple_of (by rfl) T.z_tuple (by decide +kernel) (pa_cons (pe_lc (own := [("spot", 4)]) (g := gName 4) (tt := tYes) (by rfl) sc_begun_at.nd (pi_range1 rfl T.z_range (pa_cons (pe_callB call_len_seq (by rfl) T.z_len PySem.boot_len (pa_cons (pv 2) pa_nil)) pa_nil)) (blkOk_by (own := [("spot", 4)]) (N := ["watch", "place", "names", "moves", "spot", "goal"]) (sc := C8.fnScope s_law_begun_at) (by decide +kernel))
        (fun _ _ _ _ _ => pg_name (i := 4) sc_begun_at.nd rfl (Or.inl rfl)) (fun _ _ _ _ _ => pts_nil)
        (fun _ _ _ _ _ => pe_callTy (r := rTupOf K) call_tuple_of (by rfl) T.z_tuple (by decide +kernel) (pa_cons (pe_lc (own := [("goal", 5)]) (g := gName 5) (tt := tYes) (wi := iTup K (tOp (rIxT K) (tOp (rIxT K) (tVar 0) (tC (.int 0))) (tOp (rIxL K) (tVar 2) (tVar 4)))) (te := tOp (rIxL K) (tVar 2) (tVar 5)) (by rfl) sc_begun_at.nd (pi_tup (pe_ix ix_tup (pe_ix ix_tup (pv 0) pe_int (fun _ _ => rfl)) (pe_ix ix_list (pv 2) (pv 4) (fun _ _ => rfl)) (fun _ _ => rfl))) (blkOk_by (own := [("goal", 5)]) (N := ["watch", "place", "names", "moves", "spot", "goal"]) (sc := scSpot) (by decide +kernel))
          (fun _ _ _ _ _ => pg_name (i := 5) sc_begun_at.nd rfl (Or.inl rfl)) (fun _ _ _ _ _ => pts_nil) (fun _ _ _ _ _ => pe_ix ix_list (pv 2) (pv 5) (fun _ _ => rfl))) pa_nil))) pa_nil)))
      (pss_one (ps_ret (pe_tup (pa_cons (pv 3) (pa_cons (pe_callTy call_tuple_of (by rfl) T.z_tuple (by decide +kernel) (pa_cons (pe_lc (own := [("spot", 4)]) (g := gName 4) (tt := tYes) (te := tOp (rIxT K) (tOp (rIxT K) (tVar 0) (tC (.int 1))) (tOp (rIxL K) (tVar 2) (tVar 4))) (by rfl) sc_begun_at.nd (pi_range1 rfl T.z_range (pa_cons (pe_callB call_len_seq (by rfl) T.z_len PySem.boot_len (pa_cons (pv 2) pa_nil)) pa_nil)) (blkOk_by (own := [("spot", 4)]) (N := ["watch", "place", "names", "moves", "spot", "goal"]) (sc := C8.fnScope s_law_begun_at) (by decide +kernel))
        (fun _ _ _ _ _ => pg_name (i := 4) sc_begun_at.nd rfl (Or.inl rfl)) (fun _ _ _ _ _ => pts_nil) (fun _ _ _ _ _ => pe_ix ix_tup (pe_ix ix_tup (pv 0) pe_int (fun _ _ => rfl)) (pe_ix ix_list (pv 2) (pv 4) (fun _ _ => rfl)) (fun _ _ => rfl))) pa_nil)) pa_nil))))))), ?_⟩
    obtain ⟨tm, tw, ha, hdat⟩ := id hpair
    obtain ⟨rows, hr1, hr2, hr3⟩ := hdat.rows
    have hrl : (rows.map V.ref).length = wt.n := by rw [List.length_map, hr2] <;> rfl
    have n1 := ok.n1
    have n6 := ok.n6
    refine ⟨_, rfl, a, _, 0, .ref tm, rfl, rfl, .of ha, atI_of (i := 0) rfl, tm, _, rfl, .inr (.of hr1), _, rfl, ?_, fun l hl => ?_⟩
    · rw [hrl]
      exact .of_le (by omega) (by omega) (by omega) (by omega)
    rw [hrl, rgV_nvs]
    have gl0 : Gr [] H (upd H l (.lst (nvs (List.range wt.n)))) := .new hl
    have hl1 : upd H l (.lst (nvs (List.range wt.n))) l = some (.lst (nvs (List.range wt.n))) := upd_same
    generalize upd H l (.lst (nvs (List.range wt.n))) = H1 at gl0 hl1 ⊢
    refine ⟨_, rfl, by show 2 ≤ sizeLine; rw [sizeLine_eq]; omega, fun t2 ht2 => ?_⟩
    have g2 : Gr [] H1 (upd H1 t2 (.tup [V.int (p : Int), .int 0])) := .new ht2
    have hl2 := g2.all _ _ hl1
    have ht2' : upd H1 t2 (.tup [V.int (p : Int), .int 0]) t2 = some (.tup [V.int (p : Int), .int 0]) := upd_same
    generalize upd H1 t2 (.tup [V.int (p : Int), .int 0]) = H2 at g2 hl2 ht2' ⊢
    have hlH : H l = none := hl
    refine ⟨t2, _, rfl, .of ht2', rfl, _, _, rfl, _, rfl, l, _, 0, 0, rfl, rfl, hl2, ixN_nat (j := 0) (by rw [nvs_length, List.length_range]; omega), _, _, rfl, _, rfl, _, rfl, l, _, _, p, rfl, rfl, upd_same, ixN_nat (by rw [List.length_set, nvs_length, List.length_range]; omega), rfl, ?_⟩
    have e3 : upd (upd H2 l (.lst ((nvs (List.range wt.n)).set 0 (.int (p : Int))))) l (.lst (((nvs (List.range wt.n)).set 0 (.int (p : Int))).set p (.int 0))) = upd H2 l (.lst (nvs ((List.range wt.n).map (sw p)))) := by
      rw [upd_upd, nvs_set, show (V.int 0) = .int ((0 : Nat) : Int) from rfl, nvs_set, names_sw hpn]
    rw [e3]
    have g3 : Gr [] H (upd H2 l (.lst (nvs ((List.range wt.n).map (sw p))))) := (gl0.trans g2).put0 hlH
    have hl3 : upd H2 l (.lst (nvs ((List.range wt.n).map (sw p)))) l = some (.lst (nvs ((List.range wt.n).map (sw p)))) := upd_same
    generalize upd H2 l (.lst (nvs ((List.range wt.n).map (sw p)))) = H3 at g3 hl3 ⊢
    have hnl : (nvs ((List.range wt.n).map (sw p))).length = wt.n := by rw [nvs_length, List.length_map, List.length_range]
    have hnat : (((nvs ((List.range wt.n).map (sw p))).length : Int)).toNat = wt.n := by rw [hnl]; omega
    refine ⟨_, rfl, l, _, rfl, .inl (.of hl3), _, rfl, by rw [hnl]; omega, by rw [hnl]; omega, fun D hD => ?_⟩
    refine lc_it walk_range (fun i Hx => Gr [] H3 Hx ∧ ∃ ts : List Addr, ts.length = i ∧ Hx D = some (.lst (ts.map V.ref)) ∧ ∀ (j : Nat) (t : Addr), ts[j]? = some t → Hx t = some (.tup (nvs ((wt.goals (sw p j)).map (sw p))))) ⟨.new hD, [], rfl, upd_same, fun j t e => by simp at e⟩ (fun _ _ _ _ => True.intro) ?_ ?_
    · rintro i x Hy Hx hi ⟨g, ts, hts, hDx, hall⟩ ⟨rfl, rfl⟩
      rw [hnat] at hi
      have hsw := sw_lt hpn hi
      have gg := g3.trans g
      have hlx := g.all _ _ hl3
      obtain ⟨rows2, rr, e1, e2, e4⟩ := (hdat.gr gg).row hsw
      have e0 : ((0 : Int) + (i : Nat)) = (i : Int) := by omega
      refine ⟨rfl, _, rfl, a, _, 0, .ref tm, rfl, rfl, .of (gg.tup ha), atI_of (i := 0) rfl, _, rfl, _, rfl, l, _, _, .int (sw p i : Int), rfl, rfl, .of hlx, by rw [e0]; exact atI_of (nvs_at (sw_at hi)), tm, _, _, .ref rr, rfl, rfl, .of e1, atI_of (by rw [List.getElem?_map, e2] <;> rfl), rr, rfl, ⟨_, .of e4⟩, fun D2 hD2 => ?_⟩
      refine lc_it (walk_tup (xs := nvs (wt.goals (sw p i)))) (fun m Hu => Gr [] Hx Hu ∧ Hu D2 = some (.lst (nvs (((wt.goals (sw p i)).take m).map (sw p))))) ⟨.new hD2, upd_same⟩ (fun m Hu _ h => .of (h.1.tup e4)) ?_ ?_
      · rintro m u Hv Hu hm ⟨gu, hDu⟩ ⟨rfl, hu⟩
        obtain ⟨gg2, hgg, rfl⟩ := nvs_get hu
        have hgn := ok.goals_lt (List.mem_of_getElem? hgg)
        have htk : (wt.goals (sw p i)).take (m + 1) = (wt.goals (sw p i)).take m ++ [gg2] := by rw [List.take_add_one, hgg] <;> rfl
        refine ⟨rfl, _, rfl, _, rfl, l, _, _, .int (sw p gg2 : Int), rfl, rfl, .of (gu.all _ _ hlx), atI_of (nvs_at (sw_at hgn)), _, hDu, ?_, gu.put0 hD2, ?_⟩
        · have := ok.goals_len hsw
          have := ok.k4
          rw [nvs_length, List.length_map, List.length_take, sizeLine_eq]
          omega
        · rw [upd_same, htk, List.map_append]
          unfold nvs
          rw [List.map_append] <;> rfl
      · rintro Hu ⟨gu, hDu⟩
        rw [nvs_length, List.take_length] at hDu
        refine ⟨D2, _, rfl, .inl ⟨.of hDu, fun t ht => ?_⟩⟩
        have gt : Gr [] Hx (upd Hu t (.tup (nvs ((wt.goals (sw p i)).map (sw p))))) := gu.trans (.new ht)
        have hDt := gt.all _ _ hDx
        refine ⟨_, hDt, by rw [List.length_map, sizeLine_eq]; omega, (g.trans gt).put0 hD, ts ++ [t], by rw [List.length_append, hts] <;> rfl, by rw [upd_same, List.map_append] <;> rfl, fun j t' q1 => ?_⟩
        have hk : upd Hu t (.tup (nvs ((wt.goals (sw p i)).map (sw p)))) t' = some (.tup (nvs ((wt.goals (sw p j)).map (sw p)))) := by
          by_cases hj : j < ts.length
          · rw [List.getElem?_append_left hj] at q1
            exact gt.tup (hall j t' q1)
          · have hj2 : j = ts.length := by
              have := (List.getElem?_eq_some_iff.mp q1).1
              rw [List.length_append, List.length_singleton] at this
              omega
            subst hj2
            rw [List.getElem?_append_right (Nat.le_refl _), Nat.sub_self] at q1
            cases q1
            rw [hts]
            exact upd_same
        rw [upd_ne (ne_of hk hDt (fun z => nomatch z))]
        exact hk
    · rintro Hx ⟨g, ts, hts, hDx, hall⟩
      rw [hnat] at hts
      refine ⟨D, _, rfl, .inl ⟨.of hDx, fun nm hnm => ?_⟩⟩
      have gm : Gr [] Hx (upd Hx nm (.tup (ts.map V.ref))) := .new hnm
      have hnm1 : upd Hx nm (.tup (ts.map V.ref)) nm = some (.tup (ts.map V.ref)) := upd_same
      generalize upd Hx nm (.tup (ts.map V.ref)) = H4 at gm hnm1 ⊢
      have g4 := (g3.trans g).trans gm
      have hl4 := (g.trans gm).all _ _ hl3
      refine ⟨_, rfl, _, rfl, l, _, rfl, .inl (.of hl4), _, rfl, by rw [hnl]; omega, by rw [hnl]; omega, fun D3 hD3 => ?_⟩
      refine lc_it walk_range (fun i Hy => Gr [] H4 Hy ∧ Hy D3 = some (.lst (nvs ((List.range i).map fun s => wt.word (sw p s))))) ⟨.new hD3, upd_same⟩ (fun _ _ _ _ => True.intro) ?_ ?_
      · rintro i x Hy0 Hy hi ⟨gy, hDy⟩ ⟨rfl, rfl⟩
        rw [hnat] at hi
        have hsw := sw_lt hpn hi
        have gg := g4.trans gy
        have e0 : ((0 : Int) + (i : Nat)) = (i : Int) := by omega
        refine ⟨rfl, _, rfl, a, _, 1, .ref tw, rfl, rfl, .of (gg.tup ha), atI_of (i := 1) rfl, _, rfl, _, rfl, l, _, _, .int (sw p i : Int), rfl, rfl, .of (gy.all _ _ hl4), by rw [e0]; exact atI_of (nvs_at (sw_at hi)), tw, _, _, _, rfl, rfl, .of (gg.tup hdat.words), atI_of (word_at ok hsw), _, hDy, by rw [nvs_length, List.length_map, List.length_range, sizeLine_eq]; omega, gy.put0 hD3, ?_⟩
        rw [upd_same, List.range_succ, List.map_append]
        unfold nvs
        rw [List.map_append] <;> rfl
      · rintro Hy ⟨gy, hDy⟩
        rw [hnat] at hDy
        refine ⟨D3, _, rfl, .inl ⟨.of hDy, fun nw hnw => ⟨by show 2 ≤ sizeLine; rw [sizeLine_eq]; omega, fun b hb => ?_⟩⟩⟩
        have gb : Gr [] Hy (upd (upd Hy nw (.tup (nvs ((List.range wt.n).map fun s => wt.word (sw p s))))) b (.tup [V.ref nm, .ref nw])) := (Gr.new hnw).trans (.new hb)
        have gall := gy.trans gb
        refine q _ b (g4.trans gall) ⟨nm, nw, upd_same, ⟨ts, gall.tup hnm1, by rw [hts]; simp [swapW], fun j t l' e1 e2 => ?_⟩, ?_⟩
        · have hj : j < wt.n := by rw [← hts]; exact (List.getElem?_eq_some_iff.mp e1).1
          have e5 : (swapW wt p).mv[j]? = some ((wt.goals (sw p j)).map (sw p)) := by
            show ((List.range wt.n).map fun s => (wt.goals (sw p s)).map (sw p))[j]? = _
            rw [List.getElem?_map, List.getElem?_range hj] <;> rfl
          rw [e5] at e2
          cases e2
          exact (gm.trans gall).tup (hall j t e1)
        · rw [upd_ne (ne_of_none upd_same hb), upd_same] <;> rfl
end
end K75
end
section
set_option Elab.async false
set_option linter.all false
set_option maxRecDepth 100000
set_option maxHeartbeats 4000000
/-! there; the law's text -/
namespace K75
open PySem PySem.Spec PyProof.Rows L2 HW HX
theorem tabs_grT {ms : List Addr} {H H' : Hp} (t : LamX.Tabs TT0 H) (g : Gr ms H H') (h : 178 ∉ ms) : LamX.Tabs TT0 H' := fun pr hpr => by
  obtain ⟨ps, e1, e2, e3⟩ := t pr hpr
  have ep : pr.1 = 178 := by
    rw [List.mem_singleton] at hpr
    rw [hpr]
  refine ⟨ps, g _ _ e1 fun z => absurd (ep ▸ z) h, e2, fun pos cv hc => ?_⟩
  obtain ⟨c, e4, e5⟩ := e3 pos cv hc
  exact ⟨c, e4, g _ _ e5 fun _ => True.intro⟩
theorem tab_tbl {H : Hp} (t : LamX.Tabs TT0 H) : ∃ ps, H 178 = some (.tbl ps) := let ⟨ps, h, _⟩ := t _ (List.mem_singleton.mpr rfl); ⟨ps, h⟩
section
variable {P : Program} {w : World} {K : PySem.W.Frag} {mg : Str → Option Value} {base : Heap} {CW CO : Addr}
theorem sc_there : FnScope ["place", "places", "item"] ["place", "places"] (C8.fnScope s_law_there) := C8.fnScope_by (by decide +kernel)
def spThere (K : PySem.W.Frag) : Sp := fun vs H Q _ => ∃ (p : Nat) (a : Addr) (wt : Wt) (L : List Nat), vs = [.int (p : Int), .ref a] ∧ SqT K H a (nvs L) ∧ Lot wt L ∧ wt.n ≤ 6 ∧ p < wt.n ∧ ∀ H' b, Gr [] H H' → H b = none → H' b = some (.lst (nvs (there wt.n p L))) → Q (.ref b) H'
theorem c_there (T : Txt K mg base CW CO) : C8.Cal P w K mg base 1 "_law_there" (spThere K) [] := by
  obtain ⟨f, fd, D, df⟩ := T.d_law_there
  refine C8.cal0 D (D.fn.binds (ps := ["place", "places"]) df fun _ _ _ _ _ _ us hl => match us, hl with | [_, _], _ => rfl) .nil sc_there (fun vs H Q E h => ?_) (fun cdv A outer s H vs Q E hr h => ?_)
  · obtain ⟨p, a, wt, L, rfl, _⟩ := h
    rfl
  · obtain ⟨p, a, wt, L, rfl, ha, lot, n6, hpn, q⟩ := h
    refine ⟨_, pss_one (ps_ret (pe_callB cr_sortedI (by rfl) T.z_sorted (by decide +kernel) (pa_cons (pe_lc (own := [("item", 2)]) (g := gName 2) (tt := tYes) (by rfl) sc_there.nd (pi_tup (pv 1)) (blkOk_by (own := [("item", 2)]) (N := ["place", "places", "item"]) (sc := C8.fnScope s_law_there) (by decide +kernel))
        (fun _ _ _ _ _ => pg_name (i := 2) sc_there.nd rfl (Or.inl rfl)) (fun _ _ _ _ _ => pts_nil) (fun _ _ _ _ _ => pe_ifExp (pt_cmpR op_eq (pv 2) pe_int (nomark _)) (pv 0) (pe_ifExp (pt_cmpR op_eq (pv 2) (pv 0) (nomark _)) pe_int (pv 2)))) pa_nil))), ?_⟩
    have hll : L.length ≤ 6 := by
      have h1 : L.length ≤ (List.range wt.n).length := length_le_of_subset (lot.asc.imp fun h => Nat.ne_of_lt h) fun g hg => List.mem_range.mpr (lot.lt g hg)
      rw [List.length_range] at h1
      omega
    refine ⟨_, rfl, a, rfl, ⟨_, ha⟩, fun D hD => ?_⟩
    refine lc_it (walk_tup (xs := nvs L)) (fun i Hx => Gr [] H Hx ∧ Hx D = some (.lst (nvs ((L.take i).map (sw p))))) ⟨.new hD, upd_same⟩ (fun i Hx _ h => h.1.sqT ha) ?_ ?_
    · rintro i x Hy Hx hi ⟨g, hDx⟩ ⟨rfl, hx⟩
      obtain ⟨y, hy, rfl⟩ := nvs_get hx
      have htk : L.take (i + 1) = L.take i ++ [y] := by rw [List.take_add_one, hy] <;> rfl
      have fin : ∀ z : Nat, z = sw p y → ∃ acc, Hx D = some (.lst acc) ∧ acc.length < sizeLine ∧ (Gr [] H (upd Hx D (.lst (acc ++ [V.int (z : Int)]))) ∧ upd Hx D (.lst (acc ++ [V.int (z : Int)])) D = some (.lst (nvs ((L.take (i + 1)).map (sw p))))) := fun z hz => by
        refine ⟨_, hDx, by rw [nvs_length, List.length_map, List.length_take, sizeLine_eq]; omega, g.put0 hD, ?_⟩
        rw [upd_same, htk, List.map_append, hz]
        unfold nvs
        rw [List.map_append] <;> rfl
      refine ⟨rfl, _, rfl, rfl, _, rfl, ite2 (fun z => ⟨_, rfl, fin p ?_⟩) (fun z => ?_)⟩
      · have z' := of_decide_eq_true z
        injection z' with z'
        have : y = 0 := by omega
        rw [this, sw_zero]
      · have hy0 : y ≠ 0 := fun e => z (decide_eq_true (by rw [e] <;> rfl))
        refine ⟨_, rfl, _, rfl, rfl, _, rfl, ite2 (fun z2 => fin 0 ?_) (fun z2 => ⟨_, rfl, fin y ?_⟩)⟩
        · have z' := of_decide_eq_true z2
          injection z' with z'
          have : y = p := by omega
          unfold sw
          rw [if_neg hy0, if_pos this]
        · have hyp : y ≠ p := fun e => z2 (decide_eq_true (by rw [e] <;> rfl))
          unfold sw
          rw [if_neg hy0, if_neg hyp]
    · rintro Hx ⟨g, hDx⟩
      rw [nvs_length, List.take_length] at hDx
      refine ⟨D, (L.map (sw p)).map (fun g : Nat => (g : Int)), rfl, by rw [← nvs_map]; exact .of hDx, fun ys b hperm hasc hb => ?_⟩
      have hys : ys.map V.int = nvs (there wt.n p L) := sorted_nvs hasc (hperm.nodup_iff.mpr (by
          rw [List.map_map]
          exact List.Pairwise.map _ (fun x y hxy z => hxy (sw_inj (p := p) (by
            have z' : ((sw p x : Nat) : Int) = ((sw p y : Nat) : Int) := z
            omega))) (lot.asc.imp fun h => Nat.ne_of_lt h))) asc_filter fun z => by
        rw [hperm.mem_iff, List.mem_map]
        constructor
        · rintro ⟨y, hy, rfl⟩
          obtain ⟨x, hx, rfl⟩ := List.mem_map.mp hy
          exact ⟨_, (mem_there hpn lot.lt).mpr (by rw [sw_sw]; exact hx), rfl⟩
        · rintro ⟨y, hy, rfl⟩
          exact ⟨y, List.mem_map.mpr ⟨sw p y, (mem_there hpn lot.lt).mp hy, sw_sw p y⟩, rfl⟩
      exact q _ b (g.trans (.new hb)) (g.none0 hb) (by rw [upd_same, hys])
end
end K75
end
section
set_option Elab.async false
set_option linter.all false
set_option maxRecDepth 100000
set_option exponentiation.threshold 1000
set_option maxHeartbeats 4000000
/-! the law -/
namespace K75
open PySem PySem.Spec PyProof.Rows L2 HW HX
theorem cnt_le {w : Wt} {k : Nat} (h : w.Ok k) : ∀ (hs : List Nat) (p : Nat), cnt w p hs ≤ 4 ^ hs.length
  | [], _ => Nat.le_refl _
  | v :: hs, p => by
    show ((w.goals p).map fun g => if w.word g = v then cnt w g hs else 0).sum ≤ 4 ^ (hs.length + 1)
    have hl : (w.goals p).length ≤ 4 := by
      by_cases hp : p < w.n
      · rw [h.goals_len hp]
        exact h.k4
      · unfold Wt.goals
        rw [List.getD_eq_getElem?_getD, List.getElem?_eq_none (by exact Nat.le_of_not_lt hp)]
        simp
    have : ∀ l : List Nat, (l.map fun g => if w.word g = v then cnt w g hs else 0).sum ≤ l.length * 4 ^ hs.length := fun l => by
      induction l with
      | nil => simp
      | cons g l ih =>
        rw [List.map_cons, List.sum_cons, List.length_cons, Nat.add_mul, Nat.one_mul]
        have := cnt_le h hs g
        split <;> omega
    have h1 := this (w.goals p)
    have h2 := Nat.mul_le_mul_right (4 ^ hs.length) hl
    rw [Nat.pow_succ]
    omega
theorem cnt_bits {w : Wt} {k : Nat} (h : w.Ok k) {hs : List Nat} (hl : hs.length ≤ 300) (p : Nat) : ((cnt w p hs : Int)).natAbs < 2 ^ 601 := by
  have h1 := cnt_le h hs p
  have h2 : 4 ^ hs.length ≤ 4 ^ 300 := Nat.pow_le_pow_right (by omega) hl
  have h3 : (4 : Nat) ^ 300 < 2 ^ 601 := by decide +kernel
  rw [Int.natAbs_natCast]
  omega
theorem tab_nin {H : Hp} {d l c : Addr} (t : LamX.Tabs TT0 H) (T : TapeAt H d l c) : 178 ∉ [d, l] := fun z => by
  obtain ⟨ps, h⟩ := tab_tbl t
  obtain ⟨⟨r, tt, h1⟩, ⟨ns, h2⟩, _⟩ := T
  rcases List.mem_cons.mp z with e | z
  · rw [← e, h] at h1
    cases h1
  · rw [← List.mem_singleton.mp z, h] at h2
    cases h2
/-- a slice of a tuple, whole or not -/
theorem slice_ok {K : PySem.W.Frag} {H : Hp} {a : Addr} {xs : List V} {lo hi : Option Int} {Q : VK} (h : H a = some (.tup xs)) (q : ∀ H' f, Gr [] H H' → H' f = some (.tup (cutV xs lo hi)) → Q (.ref f) H') : rSlA K (.ref a) lo hi H Q := by
  refine ⟨a, xs, rfl, .of h, fun ⟨h1, h2⟩ => q H a (.refl _ _) ?_, fun _ f hf => q _ f (.new hf) upd_same⟩
  unfold cutV
  rw [h1, h2, List.drop_zero, Nat.sub_zero, List.take_length]
  exact h
theorem cut_to {hs : List Nat} {s : Nat} (h : s ≤ hs.length) : cutV (nvs hs) none (some (s : Int)) = nvs (hs.take s) := by
  unfold cutV
  rw [HT.sIx_none, HT.sIx_nat, List.drop_zero, Nat.sub_zero, nvs_length, Nat.min_eq_left h]
  unfold nvs
  rw [List.map_take]
theorem cut_from {hs : List Nat} {s : Nat} (h : s ≤ hs.length) : cutV (nvs hs) (some (s : Int)) none = nvs (hs.drop s) := by
  unfold cutV
  rw [HT.sIx_none, HT.sIx_nat, nvs_length, Nat.min_eq_left h]
  unfold nvs
  rw [List.map_drop, List.take_of_length_le (by rw [List.length_drop, List.length_map]; omega)]
theorem cast2 (r : Nat) : (2 : Int) + (r : Int) = ((2 + r : Nat) : Int) := by omega
/-- what stands through a lap of the law -/
structure St (CW : Addr) (K : PySem.W.Frag) (H : Hp) (d l c aw p hb f1 f2 : Addr) (wt : Wt) (hs : List Nat) (s : Nat) : Prop where
  tape : TapeAt H d l c
  tabs : LamX.Tabs TT0 H
  pair : PairAt H aw wt
  watch : WatchAt CW H p wt
  heard : H hb = some (.tup (nvs hs))
  first : H f1 = some (.tup (nvs (hs.take s)))
  second : H f2 = some (.tup (nvs (hs.drop s)))
section
variable {CW : Addr} {K : PySem.W.Frag} {H H' : Hp} {d l c aw p hb f1 f2 : Addr} {wt : Wt} {hs : List Nat} {s : Nat}
theorem St.gx {ms : List Addr} (S : St CW K H d l c aw p hb f1 f2 wt hs s) (g : Gx ms H H') (T : LamX.Tabs TT0 H') (hd : d ∉ ms) (hl : l ∉ ms) (hc : c ∉ ms) (hp : p ∉ ms) : St CW K H' d l c aw p hb f1 f2 wt hs s :=
  ⟨S.tape.gx g hd hl hc, T, S.pair.gx g, S.watch.gx g hp, g.tup S.heard, g.tup S.first, g.tup S.second⟩
theorem St.gr0 (S : St CW K H d l c aw p hb f1 f2 wt hs s) (g : Gr [] H H') : St CW K H' d l c aw p hb f1 f2 wt hs s :=
  S.gx g.gx (tabs_gr S.tabs g) (by simp) (by simp) (by simp) (by simp)
theorem St.gx0 (S : St CW K H d l c aw p hb f1 f2 wt hs s) (g : Gx [] H H') (T : LamX.Tabs TT0 H') : St CW K H' d l c aw p hb f1 f2 wt hs s :=
  S.gx g T (by simp) (by simp) (by simp) (by simp)
end
theorem notin3 {H : Hp} {a o l h : Addr} {u : HO} (ha : H a = some u) (ho : H o = none) (hl : H l = none) (hh : H h = none) : a ∉ [o, l, h] := fun z => by
  rcases List.mem_cons.mp z with e | z
  · rw [e, ho] at ha
    cases ha
  · rcases List.mem_cons.mp z with e | z
    · rw [e, hl] at ha
      cases ha
    · rw [List.mem_singleton.mp z, hh] at ha
      cases ha
theorem notin3' {H : Hp} {a o l h : Addr} (ha : H a = none) {u v w : HO} (ho : H o = some u) (hl : H l = some v) (hh : H h = some w) : a ∉ [o, l, h] := fun z => by
  rcases List.mem_cons.mp z with e | z
  · rw [← e, ha] at ho
    cases ho
  · rcases List.mem_cons.mp z with e | z
    · rw [← e, ha] at hl
      cases hl
    · rw [← List.mem_singleton.mp z, ha] at hh
      cases hh
theorem fs4_hear (p l h t : Addr) : (fs4 p l h t).lookup ("hear" : Str) = none := by
  have e1 : (("hear" : Str) == "own_watch") = false := by decide +kernel
  have e2 : (("hear" : Str) == "own_line") = false := by decide +kernel
  have e3 : (("hear" : Str) == "own_heard") = false := by decide +kernel
  have e4 : (("hear" : Str) == "own_later") = false := by decide +kernel
  simp [fs4, List.lookup, e1, e2, e3, e4]
theorem fs4_can (p l h t : Addr) : (fs4 p l h t).lookup ("can_hear" : Str) = none := by
  have e1 : (("can_hear" : Str) == "own_watch") = false := by decide +kernel
  have e2 : (("can_hear" : Str) == "own_line") = false := by decide +kernel
  have e3 : (("can_hear" : Str) == "own_heard") = false := by decide +kernel
  have e4 : (("can_hear" : Str) == "own_later") = false := by decide +kernel
  simp [fs4, List.lookup, e1, e2, e3, e4]
theorem fs4_at (p l h t : Addr) : (fs4 p l h t).lookup ("at" : Str) = none := by
  have e1 : (("at" : Str) == "own_watch") = false := by decide +kernel
  have e2 : (("at" : Str) == "own_line") = false := by decide +kernel
  have e3 : (("at" : Str) == "own_heard") = false := by decide +kernel
  have e4 : (("at" : Str) == "own_later") = false := by decide +kernel
  simp [fs4, List.lookup, e1, e2, e3, e4]
theorem shapedL (ns : List Int) : SeqAt.shaped (.list (ns.map PyData.int)) = true := by
  have h1 := PySem.W.depthAll_ints ns
  have h2 : PyData.depth (.tuple (ns.map PyData.int)) ≤ 64 := by simp only [PyData.depth]; omega
  show (PyData.canLay0 (.tuple (ns.map PyData.int)) && decide (PyData.depth (.tuple (ns.map PyData.int)) ≤ 64)) = true
  rw [Bool.and_eq_true]
  exact ⟨by simp only [PyData.canLay0]; exact PySem.W.canLayAll0_ints ns, decide_eq_true h2⟩
theorem wfs_moves (tm tw : Addr) : (wfs tm tw).lookup ("own_moves" : Str) = some (.ref tm) := by simp [wfs, List.lookup]
theorem wfs_words (tm tw : Addr) : (wfs tm tw).lookup ("own_words" : Str) = some (.ref tw) := by
  have e : (("own_words" : Str) == "own_moves") = false := by decide +kernel
  simp [wfs, List.lookup, e]
theorem iteD {c A B : Prop} [Decidable c] (hc : c) (h : A) : if decide c = true then A else B := by
  rw [decide_eq_true hc]
  exact iteT h
theorem _root_.HX.ObsAt.nk {CO CW : Addr} {K : PySem.W.Frag} {H : Hp} {o l h p : Addr} {w : Wt} {L : List Nat} {nh : Nat} (O : ObsAt CO CW K H o l h p w L nh) : ∀ m ∈ [o, l, h], ∀ kvs, H m ≠ some (.dK kvs) := fun m hm kvs e => by
  obtain ⟨⟨dx, t, h1⟩, _, ⟨items, tr, h3, _⟩, ⟨hs, h12, _⟩, _⟩ := O
  simp only [List.mem_cons, List.not_mem_nil, or_false] at hm
  rcases hm with rfl | rfl | rfl
  · rw [h1] at e
    cases e
  · rw [h3] at e
    cases e
  · rw [h12] at e
    cases e
/-- all of them stand apart from what is written by an observer -/
theorem St.obs {CW : Addr} {K : PySem.W.Frag} {H H' : Hp} {d l c aw p hb f1 f2 : Addr} {wt : Wt} {hs : List Nat} {s : Nat} {o l1 h1 : Addr} (S : St CW K H d l c aw p hb f1 f2 wt hs s) (g : Gr [o, l1, h1] H H') (n : ∀ x ∈ [d, l, c, 178, p], x ∉ [o, l1, h1]) : St CW K H' d l c aw p hb f1 f2 wt hs s :=
  S.gx g.gx (tabs_grT S.tabs g (n 178 (by simp))) (n d (by simp)) (n l (by simp)) (n c (by simp)) (n p (by simp))
section
variable {P : Program} {w : World} {K : PySem.W.Frag} {mg : Str → Option Value} {base : Heap} {CW CO : Addr}
abbrev NL : List Str := ["script", "tape", "lap", "kinds", "watch", "here", "told", "heard", "size", "first", "second", "places", "several", "place", "there", "begun", "one", "other", "word", "mine", "yours", "falls"]
theorem sc_law : FnScope NL ["script"] (C8.fnScope s_law) := C8.fnScope_by (by decide +kernel)
def spLaw (K : PySem.W.Frag) : Sp := fun vs H Q _ => ∃ (a : Addr) (ns : List Int), vs = [.ref a] ∧ SqL K H a (ns.map V.int) ∧ ns.length ≤ 63 ∧ H 178 = some (.tbl #[]) ∧ ∀ H', Q (.bl true) H'
theorem f_law {f : Addr} {fd : FuncData} (T : Txt K mg base CW CO) (F : C8.Fun K "law" "law" s_law f fd) : FnOk P w K mg base C8.CX0 21 f fd ["script"] (spLaw K) := by
  refine C8.fn0 F sc_law (fun vs H Q E h => ?_) (fun cdv A outer s H vs Q E hr h => ?_)
  · obtain ⟨a, ns, rfl, _⟩ := h
    rfl
  · obtain ⟨a, ns, rfl, ha, hn, htbl, q⟩ := h
    refine ⟨_, pss_cons (ps_set (i := 1) sc_law.nd rfl (Or.inl rfl) (C8.pe_c (c_begun T) hr (by decide) (by rfl) (pa_cons (pv 0) pa_nil)))
      (pss_cons (ps_for PassesOwn.never rfl (pi_range1 rfl T.z_range (pa_cons (pe_op op_add pe_int (pe_callB (call_min2 rfl) (by rfl) T.z_min (by decide +kernel) (pa_cons (pe_callB call_len_seq (by rfl) T.z_len PySem.boot_len (pa_cons (pv 0) pa_nil)) (pa_cons pe_int pa_nil)))) pa_nil)) (pg_name (i := 2) sc_law.nd rfl (Or.inl rfl))
        (pss_cons (ps_set (i := 3) sc_law.nd rfl (Or.inl rfl) (pe_op op_add pe_int (C8.pe_c (c_draw T) hr (by decide) (by rfl) (pa_cons (pv 1) (pa_cons pe_int pa_nil)))))
        (C8.pss_cut (ps_set (i := 4) sc_law.nd rfl (Or.inl rfl) (pe_ifExp (pt_cmpR op_eq (pv 3) pe_int (nomark _)) (C8.pe_c (c_wide T) hr (by decide) (by rfl) (pa_cons (pv 1) (pa_cons pe_int (pa_cons pe_int pa_nil)))) (C8.pe_c (c_lwatch T) hr (by decide) (by rfl) (pa_cons (pv 1) (pa_cons pe_int (pa_cons (pv 3) (pa_cons pe_int pa_nil)))))))
        (pss_cons (ps_par (i := 5) (j := 6) (by rfl) sc_law.nd rfl rfl (by decide) rfl rfl (pa_cons (C8.pe_c (c_made T) hr (by decide) (by rfl) (pa_cons (pv 4) pa_nil)) (pa_cons (C8.pe_c (c_drawn_heard T) hr (by decide) (by rfl) (pa_cons (pv 1) (pa_cons (pv 4) (pa_cons pe_int pa_nil)))) pa_nil)) rfl)
        (pss_cons (ps_par (i := 7) (j := 8) (by rfl) sc_law.nd rfl rfl (by decide) rfl rfl (pa_cons (pe_ix ix_tup (pv 6) pe_int (fun _ _ => rfl)) (pa_cons (C8.pe_c (c_draw T) hr (by decide) (by rfl) (pa_cons (pv 1) (pa_cons (pe_op op_add (pe_callB call_len_seq (by rfl) T.z_len PySem.boot_len (pa_cons (pe_ix ix_tup (pv 6) pe_int (fun _ _ => rfl)) pa_nil)) pe_int) pa_nil))) pa_nil)) rfl)
        (C8.pss_cut (ps_par (i := 9) (j := 10) (by rfl) sc_law.nd rfl rfl (by decide) rfl rfl (pa_cons (pe_slice sl_tupA (pv 7) po_none (po_some (pv 8))) (pa_cons (pe_slice sl_tupA (pv 7) (po_some (pv 8)) po_none) pa_nil)) rfl)
        (pss_cons (ps_par (i := 11) (j := 12) (by rfl) sc_law.nd rfl rfl (by decide) rfl rfl (pa_cons (C8.pe_c (c_can_be T) hr (by decide) (by rfl) (pa_cons (pv 5) (pa_cons (pv 9) pa_nil))) (pa_cons (pe_lst pa_nil) pa_nil)) rfl)
        (C8.pss_cut (ps_for PassesOwn.never rfl (pi_tup (pv 11)) (pg_name (i := 13) sc_law.nd rfl (Or.inl rfl))
          (pss_cons (ps_set (i := 14) sc_law.nd rfl (Or.inl rfl) (C8.pe_c (c_made T) hr (by decide) (by rfl) (pa_cons (C8.pe_c (c_begun_at T) hr (by decide) (by rfl) (pa_cons (pv 4) (pa_cons (pv 13) pa_nil))) pa_nil)))
          (pss_one (ps_set (i := 12) sc_law.nd rfl (Or.inl rfl) (pe_op op_cat (pv 12) (C8.pe_c (c_there T) hr (by decide) (by rfl) (pa_cons (pv 13) (pa_cons (C8.pe_c (c_can_be T) hr (by decide) (by rfl) (pa_cons (pv 14) (pa_cons (pv 10) pa_nil))) pa_nil))))))))
        (C8.pss_cut (ps_if (PW.pt (pw_or (pt_cmpR (op_neD hr.units) (C8.pe_c (c_can_be T) hr (by decide) (by rfl) (pa_cons (pv 5) (pa_cons (pv 7) pa_nil))) (pe_callTy call_tuple_of (by rfl) T.z_tuple (by decide +kernel) (pa_cons (pe_callB (cr_sortedSet rfl) (by rfl) T.z_sorted (by decide +kernel) (pa_cons (pe_callTy (r := HX.rSetL K w) (cr_setL rfl) (by rfl) T.z_set (by decide +kernel) (pa_cons (pv 12) pa_nil)) pa_nil)) pa_nil)) (nomark _))
            (pw_or1 (pt_cmpR (op_neD hr.units) (pv 11) (C8.pe_c (c_lcan T) hr (by decide) (by rfl) (pa_cons (pv 4) (pa_cons (pv 9) pa_nil))) (nomark _))))) (pss_one ps_never) pss_nil)
        (pss_cons (ps_if (pt_cmpR op_ne (pe_callB call_len_seq (by rfl) T.z_len PySem.boot_len (pa_cons (pv 11) pa_nil)) pe_int (nomark _)) (pss_one ps_continue) pss_nil)
        (pss_cons (ps_set (i := 13) sc_law.nd rfl (Or.inl rfl) (pe_ix ix_tup (pv 11) pe_int (fun _ _ => rfl)))
        (pss_cons (ps_set (i := 15) sc_law.nd rfl (Or.inl rfl) (C8.pe_c (c_begun_at T) hr (by decide) (by rfl) (pa_cons (pv 4) (pa_cons (pv 13) pa_nil))))
        (pss_cons (ps_set (i := 14) sc_law.nd rfl (Or.inl rfl) (C8.pe_c (c_made T) hr (by decide) (by rfl) (pa_cons (pv 15) pa_nil)))
        (C8.pss_cut (ps_if (PW.pt (pw_or (pt_cmpR op_ne (C8.pe_c (c_rows_count T) hr (by decide) (by rfl) (pa_cons (pv 5) (pa_cons (pv 7) pa_nil))) (pe_op op_mulW (C8.pe_c (c_rows_count T) hr (by decide) (by rfl) (pa_cons (pv 5) (pa_cons (pv 9) pa_nil))) (C8.pe_c (c_rows_count T) hr (by decide) (by rfl) (pa_cons (pv 14) (pa_cons (pv 10) pa_nil)))) (nomark _))
            (pw_or1 (pt_cmpR op_ne (C8.pe_c (c_rows_count T) hr (by decide) (by rfl) (pa_cons (pv 14) (pa_cons (pv 10) pa_nil))) (C8.pe_c (c_fit T) hr (by decide) (by rfl) (pa_cons (pv 15) (pa_cons (pv 10) pa_nil))) (nomark _))))) (pss_one ps_never) pss_nil)
        (pss_cons (ps_par (i := 16) (j := 17) (by rfl) sc_law.nd rfl rfl (by decide) rfl rfl (pa_cons (C8.pe_mk (c_Observer T) hr (by decide) (by rfl) (pa_cons (pv 5) pa_nil)) (pa_cons (C8.pe_mk (c_Observer T) hr (by decide) (by rfl) (pa_cons (pv 14) pa_nil)) pa_nil)) rfl)
        (C8.pss_cut (ps_for PassesOwn.never rfl (pi_tup (pv 7)) (pg_name (i := 18) sc_law.nd rfl (Or.inl rfl)) (pss_one (ps_expr (C8.pe_mt (m_hear T) hr (by decide) (pv 16) (pa_cons (pv 18) pa_nil)))))
        (C8.pss_cut (ps_for PassesOwn.never rfl (pi_tup (pv 10)) (pg_name (i := 18) sc_law.nd rfl (Or.inl rfl)) (pss_one (ps_expr (C8.pe_mt (m_hear T) hr (by decide) (pv 17) (pa_cons (pv 18) pa_nil)))))
        (C8.pss_cut (ps_if (PW.pt (pw_or (pt_cmpR (op_neD hr.units) (C8.pe_mt0 (m_can_hear T) hr (by decide) (pv 16)) (C8.pe_mt0 (m_can_hear T) hr (by decide) (pv 17)) (nomark _))
            (pw_or1 (pt_cmpR (op_neD hr.units) (pe_callTy call_list_of (by rfl) T.z_list (by decide +kernel) (pa_cons (C8.pe_mt0 (m_at T) hr (by decide) (pv 16)) pa_nil)) (C8.pe_c (c_there T) hr (by decide) (by rfl) (pa_cons (pv 13) (pa_cons (C8.pe_mt0 (m_at T) hr (by decide) (pv 17)) pa_nil))) (nomark _))))) (pss_one ps_never) pss_nil)
        (pss_cons (ps_par (i := 19) (j := 20) (by rfl) sc_law.nd rfl rfl (by decide) rfl rfl (pa_cons (C8.pe_c (c_settles_after T) hr (by decide) (by rfl) (pa_cons (pv 5) pa_nil)) (pa_cons (C8.pe_c (c_settles_after T) hr (by decide) (by rfl) (pa_cons (pv 14) pa_nil)) pa_nil)) rfl)
        (pss_one (ps_if (PW.pt (pw_and (pt_cmp (pc_notN (pv 19))) (pw_and1 (PW.pt (pw_or (pt_cmp (pc_isN (pv 20))) (pw_or1 (pt_cmpR op_gt (pv 20) (pv 19) (nomark _)))))))) (pss_one ps_never) pss_nil)))))))))))))))))))))
      (pss_cons (ps_set (i := 21) sc_law.nd rfl (Or.inl rfl) (C8.pe_mk (c_Watch T) hr (by decide) (by rfl) (pa_cons (pe_lst (t := tRows [[0, 1], [0, 2], [2, 2]]) (pa_rows_cons (pe_row (pa_nums_cons (g := 0) pe_int (pa_nums_cons (g := 1) pe_int pa_nums_nil)) (by decide)) (pa_rows_cons (pe_row (pa_nums_cons (g := 0) pe_int (pa_nums_cons (g := 2) pe_int pa_nums_nil)) (by decide)) (pa_rows_cons (pe_row (pa_nums_cons (g := 2) pe_int (pa_nums_cons (g := 2) pe_int pa_nums_nil)) (by decide)) pa_rows_nil))))
          (pa_cons (pe_lst (t := tNums [0, 0, 1]) (pa_nums_cons (g := 0) pe_int (pa_nums_cons (g := 0) pe_int (pa_nums_cons (g := 1) pe_int pa_nums_nil)))) pa_nil))))
      (pss_cons (ps_set (i := 14) sc_law.nd rfl (Or.inl rfl) (C8.pe_c (c_made T) hr (by decide) (by rfl) (pa_cons (C8.pe_c (c_begun_at T) hr (by decide) (by rfl) (pa_cons (pe_tup (pa_cons (pe_moves T hr (by decide) (pv 21)) (pa_cons (pe_words T hr (by decide) (pv 21)) pa_nil))) (pa_cons pe_int pa_nil))) pa_nil)))
      (pss_one (ps_ret (pe_and (pe_cmpR (op_eqD hr.units) (C8.pe_c (c_can_be T) hr (by decide) (by rfl) (pa_cons (pv 21) (pa_cons (pe_row (l := [0, 1, 1, 1]) (pa_nums_cons (g := 0) pe_int (pa_nums_cons (g := 1) pe_int (pa_nums_cons (g := 1) pe_int (pa_nums_cons (g := 1) pe_int pa_nums_nil)))) (by decide)) pa_nil))) (pe_row (l := [2]) (pa_nums_cons (g := 2) pe_int pa_nums_nil) (by decide)) (nomark _))
        (pe_and (pe_cmpR (op_eqD hr.units) (C8.pe_c (c_there T) hr (by decide) (by rfl) (pa_cons pe_int (pa_cons (C8.pe_c (c_can_be T) hr (by decide) (by rfl) (pa_cons (pv 14) (pa_cons (pe_row (l := [1, 1]) (pa_nums_cons (g := 1) pe_int (pa_nums_cons (g := 1) pe_int pa_nums_nil)) (by decide)) pa_nil))) pa_nil))) (pe_lst (t := tNums [2]) (pa_nums_cons (g := 2) pe_int pa_nums_nil)) (nomark _))
        (pe_one (pe_chain op_eq op_eq (C8.pe_c (c_rows_count T) hr (by decide) (by rfl) (pa_cons (pv 21) (pa_cons (pe_row (l := [0, 1, 1, 1]) (pa_nums_cons (g := 0) pe_int (pa_nums_cons (g := 1) pe_int (pa_nums_cons (g := 1) pe_int (pa_nums_cons (g := 1) pe_int pa_nums_nil)))) (by decide)) pa_nil)))
          (pe_op op_mul (C8.pe_c (c_rows_count T) hr (by decide) (by rfl) (pa_cons (pv 21) (pa_cons (pe_row (l := [0, 1]) (pa_nums_cons (g := 0) pe_int (pa_nums_cons (g := 1) pe_int pa_nums_nil)) (by decide)) pa_nil))) (C8.pe_c (c_rows_count T) hr (by decide) (by rfl) (pa_cons (pv 14) (pa_cons (pe_row (l := [1, 1]) (pa_nums_cons (g := 1) pe_int (pa_nums_cons (g := 1) pe_int pa_nums_nil)) (by decide)) pa_nil)))) pe_int))))))))), ?_⟩
    have hT : LamX.Tabs TT0 H := fun pr hpr => by
      rw [List.mem_singleton] at hpr
      subst hpr
      exact .nil htbl
    refine ⟨_, rfl, a, ns, rfl, ha, hn, fun H1 d l c g1 TA1 => ?_⟩
    have hT1 := tabs_gr hT g1
    have hnl : (ns.map V.int).length = ns.length := List.length_map ..
    refine ⟨_, rfl, a, _, rfl, .inl (g1.sqL ha), _, _, rfl, _, _, rfl, rfl, _, rfl, by rw [hnl]; split <;> omega, by rw [hnl]; split <;> omega, for_it walk_range (fun i σ Hx => TapeAt Hx d l c ∧ LamX.Tabs TT0 Hx ∧ ∃ x2 x3 x4 x5 x6 x7 x8 x9 x10 x11 x12 x13 x14 x15 x16 x17 x18 x19 x20 x21, σ = [some (.ref a), some (.ref d), x2, x3, x4, x5, x6, x7, x8, x9, x10, x11, x12, x13, x14, x15, x16, x17, x18, x19, x20, x21])
      ⟨TA1, hT1, none, none, none, none, none, none, none, none, none, none, none, none, none, none, none, none, none, none, none, none, rfl⟩ (fun _ _ _ _ _ => True.intro) ?_ ?_⟩
    · rintro i x σ Hy Hx hi ⟨TA, hTx, x2, x3, x4, x5, x6, x7, x8, x9, x10, x11, x12, x13, x14, x15, x16, x17, x18, x19, x20, x21, rfl⟩ ⟨rfl, rfl⟩
      refine ⟨_, rfl, d, l, c, 2, rfl, TA, by omega, by omega, fun H2 r g2 TA2 hr2 => ⟨_, _, rfl, rfl, ?_⟩⟩
      have hT2 := tabs_grT hTx g2 (tab_nin hTx TA)
      refine ⟨fun σ Hz => ∃ (aw : Addr) (wt : Wt) (k : Nat), TapeAt Hz d l c ∧ LamX.Tabs TT0 Hz ∧ PairAt Hz aw wt ∧ wt.Ok k ∧ σ = [some (.ref a), some (.ref d), some (.int (0 + (i : Nat))), some (.int (2 + (r : Int))), some (.ref aw), x5, x6, x7, x8, x9, x10, x11, x12, x13, x14, x15, x16, x17, x18, x19, x20, x21], ?_, ?_⟩
      · refine ⟨_, rfl, rfl, _, rfl, ite2 (fun _ => ?_) (fun _ => ?_)⟩
        · exact ⟨_, rfl, d, l, c, rfl, TA2, fun H3 aw wt g3 TA3 hp ok => ⟨aw, wt, 2, TA3, tabs_grT hT2 g3 (tab_nin hT2 TA2), hp, ok, rfl⟩⟩
        · exact ⟨_, rfl, _, rfl, d, l, c, 6, 2 + r, 4, by show [V.ref d, V.int 6, V.int (2 + (r : Int)), V.int 4] = _; rw [cast2] <;> rfl, TA2, by omega, by omega, by omega, by omega, by omega, by omega, fun H3 aw wt g3 TA3 hp ok => ⟨aw, wt, _, TA3, tabs_grT hT2 g3 (tab_nin hT2 TA2), hp, ok, rfl⟩⟩
      rintro σ Hz ⟨aw, wt, k, TAz, hTz, hpair, ok, rfl⟩
      -- here, told
      refine ⟨_, rfl, aw, wt, k, rfl, hpair, ok, hTz, fun H4 p g4 hT4 hpn W4 => ?_⟩
      have offp := off TAz hpn
      have TA4 := TAz.gx g4 (by simp) (by simp) (by simp)
      refine ⟨_, rfl, _, rfl, d, l, c, aw, wt, k, rfl, TA4, hpair.gx g4, ok, fun H5 t hb rb es g5 TA5 ht hhb hes hel => ⟨_, _, rfl, ?_⟩⟩
      have hT5 := tabs_grT hT4 g5 (tab_nin hT4 TA4)
      have W5 := W4.gr g5 offp.nin
      have hpair5 := (hpair.gx g4).gr g5
      have hsl : (told wt 0 es).length = es.length := told_length wt es 0
      have hle3 := told_le ok es 0
      -- heard, size
      refine ⟨_, rfl, t, _, 0, .ref hb, rfl, rfl, .of ht, atI_of (i := 0) rfl, _, rfl, _, rfl, t, _, 0, .ref hb, rfl, rfl, .of ht, atI_of (i := 0) rfl, hb, _, rfl, .inr (.of hhb), _, _, rfl, rfl, d, l, c, (told wt 0 es).length + 1, by rw [nvs_length]; show [V.ref d, V.int (((told wt 0 es).length : Int) + 1)] = _; rw [Int.natCast_add] <;> rfl, TA5, by omega, by omega, fun H6 s g6 TA6 hs6 => ⟨_, _, rfl, ?_⟩⟩
      have hs6' : s ≤ (told wt 0 es).length := by omega
      have hT6 := tabs_grT hT5 g6 (tab_nin hT5 TA5)
      have W6 := W5.gr g6 offp.nin
      have hpair6 := hpair5.gr g6
      have hhb6 := g6.tup hhb
      refine ⟨fun σ Hz => ∃ f1 f2 : Addr, St CW K Hz d l c aw p hb f1 f2 wt (told wt 0 es) s ∧ σ = [some (.ref a), some (.ref d), some (.int (0 + (i : Nat))), some (.int (2 + (r : Int))), some (.ref aw), some (.ref p), some (.ref t), some (.ref hb), some (.int (s : Int)), some (.ref f1), some (.ref f2), x11, x12, x13, x14, x15, x16, x17, x18, x19, x20, x21], ?_, ?_⟩
      · refine ⟨_, rfl, _, rfl, _, rfl, slice_ok hhb6 fun H7 f1 g7 hf1 => ?_⟩
        rw [cut_to hs6'] at hf1
        refine ⟨_, rfl, _, rfl, _, rfl, ?_⟩
        dsimp only [tNoPart]
        refine slice_ok (g7.tup hhb6) fun H8 f2 g8 hf2 => ⟨_, _, rfl, f1, f2, ?_, rfl⟩
        rw [cut_from hs6'] at hf2
        have g78 := g7.trans g8
        exact ⟨TA6.gr0 g78, tabs_gr hT6 g78, hpair6.gr g78, W6.gr0 g78, g78.tup hhb6, g8.tup hf1, hf2⟩
      rintro σ Hz ⟨f1, f2, S, rfl⟩
      generalize hhs : told wt 0 es = hs at *
      have hs40 : hs.length ≤ 40 := by omega
      have hf3 : ∀ v ∈ hs.take s, v ≤ 3 := fun v hv => hle3 v (List.mem_of_mem_take hv)
      have hg3 : ∀ v ∈ hs.drop s, v ≤ 3 := fun v hv => hle3 v (List.mem_of_mem_drop hv)
      have n6 := ok.n6
      have n1 := ok.n1
      -- places, several
      refine ⟨_, rfl, _, rfl, p, f1, wt, k, hs.take s, rfl, S.watch, ok, S.first, hf3, by rw [List.length_take]; omega, fun H7 Pa g7 hP7 => ⟨by show 0 ≤ sizeLine; omega, fun sv hsv => ⟨_, _, rfl, ?_⟩⟩⟩
      have S7 := (S.gr0 g7).gr0 (.new (o := .lst []) hsv)
      have hP8 : SqT K (upd H7 sv (.lst [])) Pa (nvs (placesBy wt [0] (hs.take s))) := (Gr.new (ms := []) hsv).sqT hP7
      have hsv8 : upd H7 sv (.lst []) sv = some (.lst (nvs [])) := upd_same
      generalize upd H7 sv (.lst []) = H8 at S7 hP8 hsv8 ⊢
      have lotP : Lot wt (placesBy wt [0] (hs.take s)) := Lot.by (Lot.first ok)
      generalize hPl : placesBy wt [0] (hs.take s) = Pl at hP8 lotP
      have hPl6 : Pl.length ≤ 6 := by
        have h1 : Pl.length ≤ (List.range wt.n).length := length_le_of_subset (lotP.asc.imp fun h => Nat.ne_of_lt h) fun g hg => List.mem_range.mpr (lotP.lt g hg)
        rw [List.length_range] at h1
        omega
      refine ⟨fun σ Hz => ∃ (sv : Addr) (Sl : List Nat) (x13 x14 : Option V), St CW K Hz d l c aw p hb f1 f2 wt hs s ∧ SqT K Hz Pa (nvs Pl) ∧ Hz sv = some (.lst (nvs Sl)) ∧ Sl.length ≤ 36 ∧ (∀ g, g ∈ Sl ↔ g ∈ placesBy wt [0] hs) ∧ σ = [some (.ref a), some (.ref d), some (.int (0 + (i : Nat))), some (.int (2 + (r : Int))), some (.ref aw), some (.ref p), some (.ref t), some (.ref hb), some (.int (s : Int)), some (.ref f1), some (.ref f2), some (.ref Pa), some (.ref sv), x13, x14, x15, x16, x17, x18, x19, x20, x21], ?_, ?_⟩
      · refine ⟨_, rfl, Pa, rfl, ⟨_, hP8⟩, for_it (walk_tup (xs := nvs Pl)) (fun j σ Hz => ∃ (sv : Addr) (Sl : List Nat) (x13 x14 : Option V), St CW K Hz d l c aw p hb f1 f2 wt hs s ∧ SqT K Hz Pa (nvs Pl) ∧ Hz sv = some (.lst (nvs Sl)) ∧ Sl.length ≤ 6 * j ∧ (∀ g, g ∈ Sl ↔ ∃ q ∈ Pl.take j, g ∈ placesBy wt [q] (hs.drop s)) ∧ σ = [some (.ref a), some (.ref d), some (.int (0 + (i : Nat))), some (.int (2 + (r : Int))), some (.ref aw), some (.ref p), some (.ref t), some (.ref hb), some (.int (s : Int)), some (.ref f1), some (.ref f2), some (.ref Pa), some (.ref sv), x13, x14, x15, x16, x17, x18, x19, x20, x21])
          ⟨sv, [], x13, x14, S7, hP8, hsv8, by simp, by simp, rfl⟩ (fun j σ Hz _ ⟨_, _, _, _, _, h, _⟩ => h) ?_ ?_⟩
        · rintro j y σ Hv Hz hj ⟨sv, Sl, y13, y14, Sz, hPz, hsvz, hSl, hSm, rfl⟩ ⟨rfl, hy⟩
          obtain ⟨q0, hq0, rfl⟩ := nvs_get hy
          have hqn := lotP.lt q0 (List.mem_of_getElem? hq0)
          have htk : Pl.take (j + 1) = Pl.take j ++ [q0] := by rw [List.take_add_one, hq0] <;> rfl
          have oks := swapW_ok ok hqn
          refine ⟨_, rfl, _, rfl, aw, q0, wt, k, rfl, Sz.pair, ok, hqn, fun H9 b9 g9 hp9 => ⟨b9, swapW wt q0, k, rfl, hp9, oks, tabs_gr Sz.tabs g9, fun H10 p10 g10 hT10 _ W10 => ?_⟩⟩
          have S10 := (Sz.gr0 g9).gx0 g10 hT10
          refine ⟨_, rfl, _, rfl, _, rfl, _, rfl, p10, f2, swapW wt q0, k, hs.drop s, rfl, W10, oks, S10.second, hg3, by rw [List.length_drop]; omega, fun H11 P11 g11 hP11 => ?_⟩
          have lot11 : Lot wt (placesBy (swapW wt q0) [0] (hs.drop s)) := Lot.swap (Lot.by (Lot.first oks))
          have lotq : Lot wt (placesBy wt [q0] (hs.drop s)) := Lot.by (Lot.one hqn)
          have tw := Twin.by ok hqn (hs.drop s) (Lot.first ok) (Lot.one hqn) (Twin.first ok hqn)
          refine ⟨q0, P11, wt, _, rfl, hP11, lot11, n6, hqn, fun H12 b12 g12 _ hb12 => ?_⟩
          rw [there_twin hqn lot11 lotq tw] at hb12
          have gB := g11.trans g12
          have hsv12 := gB.all _ _ (g10.lst (g9.all _ _ hsvz) (by simp))
          have hlq : (placesBy wt [q0] (hs.drop s)).length ≤ 6 := by
            have h1 : (placesBy wt [q0] (hs.drop s)).length ≤ (List.range wt.n).length := length_le_of_subset (lotq.asc.imp fun h => Nat.ne_of_lt h) fun g hg => List.mem_range.mpr (lotq.lt g hg)
            rw [List.length_range] at h1
            omega
          have hj6 : j < Pl.length := (List.getElem?_eq_some_iff.mp hq0).1
          refine ⟨sv, b12, _, _, rfl, rfl, hsv12, hb12, by rw [nvs_length, nvs_length, sizeLine_eq]; omega, fun sv2 hsv2 => ?_⟩
          have gN : Gr [] H12 (upd H12 sv2 (.lst (nvs Sl ++ nvs (placesBy wt [q0] (hs.drop s))))) := .new hsv2
          refine ⟨sv2, Sl ++ placesBy wt [q0] (hs.drop s), _, _, (S10.gr0 gB).gr0 gN, gN.sqT (gB.sqT (g10.sqT (g9.sqT hPz))), ?_, by rw [List.length_append]; omega, fun g' => ?_, rfl⟩
          · rw [upd_same]
            unfold nvs
            rw [List.map_append]
          · rw [List.mem_append, hSm g', htk]
            constructor
            · rintro (⟨q1, h1, h2⟩ | h1)
              · exact ⟨q1, List.mem_append_left _ h1, h2⟩
              · exact ⟨q0, by simp, h1⟩
            · rintro ⟨q1, h1, h2⟩
              rcases List.mem_append.mp h1 with h1 | h1
              · exact .inl ⟨q1, h1, h2⟩
              · rw [List.mem_singleton.mp h1] at h2
                exact .inr h2
        · rintro σ Hz ⟨sv, Sl, y13, y14, Sz, hPz, hsvz, hSl, hSm, rfl⟩
          rw [nvs_length] at hSl
          rw [nvs_length, List.take_length] at hSm
          refine ⟨sv, Sl, y13, y14, Sz, hPz, hsvz, by omega, fun g' => ?_, rfl⟩
          rw [hSm g', ← mem_placesBy ok (hs.drop s) Pl g', ← hPl, ← placesBy_append, List.take_append_drop]
      rintro σ Hz ⟨sv, Sl, y13, y14, Sz, hPz, hsvz, hSl, hSm, rfl⟩
      refine ⟨fun σ Hq => St CW K Hq d l c aw p hb f1 f2 wt hs s ∧ SqT K Hq Pa (nvs Pl) ∧ σ = [some (.ref a), some (.ref d), some (.int (0 + (i : Nat))), some (.int (2 + (r : Int))), some (.ref aw), some (.ref p), some (.ref t), some (.ref hb), some (.int (s : Int)), some (.ref f1), some (.ref f2), some (.ref Pa), some (.ref sv), y13, y14, x15, x16, x17, x18, x19, x20, x21], ?_, ?_⟩
      · refine ⟨_, rfl, _, rfl, p, hb, wt, k, hs, rfl, Sz.watch, ok, Sz.heard, hle3, by omega, fun H9 Pa9 g9 hP9 => ?_⟩
        have hcl : (Sl.map fun g : Nat => (g : Int)).length = Sl.length := List.length_map ..
        refine ⟨_, rfl, sv, Sl.map (fun g : Nat => (g : Int)), rfl, by rw [← nvs_map]; exact .of (g9.all _ _ hsvz), by omega, fun S9 c9 hS9 hc9 => ?_⟩
        have gS : Gr [] H9 (upd H9 S9 (SetO w S9 (fun j => decide (j ∈ Sl.map (fun g : Nat => (g : Int)))) c9)) := .new hS9
        refine ⟨S9, _, c9, rfl, upd_same, by omega, fun ys p1 hasc hmem hyl hp1 => ?_⟩
        have hys : ys.map V.int = nvs (placesBy wt [0] hs) := sorted_nvs (hasc.imp fun h => Int.le_of_lt h) (hasc.imp fun h => Int.ne_of_lt h) (Lot.by (Lot.first ok) : Lot wt (placesBy wt [0] hs)).asc fun z => by
          rw [hmem z, decide_eq_true_eq, List.mem_map]
          constructor
          · rintro ⟨g, hg, rfl⟩
            exact ⟨g, (hSm g).mp hg, rfl⟩
          · rintro ⟨g, hg, rfl⟩
            exact ⟨g, (hSm g).mpr hg, rfl⟩
        rw [hys]
        refine ⟨p1, _, rfl, .inl ⟨.of upd_same, fun tt htt => ?_⟩⟩
        have gt : Gr [] H9 (upd (upd (upd H9 S9 (SetO w S9 (fun j => decide (j ∈ Sl.map (fun g : Nat => (g : Int)))) c9)) p1 (.lst (nvs (placesBy wt [0] hs)))) tt (.tup (nvs (placesBy wt [0] hs)))) := (gS.trans (.new hp1)).trans (.new htt)
        have htt1 : upd (upd (upd H9 S9 (SetO w S9 (fun j => decide (j ∈ Sl.map (fun g : Nat => (g : Int)))) c9)) p1 (.lst (nvs (placesBy wt [0] hs)))) tt (.tup (nvs (placesBy wt [0] hs))) tt = some (.tup (nvs (placesBy wt [0] hs))) := upd_same
        generalize upd (upd (upd H9 S9 (SetO w S9 (fun j => decide (j ∈ Sl.map (fun g : Nat => (g : Int)))) c9)) p1 (.lst (nvs (placesBy wt [0] hs)))) tt (.tup (nvs (placesBy wt [0] hs))) = Ht at gt htt1 ⊢
        refine ⟨_, _, .tup (gt.sqT hP9) (dp_nvs _), .tup (.of htt1) (dp_nvs _), shapedT _, shapedT _, _, rfl, ?_⟩
        rw [eqv_tup]
        refine iteNS rfl ?_
        have S9 := (Sz.gr0 g9).gr0 gt
        have hP9' := (g9.trans gt).sqT hPz
        refine ⟨_, rfl, _, rfl, _, rfl, aw, f1, wt, k, hs.take s, rfl, S9.pair, ok, S9.first, hf3, fun H10 t10 g10 ht10 => ?_⟩
        rw [hPl] at ht10
        refine ⟨_, _, .tup (g10.sqT hP9') (dp_nvs _), .tup ht10 (dp_nvs _), shapedT _, shapedT _, _, rfl, ?_⟩
        rw [eqv_tup]
        exact iteNS rfl ⟨S9.gr0 g10, g10.sqT hP9', rfl⟩
      rintro σ Hu ⟨Su, hPu, rfl⟩
      refine ⟨_, rfl, Pa, _, rfl, .inr hPu, rfl, _, rfl, ite2 (fun z => ⟨Su.tape, Su.tabs, _, _, _, _, _, _, _, _, _, _, _, _, _, _, _, _, _, _, _, _, rfl⟩) (fun z => ?_)⟩
      have hl1 : Pl.length = 1 := Classical.byContradiction fun h => z (by
        rw [nvs_length]
        have : ¬ (V.int (Pl.length : Int) = V.int 1) := fun e => h (by
          injection e with e
          omega)
        rw [decide_eq_false this] <;> rfl)
      obtain ⟨p0, rfl⟩ : ∃ p0, Pl = [p0] := List.length_eq_one_iff.mp hl1
      have hp0n : p0 < wt.n := lotP.lt p0 (by simp)
      have oks := swapW_ok ok hp0n
      refine ⟨_, rfl, Pa, _, 0, .int (p0 : Int), rfl, rfl, hPu, atI_of (i := 0) rfl, ?_⟩
      refine ⟨_, rfl, _, rfl, aw, p0, wt, k, rfl, Su.pair, ok, hp0n, fun H9 bg g9 hbg => ?_⟩
      have S9 := Su.gr0 g9
      refine ⟨_, rfl, bg, swapW wt p0, k, rfl, hbg, oks, S9.tabs, fun H10 pt g10 hT10 hptn W10 => ?_⟩
      have S10 := S9.gx0 g10 hT10
      have offpt := off S9.tape hptn
      have hppt : p ≠ pt := fun e => by
        obtain ⟨dx, tm, tw, e1, _⟩ := S9.watch
        rw [e, hptn] at e1
        cases e1
      have hbg10 := hbg.gx g10
      -- facts of numbers
      have happ : hs.take s ++ hs.drop s = hs := List.take_append_drop s hs
      have hcnt : cnt wt 0 hs = cnt wt 0 (hs.take s) * cnt (swapW wt p0) 0 (hs.drop s) := by
        rw [cnt_swap ok hp0n (hs.drop s) 0 (by omega), sw_zero]
        conv => lhs; rw [← happ]
        exact cnt_append ok (q := p0) (hs.drop s) (hs.take s) 0 fun g hg => by
          rw [hPl] at hg
          exact List.mem_singleton.mp hg
      refine ⟨fun σ Hq => St CW K Hq d l c aw p hb f1 f2 wt hs s ∧ PairAt Hq bg (swapW wt p0) ∧ WatchAt CW Hq pt (swapW wt p0) ∧ σ = [some (.ref a), some (.ref d), some (.int (0 + (i : Nat))), some (.int (2 + (r : Int))), some (.ref aw), some (.ref p), some (.ref t), some (.ref hb), some (.int (s : Int)), some (.ref f1), some (.ref f2), some (.ref Pa), some (.ref sv), some (.int (p0 : Int)), some (.ref pt), some (.ref bg), x16, x17, x18, x19, x20, x21], ?_, ?_⟩
      · refine ⟨_, rfl, _, rfl, p, hb, wt, k, hs, rfl, S10.watch, ok, S10.heard, hle3, by omega, fun H11 g11 => ?_⟩
        have S11 := S10.gr0 g11
        refine ⟨_, rfl, _, rfl, p, f1, wt, k, hs.take s, rfl, S11.watch, ok, S11.first, hf3, by rw [List.length_take]; omega, fun H12 g12 => ?_⟩
        have S12 := S11.gr0 g12
        have W12 := (W10.gr0 g11).gr0 g12
        refine ⟨_, rfl, _, rfl, pt, f2, swapW wt p0, k, hs.drop s, rfl, W12, oks, S12.second, hg3, by rw [List.length_drop]; omega, fun H13 g13 => ?_⟩
        refine ⟨_, _, rfl, rfl, wide_mul (cnt_bits ok (by rw [List.length_take]; omega) 0) (cnt_bits oks (by rw [List.length_drop]; omega) 0) (by decide) (by decide) (by decide), rfl, _, rfl, iteNS (by rw [hcnt, Int.natCast_mul]) ?_⟩
        have S13 := S12.gr0 g13
        have W13 := W12.gr0 g13
        have hbg13 := ((hbg10.gr g11).gr g12).gr g13
        refine ⟨_, rfl, _, rfl, pt, f2, swapW wt p0, k, hs.drop s, rfl, W13, oks, S13.second, hg3, by rw [List.length_drop]; omega, fun H14 g14 => ?_⟩
        refine ⟨_, rfl, _, rfl, bg, f2, swapW wt p0, k, hs.drop s, rfl, hbg13.gr g14, oks, (S13.gr0 g14).second, fun H15 g15 => ⟨rfl, _, rfl, iteNS rfl ⟨(S13.gr0 g14).gr0 g15, (hbg13.gr g14).gr g15, (W13.gr0 g14).gr0 g15, rfl⟩⟩⟩
      rintro σ Hv ⟨Sv, hbgv, Wv, rfl⟩
      refine ⟨_, rfl, fun o1 dx1 ho1 hdx1 ne1 => ?_⟩
      have gN1 : Gr [] Hv (upd (upd Hv dx1 (.own o1)) o1 (.ins CO dx1 [])) := ((Gr.refl [] Hv).put0 hdx1).put0 ho1
      have hins1 : upd (upd Hv dx1 (.own o1)) o1 (.ins CO dx1 []) o1 = some (.ins CO dx1 []) := upd_same
      generalize upd (upd Hv dx1 (.own o1)) o1 (.ins CO dx1 []) = Hn1 at gN1 hins1 ⊢
      obtain ⟨dxp, tmp, twp, hpi, _⟩ := id Sv.watch
      obtain ⟨dxt, tmt, twt, hpti, _⟩ := id Wv
      refine ⟨o1, p, dx1, wt, k, rfl, hins1, Sv.watch.gr0 gN1, ne_of_none hpi ho1, ok, fun H16 l1 h1 g16 hl1n hh1n O1 => ⟨rfl, ?_⟩⟩
      have hl1v := gN1.none0 hl1n
      have hh1v := gN1.none0 hh1n
      obtain ⟨psT, hpsT⟩ := tab_tbl Sv.tabs
      obtain ⟨⟨r9, t9, htd⟩, ⟨ns9, htl⟩, ⟨cs9, htc⟩, _⟩ := id Sv.tape
      have na : ∀ x ∈ [d, l, c, 178, p, pt], x ∉ [o1, l1, h1] := fun x hx => by
        simp only [List.mem_cons, List.not_mem_nil, or_false] at hx
        rcases hx with rfl | rfl | rfl | rfl | rfl | rfl
        · exact notin3 htd ho1 hl1v hh1v
        · exact notin3 htl ho1 hl1v hh1v
        · exact notin3 htc ho1 hl1v hh1v
        · exact notin3 hpsT ho1 hl1v hh1v
        · exact notin3 hpi ho1 hl1v hh1v
        · exact notin3 hpti ho1 hl1v hh1v
      have g16' : Gr [o1, l1, h1] Hn1 H16 := g16.more (by simp)
      have S16 := (Sv.gr0 gN1).obs g16' (fun x hx => na x (by simp only [List.mem_cons, List.not_mem_nil, or_false] at hx ⊢; rcases hx with h | h | h | h | h <;> simp [h]))
      refine ⟨_, rfl, fun o2 dx2 ho2 hdx2 ne2 => ?_⟩
      have gN2 : Gr [] H16 (upd (upd H16 dx2 (.own o2)) o2 (.ins CO dx2 [])) := ((Gr.refl [] H16).put0 hdx2).put0 ho2
      have hins2 : upd (upd H16 dx2 (.own o2)) o2 (.ins CO dx2 []) o2 = some (.ins CO dx2 []) := upd_same
      generalize upd (upd H16 dx2 (.own o2)) o2 (.ins CO dx2 []) = Hn2 at gN2 hins2 ⊢
      have W16 := (Wv.gr0 gN1).gr g16' (na pt (by simp))
      obtain ⟨dxq, tmq, twq, hptq, _⟩ := id W16
      refine ⟨o2, pt, dx2, swapW wt p0, k, rfl, hins2, W16.gr0 gN2, ne_of_none hptq ho2, oks, fun H17 l2 h2 g17 hl2n hh2n O2 => ⟨rfl, _, _, rfl, ?_⟩⟩
      have hl2v := gN2.none0 hl2n
      have hh2v := gN2.none0 hh2n
      obtain ⟨⟨dxo1, t1, ho1i⟩, _, ⟨it1, tr1, hl1i, _⟩, ⟨hv1, hh1i, _⟩, _⟩ := id O1
      obtain ⟨dxr, tmr, twr, hpr, _⟩ := id S16.watch
      obtain ⟨psU, hpsU⟩ := tab_tbl S16.tabs
      obtain ⟨⟨r8, t8, htd8⟩, ⟨ns8, htl8⟩, ⟨cs8, htc8⟩, _⟩ := id S16.tape
      have nb : ∀ x ∈ [d, l, c, 178, p, pt, o1, l1, h1], x ∉ [o2, l2, h2] := fun x hx => by
        simp only [List.mem_cons, List.not_mem_nil, or_false] at hx
        rcases hx with rfl | rfl | rfl | rfl | rfl | rfl | rfl | rfl | rfl
        · exact notin3 htd8 ho2 hl2v hh2v
        · exact notin3 htl8 ho2 hl2v hh2v
        · exact notin3 htc8 ho2 hl2v hh2v
        · exact notin3 hpsU ho2 hl2v hh2v
        · exact notin3 hpr ho2 hl2v hh2v
        · exact notin3 hptq ho2 hl2v hh2v
        · exact notin3 ho1i ho2 hl2v hh2v
        · exact notin3 hl1i ho2 hl2v hh2v
        · exact notin3 hh1i ho2 hl2v hh2v
      have nc : ∀ x ∈ [o2, l2, h2], x ∉ [o1, l1, h1] := fun x hx => by
        simp only [List.mem_cons, List.not_mem_nil, or_false] at hx
        rcases hx with rfl | rfl | rfl
        · exact notin3' ho2 ho1i hl1i hh1i
        · exact notin3' hl2v ho1i hl1i hh1i
        · exact notin3' hh2v ho1i hl1i hh1i
      have n1o : ∀ x ∈ [d, l, c, 178, p], x ∉ [o1, l1, h1] := fun x hx => na x (by simp only [List.mem_cons, List.not_mem_nil, or_false] at hx ⊢; rcases hx with h | h | h | h | h <;> simp [h])
      have n2o : ∀ x ∈ [d, l, c, 178, p], x ∉ [o2, l2, h2] := fun x hx => nb x (by simp only [List.mem_cons, List.not_mem_nil, or_false] at hx ⊢; rcases hx with h | h | h | h | h <;> simp [h])
      have S17 := (S16.gr0 gN2).obs (g17.more (by simp)) n2o
      have s2 : ∀ x, x ∉ [o2, l2, h2] → x ∉ [o2] := fun x hx z => hx (by rw [List.mem_singleton.mp z]; simp)
      have O17 := (O1.gr0 gN2).gr g17 (s2 _ (nb o1 (by simp))) (s2 _ (nb l1 (by simp))) (s2 _ (nb h1 (by simp))) (s2 _ (nb p (by simp))) (fun m hm kvs e => by rw [List.mem_singleton.mp hm, hins2] at e; cases e)
      -- the first is led
      refine ⟨fun σ Hq => ∃ x18 : Option V, St CW K Hq d l c aw p hb f1 f2 wt hs s ∧ ObsAt CO CW K Hq o1 l1 h1 p wt (placesBy wt [0] hs) hs.length ∧ ObsAt CO CW K Hq o2 l2 h2 pt (swapW wt p0) [0] 0 ∧ σ = [some (.ref a), some (.ref d), some (.int (0 + (i : Nat))), some (.int (2 + (r : Int))), some (.ref aw), some (.ref p), some (.ref t), some (.ref hb), some (.int (s : Int)), some (.ref f1), some (.ref f2), some (.ref Pa), some (.ref sv), some (.int (p0 : Int)), some (.ref pt), some (.ref bg), some (.ref o1), some (.ref o2), x18, x19, x20, x21], ?_, ?_⟩
      · refine ⟨_, rfl, hb, rfl, ⟨_, .of S17.heard⟩, for_it (walk_tup (xs := nvs hs)) (fun j σ Hq => ∃ x18 : Option V, St CW K Hq d l c aw p hb f1 f2 wt hs s ∧ ObsAt CO CW K Hq o1 l1 h1 p wt (placesBy wt [0] (hs.take j)) j ∧ ObsAt CO CW K Hq o2 l2 h2 pt (swapW wt p0) [0] 0 ∧ σ = [some (.ref a), some (.ref d), some (.int (0 + (i : Nat))), some (.int (2 + (r : Int))), some (.ref aw), some (.ref p), some (.ref t), some (.ref hb), some (.int (s : Int)), some (.ref f1), some (.ref f2), some (.ref Pa), some (.ref sv), some (.int (p0 : Int)), some (.ref pt), some (.ref bg), some (.ref o1), some (.ref o2), x18, x19, x20, x21])
          ⟨x18, S17, O17, O2, rfl⟩ (fun j σ Hq _ ⟨_, h, _⟩ => .of h.heard) ?_ ?_⟩
        · rintro j y σ Hq0 Hq hj ⟨y18, Sq, O1q, O2q, rfl⟩ ⟨rfl, hy⟩
          obtain ⟨v, hv, rfl⟩ := nvs_get hy
          have hjl := (List.getElem?_eq_some_iff.mp hv).1
          have htk : hs.take (j + 1) = hs.take j ++ [v] := by rw [List.take_add_one, hv] <;> rfl
          obtain ⟨dxi, ti, hi1⟩ := O1q.ins
          have hgne : gl wt (placesBy wt [0] (hs.take j)) v ≠ [] := by
            rw [← placesBy_snoc, ← htk, ← hhs]
            exact heard_ne ok (by omega) hes (j + 1)
          refine ⟨_, rfl, o1, dxi, _, rfl, hi1, fs4_hear _ _ _ _, _, rfl, o1, l1, h1, p, wt, k, v, _, j, rfl, O1q, ok, hle3 v (List.mem_of_getElem? hv), hgne, by omega, fun Hr gr Or => ⟨_, Sq.obs gr n1o, ?_, O2q.gr gr (nc o2 (by simp)) (nc l2 (by simp)) (nc h2 (by simp)) (na pt (by simp)) O1q.nk, rfl⟩⟩
          rw [htk, placesBy_snoc]
          exact Or
        · rintro σ Hq ⟨y18, Sq, O1q, O2q, rfl⟩
          rw [nvs_length, List.take_length] at O1q
          exact ⟨y18, Sq, O1q, O2q, rfl⟩
      rintro σ Hq ⟨y18, Sq, O1q, O2q, rfl⟩
      -- the second piece
      have hled : led wt 0 (es.take s) = p0 := by
        have h1 := led_mem ok (es.take s) 0 (by omega) (fun x hx => hes x (List.mem_of_mem_take hx)) [0] (by simp)
        rw [← told_take, hhs, hPl] at h1
        exact List.mem_singleton.mp h1
      have hsec : hs.drop s = told wt p0 (es.drop s) := by rw [← hhs, told_drop, hled]
      have hsl2 : (hs.drop s).length ≤ 40 := by rw [List.length_drop]; omega
      have twn : ∀ j, Twin wt p0 (placesBy (swapW wt p0) [0] ((hs.drop s).take j)) (placesBy wt [p0] ((hs.drop s).take j)) := fun j => Twin.by ok hp0n _ (Lot.first ok) (Lot.one hp0n) (Twin.first ok hp0n)
      have sne : ∀ j, placesBy (swapW wt p0) [0] ((hs.drop s).take j) ≠ [] := fun j z => by
        have h1 : placesBy wt [p0] ((hs.drop s).take j) ≠ [] := by
          rw [hsec]
          exact heard_ne ok hp0n (fun x hx => hes x (List.mem_of_mem_drop hx)) j
        refine h1 (List.length_eq_zero_iff.mp ?_)
        rw [← twin_length hp0n (Lot.swap (Lot.by (Lot.first oks))) (Lot.by (Lot.one hp0n)) (twn j), z] <;> rfl
      refine ⟨fun σ Hy => ∃ x18 : Option V, St CW K Hy d l c aw p hb f1 f2 wt hs s ∧ ObsAt CO CW K Hy o1 l1 h1 p wt (placesBy wt [0] hs) hs.length ∧ ObsAt CO CW K Hy o2 l2 h2 pt (swapW wt p0) (placesBy (swapW wt p0) [0] (hs.drop s)) (hs.drop s).length ∧ σ = [some (.ref a), some (.ref d), some (.int (0 + (i : Nat))), some (.int (2 + (r : Int))), some (.ref aw), some (.ref p), some (.ref t), some (.ref hb), some (.int (s : Int)), some (.ref f1), some (.ref f2), some (.ref Pa), some (.ref sv), some (.int (p0 : Int)), some (.ref pt), some (.ref bg), some (.ref o1), some (.ref o2), x18, x19, x20, x21], ?_, ?_⟩
      · refine ⟨_, rfl, f2, rfl, ⟨_, .of Sq.second⟩, for_it (walk_tup (xs := nvs (hs.drop s))) (fun j σ Hy => ∃ x18 : Option V, St CW K Hy d l c aw p hb f1 f2 wt hs s ∧ ObsAt CO CW K Hy o1 l1 h1 p wt (placesBy wt [0] hs) hs.length ∧ ObsAt CO CW K Hy o2 l2 h2 pt (swapW wt p0) (placesBy (swapW wt p0) [0] ((hs.drop s).take j)) j ∧ σ = [some (.ref a), some (.ref d), some (.int (0 + (i : Nat))), some (.int (2 + (r : Int))), some (.ref aw), some (.ref p), some (.ref t), some (.ref hb), some (.int (s : Int)), some (.ref f1), some (.ref f2), some (.ref Pa), some (.ref sv), some (.int (p0 : Int)), some (.ref pt), some (.ref bg), some (.ref o1), some (.ref o2), x18, x19, x20, x21])
          ⟨y18, Sq, O1q, O2q, rfl⟩ (fun j σ Hq _ ⟨_, h, _⟩ => .of h.second) ?_ ?_⟩
        · rintro j y σ Hq0 Hy hj ⟨z18, Sy, O1y, O2y, rfl⟩ ⟨rfl, hy⟩
          obtain ⟨v, hv, rfl⟩ := nvs_get hy
          have hjl := (List.getElem?_eq_some_iff.mp hv).1
          have htk : (hs.drop s).take (j + 1) = (hs.drop s).take j ++ [v] := by rw [List.take_add_one, hv] <;> rfl
          obtain ⟨dxi, ti, hi2⟩ := O2y.ins
          have hgne : gl (swapW wt p0) (placesBy (swapW wt p0) [0] ((hs.drop s).take j)) v ≠ [] := by
            rw [← placesBy_snoc, ← htk]
            exact sne (j + 1)
          refine ⟨_, rfl, o2, dxi, _, rfl, hi2, fs4_hear _ _ _ _, _, rfl, o2, l2, h2, pt, swapW wt p0, k, v, _, j, rfl, O2y, oks, hg3 v (List.mem_of_getElem? hv), hgne, by omega, fun Hr gr Or => ⟨_, Sy.obs gr n2o, O1y.gr gr (nb o1 (by simp)) (nb l1 (by simp)) (nb h1 (by simp)) (nb p (by simp)) O2y.nk, ?_, rfl⟩⟩
          rw [htk, placesBy_snoc]
          exact Or
        · rintro σ Hy ⟨z18, Sy, O1y, O2y, rfl⟩
          rw [nvs_length, List.take_length] at O2y
          exact ⟨z18, Sy, O1y, O2y, rfl⟩
      rintro σ Hy ⟨z18, Sy, O1y, O2y, rfl⟩
      -- the two observers
      have hfull : placesBy wt [p0] (hs.drop s) = placesBy wt [0] hs := by rw [← hPl, ← placesBy_append, happ]
      have tw : Twin wt p0 (placesBy (swapW wt p0) [0] (hs.drop s)) (placesBy wt [0] hs) := by
        rw [← hfull]
        exact Twin.by ok hp0n _ (Lot.first ok) (Lot.one hp0n) (Twin.first ok hp0n)
      have lota : Lot wt (placesBy (swapW wt p0) [0] (hs.drop s)) := Lot.swap (Lot.by (Lot.first oks))
      have lotb : Lot wt (placesBy wt [0] hs) := Lot.by (Lot.first ok)
      have hwords := wb_words_twin ok hp0n lota lotb tw
      have hthere := there_twin hp0n lota lotb tw
      have hL6 : (placesBy wt [0] hs).length ≤ 6 := by
        have h1 : (placesBy wt [0] hs).length ≤ (List.range wt.n).length := length_le_of_subset (lotb.asc.imp fun h => Nat.ne_of_lt h) fun g hg => List.mem_range.mpr (lotb.lt g hg)
        rw [List.length_range] at h1
        omega
      generalize placesBy (swapW wt p0) [0] (hs.drop s) = La at O2y tw lota hwords hthere
      generalize placesBy wt [0] hs = Lb at O1y tw lotb hwords hthere hL6
      refine ⟨fun σ Hz => St CW K Hz d l c aw p hb f1 f2 wt hs s ∧ WatchAt CW Hz pt (swapW wt p0) ∧ σ = [some (.ref a), some (.ref d), some (.int (0 + (i : Nat))), some (.int (2 + (r : Int))), some (.ref aw), some (.ref p), some (.ref t), some (.ref hb), some (.int (s : Int)), some (.ref f1), some (.ref f2), some (.ref Pa), some (.ref sv), some (.int (p0 : Int)), some (.ref pt), some (.ref bg), some (.ref o1), some (.ref o2), z18, x19, x20, x21], ?_, ?_⟩
      · obtain ⟨dxi, ti, hi1⟩ := O1y.ins
        obtain ⟨dxj, tj, hi2⟩ := O2y.ins
        refine ⟨_, rfl, o1, dxi, _, rfl, hi1, fs4_can _ _ _ _, o1, l1, h1, p, wt, k, _, _, rfl, O1y, ok, fun H18 b1 g18 hb1 => ?_⟩
        have hi2' := g18.all _ _ hi2
        refine ⟨_, rfl, o2, dxj, _, rfl, hi2', fs4_can _ _ _ _, o2, l2, h2, pt, swapW wt p0, k, _, _, rfl, O2y.gr0 g18, oks, fun H19 b2 g19 hb2 => ?_⟩
        rw [hwords] at hb2
        refine ⟨_, _, .tup (.of (g19.tup hb1)) (dp_nvs _), .tup (.of hb2) (dp_nvs _), shapedT _, shapedT _, _, rfl, ?_⟩
        rw [eqv_tup]
        refine iteNS rfl ?_
        have gA := g18.trans g19
        have O1A := O1y.gr0 gA
        have O2A := O2y.gr0 gA
        have SA := Sy.gr0 gA
        have hi1A := gA.all _ _ hi1
        have hi2A := gA.all _ _ hi2
        refine ⟨_, rfl, o1, dxi, _, rfl, hi1A, fs4_at _ _ _ _, o1, l1, h1, p, wt, _, _, rfl, O1A, fun a1 ha1 => ⟨a1, _, rfl, .inr ha1, fun lx hlx => ?_⟩⟩
        have gL : Gr [] H19 (upd H19 lx (.lst (nvs Lb))) := .new hlx
        have hlx1 : upd H19 lx (.lst (nvs Lb)) lx = some (.lst (nvs Lb)) := upd_same
        generalize upd H19 lx (.lst (nvs Lb)) = H20 at gL hlx1 ⊢
        refine ⟨_, rfl, _, rfl, o2, dxj, _, rfl, gL.all _ _ hi2A, fs4_at _ _ _ _, o2, l2, h2, pt, swapW wt p0, _, _, rfl, O2A.gr0 gL, fun a2 ha2 => ⟨p0, a2, wt, La, rfl, ha2, lota, n6, hp0n, fun H21 b3 g21 _ hb3 => ?_⟩⟩
        rw [hthere] at hb3
        refine ⟨_, _, .lst (.of (g21.all _ _ hlx1)) (dp_nvs _), .lst (.of hb3) (dp_nvs _), shapedL _, shapedL _, _, rfl, ?_⟩
        rw [eqv_list]
        exact iteNS rfl ⟨(SA.gr0 gL).gr0 g21, (O2A.watch.gr0 gL).gr0 g21, rfl⟩
      rintro σ Hz ⟨Sz', Wz, rfl⟩
      have fin : ∀ (Hw : Hp) (y19 y20 y21 : Option V), St CW K Hw d l c aw p hb f1 f2 wt hs s → TapeAt Hw d l c ∧ LamX.Tabs TT0 Hw ∧ ∃ x2 x3 x4 x5 x6 x7 x8 x9 x10 x11 x12 x13 x14 x15 x16 x17 x18 x19 x20 x21, [some (.ref a), some (.ref d), some (.int (0 + (i : Nat))), some (.int (2 + (r : Int))), some (.ref aw), some (.ref p), some (.ref t), some (.ref hb), some (.int (s : Int)), some (.ref f1), some (.ref f2), some (.ref Pa), some (.ref sv), some (.int (p0 : Int)), some (.ref pt), some (.ref bg), some (.ref o1), some (.ref o2), z18, y19, y20, y21] = [some (.ref a), some (.ref d), x2, x3, x4, x5, x6, x7, x8, x9, x10, x11, x12, x13, x14, x15, x16, x17, x18, x19, x20, x21] := fun Hw y19 y20 y21 S => ⟨S.tape, S.tabs, _, _, _, _, _, _, _, _, _, _, _, _, _, _, _, _, _, _, _, _, rfl⟩
      have hfirst : placesBy wt [0] (hs.take s) = [p0] := hPl
      refine ⟨_, rfl, p, wt, k, rfl, Sz'.watch, ok, fun H22 Ls j g22 L st => ?_, fun H22 Ls g22 L nst => ?_⟩
      · have S22 := Sz'.gr0 g22
        have W22 := Wz.gr0 g22
        refine ⟨_, rfl, pt, swapW wt p0, k, rfl, W22, oks, fun H23 Ls' j' g23 L' st' => ⟨_, _, rfl, ?_⟩, fun H23 Ls' g23 L' nst' => ⟨_, _, rfl, ?_⟩⟩
        · have hle := (settle_there ok hp0n L L' hf3 hfirst st).2 j' st'
          have SE := fin H23 (some (.int (it wt j [0] + 1))) (some (.int (it (swapW wt p0) j' [0] + 1))) x21 (S22.gr0 g23)
          exact ⟨_, rfl, true, rfl, iteT ⟨_, rfl, false, rfl, iteF ⟨_, rfl, _, rfl, _, _, rfl, rfl, _, rfl, by
            rw [decide_eq_false (by omega)]
            exact iteF SE⟩⟩⟩
        · exact absurd (settle_there ok hp0n L L' hf3 hfirst st).1 (nst' _ (Nat.le_refl _))
      · have S22 := Sz'.gr0 g22
        have W22 := Wz.gr0 g22
        refine ⟨_, rfl, pt, swapW wt p0, k, rfl, W22, oks, fun H23 Ls' j' g23 L' st' => ⟨_, _, rfl, ?_⟩, fun H23 Ls' g23 L' nst' => ⟨_, _, rfl, ?_⟩⟩
        · refine ⟨_, rfl, false, rfl, ?_⟩
          exact fin _ _ _ _ (S22.gr0 g23)
        · refine ⟨_, rfl, false, rfl, ?_⟩
          exact fin _ _ _ _ (S22.gr0 g23)
    · rintro σ Hx ⟨TA, hTx, x2, x3, x4, x5, x6, x7, x8, x9, x10, x11, x12, x13, x14, x15, x16, x17, x18, x19, x20, x21, rfl⟩
      intro H1 rows g1 hrows
      have hT1 := tabs_gr hTx g1
      have hrl : rows.length = 3 := hrows.1
      refine ⟨by rw [List.length_map, hrl, sizeLine_eq]; omega, fun lm hlm => ?_⟩
      have g2 : Gr [] H1 (upd H1 lm (.lst (rows.map V.ref))) := .new hlm
      have hlm2 : upd H1 lm (.lst (rows.map V.ref)) lm = some (.lst (rows.map V.ref)) := upd_same
      generalize upd H1 lm (.lst (rows.map V.ref)) = H2 at g2 hlm2 ⊢
      refine ⟨by show 3 ≤ sizeLine; rw [sizeLine_eq]; omega, fun lw hlw => ?_⟩
      have g3 : Gr [] H2 (upd H2 lw (.lst (nvs [0, 0, 1]))) := .new hlw
      have hlw3 : upd H2 lw (.lst (nvs [0, 0, 1])) lw = some (.lst (nvs [0, 0, 1])) := upd_same
      generalize upd H2 lw (.lst (nvs [0, 0, 1])) = H3 at g3 hlw3 ⊢
      intro x dx hx hdx hne
      have g4 : Gr [] H3 (upd (upd H3 dx (.own x)) x (.ins CW dx [])) := ((Gr.refl [] H3).put0 hdx).put0 hx
      have hx4 : upd (upd H3 dx (.own x)) x (.ins CW dx []) x = some (.ins CW dx []) := upd_same
      generalize upd (upd H3 dx (.own x)) x (.ins CW dx []) = H4 at g4 hx4 ⊢
      have g14 := (g2.trans g3).trans g4
      have okF : (⟨[[0, 1], [0, 2], [2, 2]], [0, 0, 1]⟩ : Wt).Ok 2 := ok_of (by decide +kernel)
      refine ⟨x, lm, lw, dx, rows, [[0, 1], [0, 2], [2, 2]], [0, 0, 1], 2, rfl, hx4, (g3.trans g4).all _ _ hlm2, ⟨hrows.1, fun i r l e1 e2 => .inr (g14.tup (hrows.2 i r l e1 e2)), by decide, by decide, by decide, by decide, okF.line⟩, g4.all _ _ hlw3, rfl, by decide, tabs_gr hT1 g14, fun H5 g5 hT5 W5 => ⟨rfl, ?_⟩⟩
      obtain ⟨dxw, tm, tw, hxi, hdat⟩ := id W5
      refine ⟨_, rfl, x, dxw, _, rfl, hxi, x, dxw, _, .ref tm, rfl, hxi, wfs_moves _ _, _, rfl, x, dxw, _, rfl, hxi, x, dxw, _, .ref tw, rfl, hxi, wfs_words _ _, by show 2 ≤ sizeLine; rw [sizeLine_eq]; omega, fun tq htq => ?_⟩
      have g6 : Gr [] H5 (upd H5 tq (.tup [.ref tm, .ref tw])) := .new htq
      have htq6 : upd H5 tq (.tup [.ref tm, .ref tw]) tq = some (.tup [.ref tm, .ref tw]) := upd_same
      generalize upd H5 tq (.tup [.ref tm, .ref tw]) = H6 at g6 htq6 ⊢
      refine ⟨tq, 2, _, 2, rfl, ⟨tm, tw, htq6, hdat.gr g6⟩, okF, by decide, fun H7 b g7 hpb => ?_⟩
      have okS := swapW_ok okF (p := 2) (by decide)
      refine ⟨b, _, 2, rfl, hpb, okS, tabs_gr (tabs_gr hT5 g6) g7, fun H8 pF g8 hT8 _ W8 => ?_⟩
      have WF := ((W5.gr0 g6).gr0 g7).gx g8 (by simp)
      refine ⟨_, rfl, fun H9 r9 g9 hr9 => ⟨x, r9, _, 2, [0, 1, 1, 1], rfl, WF.gr0 g9, okF, hr9, by decide, by decide, fun H10 b10 g10 hb10 H11 r11 g11 hr11 => ⟨_, _, .tup (g11.sqT hb10) (dp_nvs _), .tup (.of hr11) (dp_nvs _), shapedT _, shapedT _, ?_⟩⟩⟩
      rw [eqv_tup]
      refine ⟨_, rfl, iteD (by decide +kernel) ?_⟩
      have gB := (g9.trans g10).trans g11
      have WF11 := WF.gr0 gB
      have W11 := W8.gr0 gB
      have lotS : Lot (⟨[[0, 1], [0, 2], [2, 2]], [0, 0, 1]⟩ : Wt) (placesBy (swapW ⟨[[0, 1], [0, 2], [2, 2]], [0, 0, 1]⟩ 2) [0] [1, 1]) := Lot.swap (Lot.by (Lot.first okS))
      refine ⟨_, rfl, fun H12 r12 g12 hr12 => ⟨pF, r12, _, 2, [1, 1], rfl, W11.gr0 g12, okS, hr12, by decide, by decide, fun H13 b13 g13 hb13 => ⟨2, b13, _, _, rfl, hb13, lotS, by decide, by decide, fun H14 b14 g14 _ hb14 => ⟨by show 1 ≤ sizeLine; rw [sizeLine_eq]; omega, fun l15 hl15 => ⟨_, _, .lst (.of ((Gr.new (ms := []) hl15).all _ _ hb14)) (dp_nvs _), .lst (.of upd_same) (dp_nvs _), shapedL _, shapedL _, ?_⟩⟩⟩⟩⟩
      rw [eqv_list]
      refine ⟨_, rfl, iteD (by decide +kernel) ?_⟩
      have gC : Gr [] H11 (upd H14 l15 (.lst (nvs [2]))) := ((g12.trans g13).trans g14).trans (.new hl15)
      have WF15 := WF11.gr0 gC
      have W15 := W11.gr0 gC
      generalize upd H14 l15 (.lst (nvs [2])) = H15 at gC WF15 W15 ⊢
      refine ⟨_, rfl, fun H16 r16 g16 hr16 => ⟨x, r16, _, 2, [0, 1, 1, 1], rfl, WF15.gr0 g16, okF, hr16, by decide, by decide, fun H17 g17 => ?_⟩⟩
      have WF17 := (WF15.gr0 g16).gr0 g17
      have W17 := (W15.gr0 g16).gr0 g17
      refine ⟨_, rfl, fun H18 r18 g18 hr18 => ⟨x, r18, _, 2, [0, 1], rfl, WF17.gr0 g18, okF, hr18, by decide, by decide, fun H19 g19 => ?_⟩⟩
      have W19 := (W17.gr0 g18).gr0 g19
      refine ⟨_, rfl, fun H20 r20 g20 hr20 => ⟨pF, r20, _, 2, [1, 1], rfl, W19.gr0 g20, okS, hr20, by decide, by decide, fun H21 g21 => ?_⟩⟩
      have e1 : cnt (⟨[[0, 1], [0, 2], [2, 2]], [0, 0, 1]⟩ : Wt) 0 [0, 1, 1, 1] = 4 := by decide +kernel
      have e2 : cnt (⟨[[0, 1], [0, 2], [2, 2]], [0, 0, 1]⟩ : Wt) 0 [0, 1] = 1 := by decide +kernel
      have e3 : cnt (swapW ⟨[[0, 1], [0, 2], [2, 2]], [0, 0, 1]⟩ 2) 0 [1, 1] = 4 := by decide +kernel
      rw [e1, e2, e3]
      refine ⟨_, _, rfl, rfl, Or.inl ⟨by decide, by decide⟩, rfl, _, rfl, iteD (by rfl) ⟨rfl, ?_⟩⟩
      have e4 : decide (V.int (((1 : Nat) : Int) * ((4 : Nat) : Int)) = V.int 4) = true := decide_eq_true rfl
      show Q (.bl (decide (V.int (((1 : Nat) : Int) * ((4 : Nat) : Int)) = V.int 4))) H21
      rw [e4]
      exact q _
end
end K75
end
set_option Elab.async false
set_option linter.all false
set_option maxRecDepth 100000
set_option maxHeartbeats 0
open PySem PySem.W PyProof.Rows
open_top head for PySem.Challenge.rw_heardwatch_k75_whole_hearing_in_two_piec
theorem K75.ends {k : Nat} {sp : World → PySem.W.Frag → (Str → Option Value) → L2.Sp} (hr : L2.Room k callerA) (hL : ∀ w, K75.LawOk PySem.Challenge.rw_heardwatch_k75_whole_hearing_in_two_piec w k (sp w))
    (hsp : ∀ (w : World) (K : PySem.W.Frag) (mg : Str → Option Value) (H : L2.Hp) (a : Addr) (ns : List Int), ns.length ≤ 63 → (∀ z ∈ ns, Builtin.Int.intBits z ≤ 1048576) → H 178 = some (.tbl #[]) → L2.SqL K H a (ns.map L2.V.int) → sp w K mg [.ref a] H (fun v _ => v = .bl true) fun _ _ _ => False) : PySem.Challenge.rw_heardwatch_k75_whole_hearing_in_two_piec.Holds := by
  refine head ?_
  refine LamX.walk_ofTs (n := 63) (k := k) (x := "script") (CX := fun _ => C8.CX0) rfl (by decide) rfl hr (fun w h Y => PySem.W.km_in_of Y) ?F (fun _ _ _ _ _ h => h)
  case F =>
    intro w mg fa h Y KX G hmg
    have hT := PySem.W.km_tabs_of Y
    refine' K75.all_mk (hL w) KX G hmg hT ?a1 ?l12 ?c13 ?k14 ?a15 ?l26 ?c27 ?k28 ?a29 ?l40 ?c41 ?k42 ?a43 ?l54 ?c55 ?k56 ?a57 ?l68 ?c69 ?k70 ?a71 ?l82 ?c83 ?k84 ?a85 ?l97 ?c98 ?k99 ?t100 ?t101 ?a102 ?l113 ?c114 ?k115 ?a116 ?l133 ?c134 ?k135 ?t136 ?a137 ?l148 ?c149 ?k150 ?a151 ?l162 ?c163 ?k164 ?a165 ?l176 ?c177 ?k178 ?a179 ?l190 ?c191 ?k192 ?a193 ?l204 ?c205 ?k206 ?a207 ?l218 ?c219 ?k220 ?a221 ?l232 ?c233 ?k234 ?a235 ?l246 ?c247 ?k248 ?a249 ?l260 ?c261 ?k262 ?a263 ?l274 ?c275 ?k276 ?a277 ?l288 ?c289 ?k290 ?a291 ?l302 ?c303 ?k304 ?a305 ?l316 ?c317 ?k318 ?a319 ?l330 ?c331 ?k332 ?a333 ?l344 ?c345 ?k346 ?a347 ?l358 ?c359 ?k360 ?a361 ?l372 ?c373 ?k374 ?a375 ?l386 ?c387 ?k388 ?a389 ?l400 ?c401 ?k402 ?a403 ?l414 ?c415 ?k416 ?a417 ?l428 ?c429 ?k430 ?a431 ?l442 ?c443 ?k444 ?a445 ?l456 ?c457 ?k458 ?a459 ?l470 ?c471 ?k472 ?a473 ?l484 ?c485 ?k486 ?a487 ?pg488 ?hd489 ?po490 ?sa491 ?mk492 ?kc493 ?is494 ?is495 ?is496 ?is497 ?n498 ?n499 ?i501 ?i502 ?l512 ?c513 ?k514 ?pr518 ?pr519 ?pr520 ?pr521 ?l531 ?c532 ?k533 ?pr537 ?pr538 ?pr539 ?pr540 ?l550 ?c551 ?k552 ?pr556 ?pr557 ?pr558 ?pr559 ?l569 ?c570 ?k571 ?a572 ?pg573 ?hd574 ?po575 ?sa576 ?mk577 ?kc578 ?n579 ?n580 ?n581 ?n582 ?i584 ?i585 ?l595 ?c596 ?k597 ?i599 ?i600 ?l610 ?c611 ?k612 ?i614 ?i615 ?l625 ?c626 ?k627 ?i629 ?i630 ?l640 ?c641 ?k642 ?i644 ?i645 ?l655 ?c656 ?k657 ?a659 ?a661 ?a663 ?a665 ?a667 ?l672 ?z673 ?z674 ?z675 ?z676 ?z677 ?z678 ?z679 ?z680 ?z681 ?z682 ?z683 ?z684 ?z685 ?z686 ?z687 ?z688 ?a690 ?l700 ?c701 ?k702 ?hsp
    case hsp => exact fun H a ns h1 h2 h3 h4 => hsp w _ _ H a ns h1 h2 h3 h4
    (case a1 => k_is)
    (case l12 => k_is)
    (case c13 => k_is)
    (case k14 => k_is)
    (case a15 => k_is)
    (case l26 => k_is)
    (case c27 => k_is)
    (case k28 => k_is)
    (case a29 => k_is)
    (case l40 => k_is)
    (case c41 => k_is)
    (case k42 => k_is)
    (case a43 => k_is)
    (case l54 => k_is)
    (case c55 => k_is)
    (case k56 => k_is)
    (case a57 => k_is)
    (case l68 => k_is)
    (case c69 => k_is)
    (case k70 => k_is)
    (case a71 => k_is)
    (case l82 => k_is)
    (case c83 => k_is)
    (case k84 => k_is)
    (case a85 => k_is)
    (case l97 => k_is)
    (case c98 => k_is)
    (case k99 => k_is)
    (case t100 => kernel_rfl)
    (case t101 => kernel_rfl)
    (case a102 => k_is)
    (case l113 => k_is)
    (case c114 => k_is)
    (case k115 => k_is)
    (case a116 => k_is)
    (case l133 => k_is)
    (case c134 => k_is)
    (case k135 => k_is)
    (case t136 => k_is)
    (case a137 => k_is)
    (case l148 => k_is)
    (case c149 => k_is)
    (case k150 => k_is)
    (case a151 => k_is)
    (case l162 => k_is)
    (case c163 => k_is)
    (case k164 => k_is)
    (case a165 => k_is)
    (case l176 => k_is)
    (case c177 => k_is)
    (case k178 => k_is)
    (case a179 => k_is)
    (case l190 => k_is)
    (case c191 => k_is)
    (case k192 => k_is)
    (case a193 => k_is)
    (case l204 => k_is)
    (case c205 => k_is)
    (case k206 => k_is)
    (case a207 => k_is)
    (case l218 => k_is)
    (case c219 => k_is)
    (case k220 => k_is)
    (case a221 => k_is)
    (case l232 => k_is)
    (case c233 => k_is)
    (case k234 => k_is)
    (case a235 => k_is)
    (case l246 => k_is)
    (case c247 => k_is)
    (case k248 => k_is)
    (case a249 => k_is)
    (case l260 => k_is)
    (case c261 => k_is)
    (case k262 => k_is)
    (case a263 => k_is)
    (case l274 => k_is)
    (case c275 => k_is)
    (case k276 => k_is)
    (case a277 => k_is)
    (case l288 => k_is)
    (case c289 => k_is)
    (case k290 => k_is)
    (case a291 => k_is)
    (case l302 => k_is)
    (case c303 => k_is)
    (case k304 => k_is)
    (case a305 => k_is)
    (case l316 => k_is)
    (case c317 => k_is)
    (case k318 => k_is)
    (case a319 => k_is)
    (case l330 => k_is)
    (case c331 => k_is)
    (case k332 => k_is)
    (case a333 => k_is)
    (case l344 => k_is)
    (case c345 => k_is)
    (case k346 => k_is)
    (case a347 => k_is)
    (case l358 => k_is)
    (case c359 => k_is)
    (case k360 => k_is)
    (case a361 => k_is)
    (case l372 => k_is)
    (case c373 => k_is)
    (case k374 => k_is)
    (case a375 => k_is)
    (case l386 => k_is)
    (case c387 => k_is)
    (case k388 => k_is)
    (case a389 => k_is)
    (case l400 => k_is)
    (case c401 => k_is)
    (case k402 => k_is)
    (case a403 => k_is)
    (case l414 => k_is)
    (case c415 => k_is)
    (case k416 => k_is)
    (case a417 => k_is)
    (case l428 => k_is)
    (case c429 => k_is)
    (case k430 => k_is)
    (case a431 => k_is)
    (case l442 => k_is)
    (case c443 => k_is)
    (case k444 => k_is)
    (case a445 => k_is)
    (case l456 => k_is)
    (case c457 => k_is)
    (case k458 => k_is)
    (case a459 => k_is)
    (case l470 => k_is)
    (case c471 => k_is)
    (case k472 => k_is)
    (case a473 => k_is)
    (case l484 => k_is)
    (case c485 => k_is)
    (case k486 => k_is)
    (case a487 => k_is)
    (case pg488 => k_is)
    (case hd489 => k_is)
    (case po490 => k_is)
    (case sa491 => k_is)
    (case mk492 => k_is)
    (case kc493 => k_is)
    (case is494 => k_is)
    (case is495 => k_is)
    (case is496 => k_is)
    (case is497 => k_is)
    (case n498 => k_is)
    (case n499 => k_is)
    (case i501 => k_is)
    (case i502 => k_is)
    (case l512 => k_is)
    (case c513 => k_is)
    (case k514 => k_is)
    (case pr518 => k_is)
    (case pr519 => k_is)
    (case pr520 => k_is)
    (case pr521 => k_is)
    (case l531 => k_is)
    (case c532 => k_is)
    (case k533 => k_is)
    (case pr537 => k_is)
    (case pr538 => k_is)
    (case pr539 => k_is)
    (case pr540 => k_is)
    (case l550 => k_is)
    (case c551 => k_is)
    (case k552 => k_is)
    (case pr556 => k_is)
    (case pr557 => k_is)
    (case pr558 => k_is)
    (case pr559 => k_is)
    (case l569 => k_is)
    (case c570 => k_is)
    (case k571 => k_is)
    (case a572 => k_is)
    (case pg573 => k_is)
    (case hd574 => k_is)
    (case po575 => k_is)
    (case sa576 => k_is)
    (case mk577 => k_is)
    (case kc578 => k_is)
    (case n579 => k_is)
    (case n580 => k_is)
    (case n581 => k_is)
    (case n582 => k_is)
    (case i584 => k_is)
    (case i585 => k_is)
    (case l595 => k_is)
    (case c596 => k_is)
    (case k597 => k_is)
    (case i599 => k_is)
    (case i600 => k_is)
    (case l610 => k_is)
    (case c611 => k_is)
    (case k612 => k_is)
    (case i614 => k_is)
    (case i615 => k_is)
    (case l625 => k_is)
    (case c626 => k_is)
    (case k627 => k_is)
    (case i629 => k_is)
    (case i630 => k_is)
    (case l640 => k_is)
    (case c641 => k_is)
    (case k642 => k_is)
    (case i644 => k_is)
    (case i645 => k_is)
    (case l655 => k_is)
    (case c656 => k_is)
    (case k657 => k_is)
    (case a659 => k_is)
    (case a661 => k_is)
    (case a663 => k_is)
    (case a665 => k_is)
    (case a667 => k_is)
    (case l672 => k_is)
    (case z673 => k_is)
    (case z674 => k_is)
    (case z675 => k_is)
    (case z676 => k_is)
    (case z677 => k_is)
    (case z678 => k_is)
    (case z679 => k_is)
    (case z680 => k_is)
    (case z681 => k_is)
    (case z682 => k_is)
    (case z683 => k_is)
    (case z684 => k_is)
    (case z685 => k_is)
    (case z686 => k_is)
    (case z687 => k_is)
    (case z688 => k_is)
    (case a690 => k_is)
    (case l700 => k_is)
    (case c701 => k_is)
    (case k702 => k_is)
theorem PySem.Challenge.cw_heardwatch_k75_whole_hearing_in_two_piec_holds : PySem.Challenge.rw_heardwatch_k75_whole_hearing_in_two_piec.Holds := by
  exact K75.ends (k := 21) (sp := fun _ K _ => K75.spLaw K) ⟨rfl, by decide, by decide⟩ (fun w K mg base CW CO f fd T F _ => K75.f_law T F) (fun w K mg H a ns h1 _ h3 h4 => ⟨a, ns, rfl, h4, h1, h3, fun _ => rfl⟩)
#print axioms PySem.Challenge.cw_heardwatch_k75_whole_hearing_in_two_piec_holds
